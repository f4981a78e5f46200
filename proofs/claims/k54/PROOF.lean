import PyProof.Rows.All
import Wide.All
import OpenK.AllK
import Wide.FinOn
import PySem.Challenge.RW_unjump_k54_form_read
import HandS.ForMost
import HandS.ForExc
import HandS.HeadHook1
import HandS.ExcCtx
import HandS.TryOnly
import HandS.RevRange
import HandS.Rev
import HandS.CallSlots
import HandS.Defaults
import HandS.IsInst
import HandS.Wide
import HandS.WideBits
import HandS.TupAny
import HandS.WordsDict
import HandS.TupLen
import HandS.Deep
import HandS.More
import HandS.Text
import HandS.RaiseMore
import HandS.Comp
import HandS.Style
import HandS.DictComp
import HandS.HeadHook4
import HandS.HeadWalk
import HandS.Words
import HandS.RevTup
import HandS.Zip
import HandS.SetFor
import HandS.ExcInit
import HandS.ExcIs
import HandS.ExcField
import HandS.TryMany
import HandS.HotCalls
import HandS.TryElse
import KE.KBits
import HandS.Codes
import KE.KDictLaws
import HandS.Iter
import HandS.Zip0
import KE.KItemsList
import KE.KDictList
import HandS.StrMore
import HandS.Head0
import HandS.Head1
import HandS.Head2
import HandS.HeadEnd
import Lean
set_option Elab.async false
set_option linter.all false
set_option maxRecDepth 100001
set_option maxHeartbeats 4000001
namespace VL
open PySem PySem.Spec PyProof.Rows L2 VL
abbrev Takes := L2N.Takes
abbrev CX := L2N.CX
abbrev PMk := L2N.PMk
theorem passAt {X : Cx} {W : WX} (tk : Takes X W) (σ : L2.St) : PassesAt (CX X.prog X.w) X σ (WE W σ) := L2N.passAt tk σ
theorem takes_of {X : Cx} {E : XK} (hs : X.stack = X.env :: X.outer) (hf : X.env.frame = some X.env.locals) (hex : X.ex = []) {E₁ : Value → Shared → Prop}
    (hx : X.xe = fun e s' => wpAny (model X.prog X.w) X.A (leaving X.env e) (fun _ s'' => CX X.prog X.w X.outer X.H_0 X.s_0 E e s'') E₁ s') : Takes X (fun cls d _ H => E cls d H) := L2N.takes_of hs hf hex hx
/-- a text by its codes -/
abbrev Cs := List Nat
def toS (s : Cs) : Str := ⟨s.toArray⟩
theorem toS_inj {a b : Cs} (h : toS a = toS b) : a = b := by
  have h2 : a.toArray = b.toArray := congrArg Str.cps h
  simpa using congrArg Array.toList h2
theorem toS_cps (x : Str) : toS x.cps.toList = x := by
  show (⟨x.cps.toList.toArray⟩ : Str) = x
  rw [Array.toArray_toList]
/-- a dict's key: an int, a text -/
abbrev Kc := Sum Int Cs
def kc : Kc → Key
  | .inl i => .inl i
  | .inr s => .inr (toS s)
theorem kc_inj {a b : Kc} (h : kc a = kc b) : a = b := by
  cases a <;> cases b <;> simp only [kc, Sum.inl.injEq, Sum.inr.injEq, reduceCtorEq] at h
  · rw [h]
  · rw [toS_inj h]
/-- Python's data as a tree. The flag m of a mutable node: it is ours alone (true), or it stands still (false) -/
inductive D where
  | hole
  | val (v : V)
  | non
  | bl (b : Bool)
  | int (i : Int)
  | str (s : Cs)
  | ty (n : String)
  | tup (xs : List D)
  | lst (m : Bool) (xs : List D)
  | dK (m : Bool) (ks : List Kc) (xs : List D)
  | dT (m : Bool) (ks : List (List Kc)) (xs : List D)
  | ins (m : Bool) (C : Addr) (fs : List Cs) (xs : List D)
  | pin (v : V) (d : D)
  | exn (a dd : Addr) (cls : Value) (row : D)
deriving Inhabited
/-- the value of a class: an own one by its name -/
def clsV (K : PySem.W.Frag) : Value → Value
  | .type s => .ref (He.ga K (Str.ofString s))
  | v => v
/-- an exception's object, kept -/
def exk (cls : Value) (dd a : Addr) : HO := .ext fun h => ∃ (oe : Obj) (vs : Array Value), h.get? a = some oe ∧ Zc cls (some dd) oe ∧ oe.data = .fields vs
/-- the program's own classes, by number -/
def cA (K : PySem.W.Frag) : Nat → Addr
  | 0 => He.ga K "Deeds"
  | 1 => He.ga K "Opened"
  | 2 => He.ga K "Teller"
  | 3 => He.ga K "Versions"
  | 4 => He.ga K "DeedsByVersions"
  | n => n
def kzip (ks : List Kc) (vs : List V) : List (Key × V) := (ks.map kc).zip vs
def tzip (ks : List (List Kc)) (vs : List V) : List (List Key × V) := (ks.map (·.map kc)).zip vs
def fzip (fs : List Cs) (vs : List V) : List (Str × V) := (fs.map toS).zip vs
/-- what G holds stands in H -/
def Sub (G H : Hp) : Prop := ∀ a o, G a = some o → H a = some o
theorem Sub.refl {G : Hp} : Sub G G := fun _ _ e => e
theorem Sub.trans {A B C : Hp} (h : Sub A B) (k : Sub B C) : Sub A C := fun a o e => k a o (h a o e)
theorem Sub.rd {G H : Hp} (h : Sub G H) {a : Addr} {u : HO} (r : Rd G a u) : Rd H a u := by
  rcases r with r | ⟨o, r⟩
  · exact .inl (h _ _ r)
  · exact .inr ⟨o, h _ _ r⟩
theorem Sub.sqL {K : PySem.W.Frag} {G H : Hp} (h : Sub G H) {a : Addr} {xs : List V} (r : SqL K G a xs) : SqL K H a xs := by
  rcases r with r | r
  · exact .inl (h.rd r)
  · exact .inr r
theorem Sub.upd {G H : Hp} {a : Addr} {o : HO} (h : Sub G H) (n : G a = none) : Sub G (upd H a o) := fun b u e => by
  rw [upd_ne (ne_of_none e n)]
  exact h b u e
theorem Sub.upd2 {G H : Hp} {a : Addr} {o : HO} (h : Sub G H) : Sub (L2.upd G a o) (L2.upd H a o) := fun b u e => by
  by_cases hb : b = a
  · subst hb
    rw [upd_same] at e ⊢
    exact e
  · rw [upd_ne hb] at e ⊢
    exact h b u e
theorem Sub.laid {G : Hp} {a : Addr} {o : HO} (n : G a = none) : Sub G (L2.upd G a o) := Sub.refl.upd n
mutual
/-- v is d: what stands still in G, what is ours at the addresses F in H -/
def Rp (K : PySem.W.Frag) (G H : Hp) : D → V → List Addr → Prop
  | .hole, _, F => F = []
  | .val u, v, F => v = u ∧ F = []
  | .non, v, F => v = .non ∧ F = []
  | .bl b, v, F => v = .bl b ∧ F = []
  | .int i, v, F => v = .int i ∧ F = []
  | .str s, v, F => v = .str (toS s) ∧ F = []
  | .ty n, v, F => v = .ty n ∧ F = []
  | .pin u d, v, F => v = u ∧ Rp K G H d v F
  | .exn a dd cls row, v, F => (v = .ref a ∧ G a = some (exk (clsV K cls) dd a)) ∧ ∃ w, G dd = some (.xd [("row", w)]) ∧ Rp K G H row w F
  | .tup ds, v, F => ∃ a vs, v = .ref a ∧ G a = some (.tup vs) ∧ RpL K G H ds vs F
  | .lst false ds, v, F => ∃ a vs, v = .ref a ∧ SqL K G a vs ∧ F = [] ∧ RpL K G H ds vs []
  | .lst true ds, v, F => ∃ a vs F', v = .ref a ∧ H a = some (.lst vs) ∧ F = a :: F' ∧ RpL K G H ds vs F'
  | .dK false ks ds, v, F => ∃ a vs, v = .ref a ∧ Rd G a (.dK (kzip ks vs)) ∧ F = [] ∧ ks.length = ds.length ∧ ks.Nodup ∧ RpL K G H ds vs []
  | .dK true ks ds, v, F => ∃ a vs F', v = .ref a ∧ H a = some (.dK (kzip ks vs)) ∧ F = a :: F' ∧ ks.length = ds.length ∧ ks.Nodup ∧ RpL K G H ds vs F'
  | .dT false ks ds, v, F => ∃ a vs, v = .ref a ∧ G a = some (.dT (tzip ks vs)) ∧ F = [] ∧ ks.length = ds.length ∧ ks.Nodup ∧ RpL K G H ds vs []
  | .dT true ks ds, v, F => ∃ a vs F', v = .ref a ∧ H a = some (.dT (tzip ks vs)) ∧ F = a :: F' ∧ ks.length = ds.length ∧ ks.Nodup ∧ RpL K G H ds vs F'
  | .ins false C fs ds, v, F => ∃ a dx vs, v = .ref a ∧ G a = some (.ins (cA K C) dx (fzip fs vs)) ∧ F = [] ∧ fs.length = ds.length ∧ RpL K G H ds vs []
  | .ins true C fs ds, v, F => ∃ a dx vs F', v = .ref a ∧ H a = some (.ins (cA K C) dx (fzip fs vs)) ∧ F = a :: F' ∧ fs.length = ds.length ∧ RpL K G H ds vs F'
def RpL (K : PySem.W.Frag) (G H : Hp) : List D → List V → List Addr → Prop
  | [], vs, F => vs = [] ∧ F = []
  | d :: ds, vs, F => ∃ v vs' F1 F2, vs = v :: vs' ∧ F = F1 ++ F2 ∧ Rp K G H d v F1 ∧ RpL K G H ds vs' F2
end
section
variable {K : PySem.W.Frag} {G G' H H' : Hp}
mutual
/-- carried over: G grows, our own objects stay -/
theorem Rp.mono (hs : Sub G G') : ∀ {d : D} {v : V} {F : List Addr}, (∀ a ∈ F, H' a = H a) → Rp K G H d v F → Rp K G' H' d v F
  | .hole, _, _, _, h => h
  | .val _, _, _, _, h => h
  | .non, _, _, _, h => h
  | .bl _, _, _, _, h => h
  | .int _, _, _, _, h => h
  | .str _, _, _, _, h => h
  | .ty _, _, _, _, h => h
  | .pin u d, v, F, k, h => ⟨h.1, Rp.mono hs k h.2⟩
  | .exn _ _ _ row, v, F, k, h => by
    obtain ⟨e, w, s, r⟩ := h
    exact ⟨⟨e.1, hs _ _ e.2⟩, w, hs _ _ s, Rp.mono hs k r⟩
  | .tup ds, v, F, k, h => by
    obtain ⟨a, vs, e, s, r⟩ := h
    exact ⟨a, vs, e, hs _ _ s, RpL.mono hs k r⟩
  | .lst false ds, v, F, k, h => by
    obtain ⟨a, vs, e, s, f, r⟩ := h
    exact ⟨a, vs, e, hs.sqL s, f, RpL.mono hs (fun _ z => nomatch z) r⟩
  | .lst true ds, v, F, k, h => by
    obtain ⟨a, vs, F', e, s, rfl, r⟩ := h
    exact ⟨a, vs, F', e, (k a List.mem_cons_self).trans s, rfl, RpL.mono hs (fun b z => k b (List.mem_cons_of_mem _ z)) r⟩
  | .dK false ks ds, v, F, k, h => by
    obtain ⟨a, vs, e, s, f, l, n, r⟩ := h
    exact ⟨a, vs, e, hs.rd s, f, l, n, RpL.mono hs (fun _ z => nomatch z) r⟩
  | .dK true ks ds, v, F, k, h => by
    obtain ⟨a, vs, F', e, s, rfl, l, n, r⟩ := h
    exact ⟨a, vs, F', e, (k a List.mem_cons_self).trans s, rfl, l, n, RpL.mono hs (fun b z => k b (List.mem_cons_of_mem _ z)) r⟩
  | .dT false ks ds, v, F, k, h => by
    obtain ⟨a, vs, e, s, f, l, n, r⟩ := h
    exact ⟨a, vs, e, hs _ _ s, f, l, n, RpL.mono hs (fun _ z => nomatch z) r⟩
  | .dT true ks ds, v, F, k, h => by
    obtain ⟨a, vs, F', e, s, rfl, l, n, r⟩ := h
    exact ⟨a, vs, F', e, (k a List.mem_cons_self).trans s, rfl, l, n, RpL.mono hs (fun b z => k b (List.mem_cons_of_mem _ z)) r⟩
  | .ins false C fs ds, v, F, k, h => by
    obtain ⟨a, dx, vs, e, s, f, l, r⟩ := h
    exact ⟨a, dx, vs, e, hs _ _ s, f, l, RpL.mono hs (fun _ z => nomatch z) r⟩
  | .ins true C fs ds, v, F, k, h => by
    obtain ⟨a, dx, vs, F', e, s, rfl, l, r⟩ := h
    exact ⟨a, dx, vs, F', e, (k a List.mem_cons_self).trans s, rfl, l, RpL.mono hs (fun b z => k b (List.mem_cons_of_mem _ z)) r⟩
theorem RpL.mono (hs : Sub G G') : ∀ {ds : List D} {vs : List V} {F : List Addr}, (∀ a ∈ F, H' a = H a) → RpL K G H ds vs F → RpL K G' H' ds vs F
  | [], _, _, _, h => h
  | d :: ds, vs, F, k, h => by
    obtain ⟨v, vs', F1, F2, rfl, rfl, r, rs⟩ := h
    exact ⟨v, vs', F1, F2, rfl, rfl, Rp.mono hs (fun a z => k a (List.mem_append_left _ z)) r, RpL.mono hs (fun a z => k a (List.mem_append_right _ z)) rs⟩
end
mutual
/-- what is ours stands -/
theorem Rp.there : ∀ {d : D} {v : V} {F : List Addr}, Rp K G H d v F → ∀ a ∈ F, ∃ o, H a = some o ∧ Mut (some o)
  | .hole, _, _, h, a, z => by rw [show _ = [] from h] at z; cases z
  | .val _, _, _, h, a, z => by rw [h.2] at z; cases z
  | .non, _, _, h, a, z => by rw [h.2] at z; cases z
  | .bl _, _, _, h, a, z => by rw [h.2] at z; cases z
  | .int _, _, _, h, a, z => by rw [h.2] at z; cases z
  | .str _, _, _, h, a, z => by rw [h.2] at z; cases z
  | .ty _, _, _, h, a, z => by rw [h.2] at z; cases z
  | .pin u d, v, F, h, a, z => Rp.there h.2 a z
  | .exn _ _ _ row, v, F, h, a, z => by
    obtain ⟨e, w, s, r⟩ := h
    exact Rp.there r a z
  | .tup ds, v, F, h, a, z => by
    obtain ⟨_, vs, e, s, r⟩ := h
    exact RpL.there r a z
  | .lst false ds, v, F, h, a, z => by
    obtain ⟨_, vs, e, s, f, r⟩ := h
    rw [f] at z; cases z
  | .lst true ds, v, F, h, a, z => by
    obtain ⟨b, vs, F', e, s, rfl, r⟩ := h
    rcases List.mem_cons.mp z with rfl | z
    · exact ⟨_, s, trivial⟩
    · exact RpL.there r a z
  | .dK false ks ds, v, F, h, a, z => by
    obtain ⟨_, vs, e, s, f, _, _, r⟩ := h
    rw [f] at z; cases z
  | .dK true ks ds, v, F, h, a, z => by
    obtain ⟨b, vs, F', e, s, rfl, _, _, r⟩ := h
    rcases List.mem_cons.mp z with rfl | z
    · exact ⟨_, s, trivial⟩
    · exact RpL.there r a z
  | .dT false ks ds, v, F, h, a, z => by
    obtain ⟨_, vs, e, s, f, _, _, r⟩ := h
    rw [f] at z; cases z
  | .dT true ks ds, v, F, h, a, z => by
    obtain ⟨b, vs, F', e, s, rfl, _, _, r⟩ := h
    rcases List.mem_cons.mp z with rfl | z
    · exact ⟨_, s, trivial⟩
    · exact RpL.there r a z
  | .ins false C fs ds, v, F, h, a, z => by
    obtain ⟨_, _, vs, e, s, f, _, r⟩ := h
    rw [f] at z; cases z
  | .ins true C fs ds, v, F, h, a, z => by
    obtain ⟨b, dx, vs, F', e, s, rfl, _, r⟩ := h
    rcases List.mem_cons.mp z with rfl | z
    · exact ⟨_, s, trivial⟩
    · exact RpL.there r a z
theorem RpL.there : ∀ {ds : List D} {vs : List V} {F : List Addr}, RpL K G H ds vs F → ∀ a ∈ F, ∃ o, H a = some o ∧ Mut (some o)
  | [], _, _, h, a, z => by rw [h.2] at z; cases z
  | d :: ds, vs, F, h, a, z => by
    obtain ⟨v, vs', F1, F2, rfl, rfl, r, rs⟩ := h
    rcases List.mem_append.mp z with z | z
    · exact Rp.there r a z
    · exact RpL.there rs a z
end
theorem RpL.len : ∀ {ds : List D} {vs : List V} {F : List Addr}, RpL K G H ds vs F → ds.length = vs.length
  | [], _, _, h => by rw [h.1]; rfl
  | d :: ds, vs, F, h => by
    obtain ⟨v, vs', F1, F2, rfl, rfl, r, rs⟩ := h
    rw [List.length_cons, List.length_cons, RpL.len rs]
theorem RpL.append : ∀ {ds es : List D} {vs ws : List V} {F1 F2 : List Addr}, RpL K G H ds vs F1 → RpL K G H es ws F2 → RpL K G H (ds ++ es) (vs ++ ws) (F1 ++ F2)
  | [], es, vs, ws, F1, F2, h, k => by
    obtain ⟨rfl, rfl⟩ := h
    exact k
  | d :: ds, es, vs, ws, F1, F2, h, k => by
    obtain ⟨v, vs', A, B, rfl, rfl, r, rs⟩ := h
    exact ⟨v, vs' ++ ws, A, B ++ F2, rfl, List.append_assoc .., r, RpL.append rs k⟩
theorem RpL.split : ∀ {ds es : List D} {us : List V} {F : List Addr}, RpL K G H (ds ++ es) us F → ∃ vs ws F1 F2, us = vs ++ ws ∧ F = F1 ++ F2 ∧ RpL K G H ds vs F1 ∧ RpL K G H es ws F2
  | [], es, us, F, h => ⟨[], us, [], F, rfl, rfl, ⟨rfl, rfl⟩, h⟩
  | d :: ds, es, us, F, h => by
    obtain ⟨v, vs', A, B, rfl, rfl, r, rs⟩ := h
    obtain ⟨vs, ws, F1, F2, rfl, rfl, r1, r2⟩ := RpL.split rs
    exact ⟨v :: vs, ws, A ++ F1, F2, rfl, (List.append_assoc ..).symm, ⟨v, vs, A, F1, rfl, rfl, r, r1⟩, r2⟩
/-- where the values are told already -/
theorem RpL.split2 {ds es : List D} {vs ws : List V} {F : List Addr} (h : RpL K G H (ds ++ es) (vs ++ ws) F) (hl : ds.length = vs.length) : ∃ F1 F2, F = F1 ++ F2 ∧ RpL K G H ds vs F1 ∧ RpL K G H es ws F2 := by
  obtain ⟨vs', ws', F1, F2, e, f, r1, r2⟩ := RpL.split h
  obtain ⟨rfl, rfl⟩ := List.append_inj e (hl.symm.trans r1.len)
  exact ⟨F1, F2, f, r1, r2⟩
theorem RpL.one {d : D} {v : V} {F : List Addr} : RpL K G H [d] [v] F ↔ Rp K G H d v F := by
  constructor
  · rintro ⟨v', vs', F1, F2, e, rfl, r, rfl, rfl⟩
    cases e
    rw [List.append_nil]
    exact r
  · intro r
    exact ⟨v, [], F, [], rfl, (List.append_nil _).symm, r, rfl, rfl⟩
theorem RpL.get : ∀ {ds : List D} {vs : List V} {i : Nat} {d : D}, RpL K G H ds vs [] → ds[i]? = some d → ∃ v, vs[i]? = some v ∧ Rp K G H d v []
  | [], _, _, _, _, e => by simp at e
  | d :: ds, vs, 0, d', h, e => by
    obtain ⟨v, vs', F1, F2, rfl, f, r, rs⟩ := h
    obtain ⟨rfl, rfl⟩ := List.append_eq_nil_iff.mp f.symm
    simp at e
    subst e
    exact ⟨v, rfl, r⟩
  | d :: ds, vs, i + 1, d', h, e => by
    obtain ⟨v, vs', F1, F2, rfl, f, r, rs⟩ := h
    obtain ⟨rfl, rfl⟩ := List.append_eq_nil_iff.mp f.symm
    obtain ⟨w, hw, q⟩ := RpL.get (i := i) rs (by simpa using e)
    exact ⟨w, by simpa using hw, q⟩
/-- one place of a list, the others around it -/
theorem RpL.focus : ∀ {ds : List D} {vs : List V} {F : List Addr} {i : Nat} {d : D}, RpL K G H ds vs F → ds[i]? = some d →
    ∃ v A B C, vs[i]? = some v ∧ F = A ++ B ++ C ∧ Rp K G H d v B ∧ ∀ (G' H' : Hp) (d' : D) (v' : V) (B' : List Addr), Sub G G' → (∀ a ∈ A ++ C, H' a = H a) → Rp K G' H' d' v' B' → RpL K G' H' (ds.set i d') (vs.set i v') (A ++ B' ++ C)
  | [], _, _, _, _, _, e => by simp at e
  | d :: ds, vs, F, 0, d', h, e => by
    obtain ⟨v, vs', F1, F2, rfl, rfl, r, rs⟩ := h
    simp at e
    subst e
    refine ⟨v, [], F1, F2, rfl, rfl, r, fun G' H' d' v' B' hs k r' => ?_⟩
    exact ⟨v', vs', B', F2, rfl, rfl, r', RpL.mono hs k rs⟩
  | d :: ds, vs, F, i + 1, d', h, e => by
    obtain ⟨v, vs', F1, F2, rfl, rfl, r, rs⟩ := h
    obtain ⟨w, A, B, C, hw, rfl, q, back⟩ := RpL.focus (i := i) rs (by simpa using e)
    refine ⟨w, F1 ++ A, B, C, by simpa using hw, by simp only [List.append_assoc], q, fun G' H' d'' v'' B' hs k r' => ?_⟩
    refine ⟨v, vs'.set i v'', F1, A ++ B' ++ C, rfl, by simp only [List.append_assoc], Rp.mono hs (fun a z => k a ?_) r, back G' H' d'' v'' B' hs (fun a z => k a ?_) r'⟩
    · exact List.mem_append_left _ (List.mem_append_left _ z)
    · rcases List.mem_append.mp z with z | z
      · exact List.mem_append_left _ (List.mem_append_right _ z)
      · exact List.mem_append_right _ z
end
mutual
def frz : D → D
  | .hole => .hole
  | .val v => .val v
  | .non => .non
  | .bl b => .bl b
  | .int i => .int i
  | .str s => .str s
  | .ty n => .ty n
  | .pin u d => .pin u (frz d)
  | .exn a dd c row => .exn a dd c (frz row)
  | .tup xs => .tup (frzL xs)
  | .lst _ xs => .lst false (frzL xs)
  | .dK _ ks xs => .dK false ks (frzL xs)
  | .dT _ ks xs => .dT false ks (frzL xs)
  | .ins _ C fs xs => .ins false C fs (frzL xs)
def frzL : List D → List D
  | [] => []
  | d :: ds => frz d :: frzL ds
end
mutual
/-- nothing in it is ours -/
def isFz : D → Bool
  | .hole => true
  | .val _ => true
  | .non => true
  | .bl _ => true
  | .int _ => true
  | .str _ => true
  | .ty _ => true
  | .pin _ d => isFz d
  | .exn _ _ _ row => isFz row
  | .tup xs => isFzL xs
  | .lst m xs => !m && isFzL xs
  | .dK m _ xs => !m && isFzL xs
  | .dT m _ xs => !m && isFzL xs
  | .ins m _ _ xs => !m && isFzL xs
def isFzL : List D → Bool
  | [] => true
  | d :: ds => isFz d && isFzL ds
end
theorem frzL_map : ∀ ds : List D, frzL ds = ds.map frz
  | [] => rfl
  | d :: ds => by rw [frzL, frzL_map ds, List.map_cons]
theorem isFzL_all : ∀ ds : List D, isFzL ds = ds.all isFz
  | [] => rfl
  | d :: ds => by rw [isFzL, isFzL_all ds, List.all_cons]
section
variable {K : PySem.W.Frag} {G G' H H' : Hp}
mutual
theorem Rp.fz : ∀ {d : D} {v : V} {F : List Addr}, isFz d = true → Rp K G H d v F → F = []
  | .hole, _, _, _, h => h
  | .val _, _, _, _, h => h.2
  | .non, _, _, _, h => h.2
  | .bl _, _, _, _, h => h.2
  | .int _, _, _, _, h => h.2
  | .str _, _, _, _, h => h.2
  | .ty _, _, _, _, h => h.2
  | .pin u d, v, F, q, h => Rp.fz (d := d) q h.2
  | .exn _ _ _ row, v, F, q, h => by
    obtain ⟨e, w, s, r⟩ := h
    exact Rp.fz (d := row) q r
  | .tup ds, v, F, q, h => by
    obtain ⟨_, vs, e, s, r⟩ := h
    exact RpL.fz (by simpa [isFz] using q) r
  | .lst false ds, v, F, q, h => by
    obtain ⟨_, vs, e, s, f, r⟩ := h
    exact f
  | .lst true ds, v, F, q, h => by simp [isFz] at q
  | .dK false ks ds, v, F, q, h => by
    obtain ⟨_, vs, e, s, f, _⟩ := h
    exact f
  | .dK true ks ds, v, F, q, h => by simp [isFz] at q
  | .dT false ks ds, v, F, q, h => by
    obtain ⟨_, vs, e, s, f, _⟩ := h
    exact f
  | .dT true ks ds, v, F, q, h => by simp [isFz] at q
  | .ins false C fs ds, v, F, q, h => by
    obtain ⟨_, _, vs, e, s, f, _⟩ := h
    exact f
  | .ins true C fs ds, v, F, q, h => by simp [isFz] at q
theorem RpL.fz : ∀ {ds : List D} {vs : List V} {F : List Addr}, isFzL ds = true → RpL K G H ds vs F → F = []
  | [], _, _, _, h => h.2
  | d :: ds, vs, F, q, h => by
    obtain ⟨v, vs', F1, F2, rfl, rfl, r, rs⟩ := h
    have q2 : (isFz d && isFzL ds) = true := q
    obtain ⟨q3, q4⟩ := Bool.and_eq_true_iff.mp q2
    rw [Rp.fz q3 r, RpL.fz q4 rs]
    rfl
end
mutual
/-- what is ours is let stand still -/
theorem Rp.freeze (hs : Sub G G') : ∀ {d : D} {v : V} {F : List Addr}, (∀ a ∈ F, G' a = H a) → Rp K G H d v F → Rp K G' H' (frz d) v []
  | .hole, _, _, _, h => rfl
  | .val _, _, _, _, h => ⟨h.1, rfl⟩
  | .non, _, _, _, h => ⟨h.1, rfl⟩
  | .bl _, _, _, _, h => ⟨h.1, rfl⟩
  | .int _, _, _, _, h => ⟨h.1, rfl⟩
  | .str _, _, _, _, h => ⟨h.1, rfl⟩
  | .ty _, _, _, _, h => ⟨h.1, rfl⟩
  | .pin u d, v, F, k, h => ⟨h.1, Rp.freeze hs k h.2⟩
  | .exn _ _ _ row, v, F, k, h => by
    obtain ⟨e, w, s, r⟩ := h
    exact ⟨⟨e.1, hs _ _ e.2⟩, w, hs _ _ s, Rp.freeze hs k r⟩
  | .tup ds, v, F, k, h => by
    obtain ⟨a, vs, e, s, r⟩ := h
    exact ⟨a, vs, e, hs _ _ s, RpL.freeze hs k r⟩
  | .lst false ds, v, F, k, h => by
    obtain ⟨a, vs, e, s, f, r⟩ := h
    exact ⟨a, vs, e, hs.sqL s, rfl, RpL.freeze (F := []) hs (fun _ z => nomatch z) r⟩
  | .lst true ds, v, F, k, h => by
    obtain ⟨a, vs, F', e, s, rfl, r⟩ := h
    exact ⟨a, vs, e, SqL.of ((k a List.mem_cons_self).trans s), rfl, RpL.freeze hs (fun b z => k b (List.mem_cons_of_mem _ z)) r⟩
  | .dK false ks ds, v, F, k, h => by
    obtain ⟨a, vs, e, s, f, l, n, r⟩ := h
    exact ⟨a, vs, e, hs.rd s, rfl, by rw [frzL_map, List.length_map]; exact l, n, RpL.freeze (F := []) hs (fun _ z => nomatch z) r⟩
  | .dK true ks ds, v, F, k, h => by
    obtain ⟨a, vs, F', e, s, rfl, l, n, r⟩ := h
    exact ⟨a, vs, e, .inl ((k a List.mem_cons_self).trans s), rfl, by rw [frzL_map, List.length_map]; exact l, n, RpL.freeze hs (fun b z => k b (List.mem_cons_of_mem _ z)) r⟩
  | .dT false ks ds, v, F, k, h => by
    obtain ⟨a, vs, e, s, f, l, n, r⟩ := h
    exact ⟨a, vs, e, hs _ _ s, rfl, by rw [frzL_map, List.length_map]; exact l, n, RpL.freeze (F := []) hs (fun _ z => nomatch z) r⟩
  | .dT true ks ds, v, F, k, h => by
    obtain ⟨a, vs, F', e, s, rfl, l, n, r⟩ := h
    exact ⟨a, vs, e, (k a List.mem_cons_self).trans s, rfl, by rw [frzL_map, List.length_map]; exact l, n, RpL.freeze hs (fun b z => k b (List.mem_cons_of_mem _ z)) r⟩
  | .ins false C fs ds, v, F, k, h => by
    obtain ⟨a, dx, vs, e, s, f, l, r⟩ := h
    exact ⟨a, dx, vs, e, hs _ _ s, rfl, by rw [frzL_map, List.length_map]; exact l, RpL.freeze (F := []) hs (fun _ z => nomatch z) r⟩
  | .ins true C fs ds, v, F, k, h => by
    obtain ⟨a, dx, vs, F', e, s, rfl, l, r⟩ := h
    exact ⟨a, dx, vs, e, (k a List.mem_cons_self).trans s, rfl, by rw [frzL_map, List.length_map]; exact l, RpL.freeze hs (fun b z => k b (List.mem_cons_of_mem _ z)) r⟩
theorem RpL.freeze (hs : Sub G G') : ∀ {ds : List D} {vs : List V} {F : List Addr}, (∀ a ∈ F, G' a = H a) → RpL K G H ds vs F → RpL K G' H' (frzL ds) vs []
  | [], _, _, _, h => ⟨h.1, rfl⟩
  | d :: ds, vs, F, k, h => by
    obtain ⟨v, vs', F1, F2, rfl, rfl, r, rs⟩ := h
    exact ⟨v, vs', [], [], rfl, rfl, Rp.freeze hs (fun a z => k a (List.mem_append_left _ z)) r, RpL.freeze hs (fun a z => k a (List.mem_append_right _ z)) rs⟩
end
end
mutual
theorem frz_id : ∀ {d : D}, isFz d = true → frz d = d
  | .hole, _ => rfl
  | .val _, _ => rfl
  | .non, _ => rfl
  | .bl _, _ => rfl
  | .int _, _ => rfl
  | .str _, _ => rfl
  | .ty _, _ => rfl
  | .pin u d, q => by rw [frz, frz_id (d := d) q]
  | .exn _ _ _ row, q => by rw [frz, frz_id (d := row) q]
  | .tup xs, q => by rw [frz, frzL_id (by simpa [isFz] using q)]
  | .lst m xs, q => by
    obtain ⟨q1, q2⟩ := Bool.and_eq_true_iff.mp (show (!m && isFzL xs) = true from q)
    rw [frz, frzL_id q2, show m = false by simpa using q1]
  | .dK m ks xs, q => by
    obtain ⟨q1, q2⟩ := Bool.and_eq_true_iff.mp (show (!m && isFzL xs) = true from q)
    rw [frz, frzL_id q2, show m = false by simpa using q1]
  | .dT m ks xs, q => by
    obtain ⟨q1, q2⟩ := Bool.and_eq_true_iff.mp (show (!m && isFzL xs) = true from q)
    rw [frz, frzL_id q2, show m = false by simpa using q1]
  | .ins m C fs xs, q => by
    obtain ⟨q1, q2⟩ := Bool.and_eq_true_iff.mp (show (!m && isFzL xs) = true from q)
    rw [frz, frzL_id q2, show m = false by simpa using q1]
theorem frzL_id : ∀ {ds : List D}, isFzL ds = true → frzL ds = ds
  | [], _ => rfl
  | d :: ds, q => by
    obtain ⟨q1, q2⟩ := Bool.and_eq_true_iff.mp (show (isFz d && isFzL ds) = true from q)
    rw [frzL, frz_id q1, frzL_id q2]
end
mutual
theorem isFz_frz : ∀ d : D, isFz (frz d) = true
  | .hole => rfl
  | .val _ => rfl
  | .non => rfl
  | .bl _ => rfl
  | .int _ => rfl
  | .str _ => rfl
  | .ty _ => rfl
  | .pin u d => by rw [frz, isFz, isFz_frz]
  | .exn _ _ _ row => by rw [frz, isFz, isFz_frz]
  | .tup xs => by rw [frz, isFz, isFzL_frz]
  | .lst m xs => by rw [frz, isFz, isFzL_frz]; rfl
  | .dK m ks xs => by rw [frz, isFz, isFzL_frz]; rfl
  | .dT m ks xs => by rw [frz, isFz, isFzL_frz]; rfl
  | .ins m C fs xs => by rw [frz, isFz, isFzL_frz]; rfl
theorem isFzL_frz : ∀ ds : List D, isFzL (frzL ds) = true
  | [] => rfl
  | d :: ds => by rw [frzL, isFzL, isFz_frz, isFzL_frz]; rfl
end
end VL
namespace VL
open PySem PySem.Spec PyProof.Rows L2 VL
abbrev Ep := List (Option D)
/-- a slot: told, or not told -/
def RpO (K : PySem.W.Frag) (G H : Hp) : Option D → Option V → List Addr → Prop
  | none, _, F => F = []
  | some d, ov, F => ∃ v, ov = some v ∧ Rp K G H d v F
def RpS (K : PySem.W.Frag) (G H : Hp) : Ep → L2.St → List Addr → Prop
  | [], σ, F => σ = [] ∧ F = []
  | od :: ε, σ, F => ∃ ov σ' F1 F2, σ = ov :: σ' ∧ F = F1 ++ F2 ∧ RpO K G H od ov F1 ∧ RpS K G H ε σ' F2
section
variable {K : PySem.W.Frag} {G G' H H' : Hp}
theorem RpO.mono (hs : Sub G G') {od : Option D} {ov : Option V} {F : List Addr} (k : ∀ a ∈ F, H' a = H a) (h : RpO K G H od ov F) : RpO K G' H' od ov F := by
  cases od with
  | none => exact h
  | some d =>
    obtain ⟨v, e, r⟩ := h
    exact ⟨v, e, r.mono hs k⟩
theorem RpS.mono (hs : Sub G G') : ∀ {ε : Ep} {σ : L2.St} {F : List Addr}, (∀ a ∈ F, H' a = H a) → RpS K G H ε σ F → RpS K G' H' ε σ F
  | [], _, _, _, h => h
  | od :: ε, σ, F, k, h => by
    obtain ⟨ov, σ', F1, F2, rfl, rfl, r, rs⟩ := h
    exact ⟨ov, σ', F1, F2, rfl, rfl, r.mono hs (fun a z => k a (List.mem_append_left _ z)), RpS.mono hs (fun a z => k a (List.mem_append_right _ z)) rs⟩
theorem RpS.there : ∀ {ε : Ep} {σ : L2.St} {F : List Addr}, RpS K G H ε σ F → ∀ a ∈ F, ∃ o, H a = some o ∧ Mut (some o)
  | [], _, _, h, a, z => by rw [h.2] at z; cases z
  | od :: ε, σ, F, h, a, z => by
    obtain ⟨ov, σ', F1, F2, rfl, rfl, r, rs⟩ := h
    rcases List.mem_append.mp z with z | z
    · cases od with
      | none => rw [show F1 = [] from r] at z; cases z
      | some d =>
        obtain ⟨v, _, r⟩ := r
        exact r.there a z
    · exact RpS.there rs a z
theorem RpS.focus : ∀ {ε : Ep} {σ : L2.St} {F : List Addr} {i : Nat} {od : Option D}, RpS K G H ε σ F → ε[i]? = some od →
    ∃ ov A B C, σ[i]? = some ov ∧ F = A ++ B ++ C ∧ RpO K G H od ov B ∧ ∀ (G' H' : Hp) (od' : Option D) (ov' : Option V) (B' : List Addr), Sub G G' → (∀ a ∈ A ++ C, H' a = H a) → RpO K G' H' od' ov' B' → RpS K G' H' (ε.set i od') (σ.set i ov') (A ++ B' ++ C)
  | [], _, _, _, _, _, e => by simp at e
  | od :: ε, σ, F, 0, od', h, e => by
    obtain ⟨ov, σ', F1, F2, rfl, rfl, r, rs⟩ := h
    simp at e
    subst e
    refine ⟨ov, [], F1, F2, rfl, rfl, r, fun G' H' od' ov' B' hs k r' => ?_⟩
    exact ⟨ov', σ', B', F2, rfl, rfl, r', RpS.mono hs k rs⟩
  | od :: ε, σ, F, i + 1, od', h, e => by
    obtain ⟨ov, σ', F1, F2, rfl, rfl, r, rs⟩ := h
    obtain ⟨w, A, B, C, hw, rfl, q, back⟩ := RpS.focus (i := i) rs (by simpa using e)
    refine ⟨w, F1 ++ A, B, C, by simpa using hw, by simp only [List.append_assoc], q, fun G' H' od'' ov'' B' hs k r' => ?_⟩
    refine ⟨ov, σ'.set i ov'', F1, A ++ B' ++ C, rfl, by simp only [List.append_assoc], r.mono hs (fun a z => k a ?_), back G' H' od'' ov'' B' hs (fun a z => k a ?_) r'⟩
    · exact List.mem_append_left _ (List.mem_append_left _ z)
    · rcases List.mem_append.mp z with z | z
      · exact List.mem_append_left _ (List.mem_append_right _ z)
      · exact List.mem_append_right _ z
theorem RpS.len : ∀ {ε : Ep} {σ : L2.St} {F : List Addr}, RpS K G H ε σ F → ε.length = σ.length
  | [], _, _, h => by rw [h.1]; rfl
  | od :: ε, σ, F, h => by
    obtain ⟨ov, σ', F1, F2, rfl, rfl, r, rs⟩ := h
    rw [List.length_cons, List.length_cons, RpS.len rs]
end
/-- the ground of a def's run: the heap at the entry, what stands still in it, what was handed in to be changed, the kept parameters' values -/
structure Bs where
  H0 : Hp
  G0 : Hp
  F0 : List Addr
  kv : List (Option V) := []
structure SIx (K : PySem.W.Frag) (b : Bs) (G : Hp) (F Ft : List Addr) (σ : L2.St) (H : Hp) (ε : Ep) (T : List D) (Tv : List V) : Prop where
  s0 : Sub b.G0 G
  sub : Sub G H
  slots : RpS K G H ε σ F
  temps : RpL K G H T Tv Ft
  nd : (F ++ Ft).Nodup
  fr : ∀ a ∈ F ++ Ft, G a = none
  own : ∀ a ∈ F ++ Ft, a ∈ b.F0 ∨ b.H0 a = none
  gn : ∀ a o, G a = some o → b.G0 a = some o ∨ a ∈ b.F0 ∨ b.H0 a = none ∨ ∃ vs, o = .tup vs
  keep : ∀ a o, b.H0 a = some o → a ∉ b.F0 → H a = some o
  kept : ∀ (j : Nat) v, b.kv[j]? = some (some v) → σ[j]? = some (some v)
theorem inl3 {p q r : Prop} (h : p ∨ q) : p ∨ q ∨ r := h.elim .inl fun h => .inr (.inl h)
def SI (K : PySem.W.Frag) (b : Bs) (σ : L2.St) (H : Hp) (ε : Ep) (T : List D) (Tv : List V) : Prop := ∃ G F Ft, SIx K b G F Ft σ H ε T Tv
section
variable {K : PySem.W.Frag} {b : Bs} {σ : L2.St} {H H' : Hp} {ε : Ep} {T : List D} {Tv : List V}
theorem SIx.lenT {G F Ft} (I : SIx K b G F Ft σ H ε T Tv) : T.length = Tv.length := I.temps.len
theorem SI.lenT (I : SI K b σ H ε T Tv) : T.length = Tv.length := let ⟨_, _, _, J⟩ := I; J.lenT
theorem SIx.ne {G F Ft} (I : SIx K b G F Ft σ H ε T Tv) {p : Addr} (n : H p = none) : p ∉ F ++ Ft := fun z => by
  rcases List.mem_append.mp z with z | z
  · obtain ⟨o, e, _⟩ := I.slots.there p z
    rw [n] at e; cases e
  · obtain ⟨o, e, _⟩ := I.temps.there p z
    rw [n] at e; cases e
theorem SIx.gne {G F Ft} (I : SIx K b G F Ft σ H ε T Tv) {p : Addr} (n : H p = none) : G p = none := by
  cases e : G p with
  | none => rfl
  | some o =>
    have := I.sub p o e
    rw [n] at this; cases this
theorem SIx.h0 {G F Ft} (I : SIx K b G F Ft σ H ε T Tv) {p : Addr} (n : H p = none) : p ∈ b.F0 ∨ b.H0 p = none := by
  cases e : b.H0 p with
  | none => exact .inr rfl
  | some o =>
    by_cases h : p ∈ b.F0
    · exact .inl h
    · have := I.keep p o e h
      rw [n] at this; cases this
/-- the heap grows -/
theorem SIx.grow {G F Ft} (I : SIx K b G F Ft σ H ε T Tv) (h : Sub H H') : SIx K b G F Ft σ H' ε T Tv where
  s0 := I.s0
  sub := I.sub.trans h
  slots := I.slots.mono Sub.refl fun a z => by
    obtain ⟨o, e, _⟩ := I.slots.there a z
    rw [e, h a o e]
  temps := I.temps.mono Sub.refl fun a z => by
    obtain ⟨o, e, _⟩ := I.temps.there a z
    rw [e, h a o e]
  nd := I.nd
  fr := I.fr
  own := I.own
  gn := I.gn
  keep := fun a o e n => h a o (I.keep a o e n)
  kept := I.kept
theorem SI.grow (I : SI K b σ H ε T Tv) (h : Sub H H') : SI K b σ H' ε T Tv := let ⟨G, F, Ft, J⟩ := I; ⟨G, F, Ft, J.grow h⟩
/-- the last held things are let go -/
theorem SI.drop {R : List D} {Rv : List V} (I : SI K b σ H ε (T ++ R) (Tv ++ Rv)) (hl : T.length = Tv.length) : SI K b σ H ε T Tv := by
  obtain ⟨G, F, Ft, J⟩ := I
  obtain ⟨F1, F2, rfl, r1, r2⟩ := J.temps.split2 hl
  have sb : ∀ a, a ∈ F ++ F1 → a ∈ F ++ (F1 ++ F2) := fun a z => by
    rcases List.mem_append.mp z with z | z
    · exact List.mem_append_left _ z
    · exact List.mem_append_right _ (List.mem_append_left _ z)
  refine ⟨G, F, F1, J.s0, J.sub, J.slots, r1, ?_, fun a z => J.fr a (sb a z), fun a z => J.own a (sb a z), J.gn, J.keep, J.kept⟩
  have := J.nd
  rw [← List.append_assoc] at this
  exact (List.nodup_append.mp this).1
/-- a thing that stands still is held -/
theorem SIx.push {G F Ft} (I : SIx K b G F Ft σ H ε T Tv) {d : D} {v : V} (r : Rp K G H d v []) : SIx K b G F Ft σ H ε (T ++ [d]) (Tv ++ [v]) := by
  have h := I.temps.append (RpL.one.mpr r)
  rw [List.append_nil] at h
  exact ⟨I.s0, I.sub, I.slots, h, I.nd, I.fr, I.own, I.gn, I.keep, I.kept⟩
theorem SI.push (I : SI K b σ H ε T Tv) {d : D} {v : V} (r : ∀ G, Rp K G H d v []) : SI K b σ H ε (T ++ [d]) (Tv ++ [v]) := let ⟨G, F, Ft, J⟩ := I; ⟨G, F, Ft, J.push (r G)⟩
/-- a slot that stands still -/
theorem SI.var (I : SI K b σ H ε T Tv) {i : Nat} {d : D} (e : ε[i]? = some (some d)) (z : isFz d = true) : ∃ v, σ[i]? = some (some v) ∧ SI K b σ H ε (T ++ [d]) (Tv ++ [v]) := by
  obtain ⟨G, F, Ft, J⟩ := I
  obtain ⟨ov, A, B, C, hs, rfl, r, _⟩ := J.slots.focus e
  obtain ⟨v, rfl, r⟩ := r
  have := r.fz z
  subst this
  exact ⟨v, hs, G, _, Ft, J.push r⟩
/-- a slot is moved out -/
theorem SI.mov (I : SI K b σ H ε T Tv) {i : Nat} {d : D} (e : ε[i]? = some (some d)) : ∃ v, σ[i]? = some (some v) ∧ SI K b σ H (ε.set i none) (T ++ [d]) (Tv ++ [v]) := by
  obtain ⟨G, F, Ft, J⟩ := I
  obtain ⟨ov, A, B, C, hs, rfl, r, back⟩ := J.slots.focus e
  obtain ⟨v, rfl, r⟩ := r
  have s2 := back G H none (some v) [] Sub.refl (fun _ _ => rfl) rfl
  have es : σ.set i (some v) = σ := by
    apply List.ext_getElem?
    intro j
    rw [List.getElem?_set]
    split
    · rename_i h
      subst h
      split
      · exact hs.symm
      · rename_i h
        rw [List.getElem?_eq_none (by omega)] at hs
        cases hs
    · rfl
  rw [es, List.append_nil] at s2
  have pm : (A ++ B ++ C ++ Ft).Perm (A ++ C ++ (Ft ++ B)) := by
    have h1 : (A ++ B ++ C ++ Ft).Perm (A ++ C ++ Ft ++ B) := by
      have : (A ++ B ++ (C ++ Ft)).Perm (A ++ (C ++ Ft) ++ B) := by
        rw [List.append_assoc, List.append_assoc]
        exact List.Perm.append_left A List.perm_append_comm
      simpa only [List.append_assoc] using this
    simpa only [List.append_assoc] using h1
  refine ⟨v, hs, G, A ++ C, Ft ++ B, J.s0, J.sub, s2, J.temps.append (RpL.one.mpr r), pm.nodup_iff.mp J.nd, fun a z => J.fr a (pm.mem_iff.mpr z), fun a z => J.own a (pm.mem_iff.mpr z), J.gn, J.keep, J.kept⟩
/-- the last held thing goes to a slot; what was there is let go -/
theorem SI.store {d : D} {v : V} (I : SI K b σ H ε (T ++ [d]) (Tv ++ [v])) (hl : T.length = Tv.length) {i : Nat} (hi : i < ε.length) (hk : ∀ u, b.kv[i]? ≠ some (some u)) : SI K b (σ.set i (some v)) H (ε.set i (some d)) T Tv := by
  obtain ⟨G, F, Ft, J⟩ := I
  obtain ⟨F1, F2, rfl, r1, r2⟩ := J.temps.split2 hl
  have r2 := RpL.one.mp r2
  obtain ⟨ov, A, B, C, hs, rfl, r, back⟩ := J.slots.focus (i := i) (List.getElem?_eq_getElem hi)
  have s2 := back G H (some d) (some v) F2 Sub.refl (fun _ _ => rfl) ⟨v, rfl, r2⟩
  have sb : ∀ a, a ∈ A ++ F2 ++ C ++ F1 → a ∈ A ++ B ++ C ++ (F1 ++ F2) := fun a z => by
    simp only [List.mem_append] at z ⊢
    rcases z with ((z | z) | z) | z
    · exact .inl (.inl (.inl z))
    · exact .inr (.inr z)
    · exact .inl (.inr z)
    · exact .inr (.inl z)
  have nd : (A ++ F2 ++ C ++ F1).Nodup := by
    have h1 : (A ++ B ++ C ++ (F1 ++ F2)).Perm (B ++ (A ++ F2 ++ C ++ F1)) := by
      apply List.perm_iff_count.mpr
      intro a
      simp only [List.count_append]
      omega
    exact (List.nodup_append.mp (h1.nodup_iff.mp J.nd)).2.1
  refine ⟨G, _, F1, J.s0, J.sub, s2, r1, nd, fun a z => J.fr a (sb a z), fun a z => J.own a (sb a z), J.gn, J.keep, fun j u e => ?_⟩
  have hj : i ≠ j := fun z => by
    subst z
    exact hk u e
  rw [List.getElem?_set_ne hj]
  exact J.kept j u e
/-- a slot is told again that was moved out, its value as it was -/
theorem SI.back {d : D} {v : V} (I : SI K b σ H ε (T ++ [d]) (Tv ++ [v])) (hl : T.length = Tv.length) {i : Nat} (hs : σ[i]? = some (some v)) : SI K b σ H (ε.set i (some d)) T Tv := by
  obtain ⟨G, F, Ft, J⟩ := I
  obtain ⟨F1, F2, rfl, r1, r2⟩ := J.temps.split2 hl
  have r2 := RpL.one.mp r2
  have hi : i < ε.length := by
    rw [J.slots.len]
    exact (List.getElem?_eq_some_iff.mp hs).1
  obtain ⟨ov, A, B, C, hs', rfl, r, back⟩ := J.slots.focus (i := i) (List.getElem?_eq_getElem hi)
  have s2 := back G H (some d) (some v) F2 Sub.refl (fun _ _ => rfl) ⟨v, rfl, r2⟩
  have es : σ.set i (some v) = σ := by
    apply List.ext_getElem?
    intro j
    rw [List.getElem?_set]
    split
    · rename_i h
      subst h
      split
      · exact hs.symm
      · rename_i h
        rw [List.getElem?_eq_none (by omega)] at hs
        cases hs
    · rfl
  rw [es] at s2
  have sb : ∀ a, a ∈ A ++ F2 ++ C ++ F1 → a ∈ A ++ B ++ C ++ (F1 ++ F2) := fun a z => by
    simp only [List.mem_append] at z ⊢
    rcases z with ((z | z) | z) | z
    · exact .inl (.inl (.inl z))
    · exact .inr (.inr z)
    · exact .inl (.inr z)
    · exact .inr (.inl z)
  have nd : (A ++ F2 ++ C ++ F1).Nodup := by
    have h1 : (A ++ B ++ C ++ (F1 ++ F2)).Perm (B ++ (A ++ F2 ++ C ++ F1)) := by
      apply List.perm_iff_count.mpr
      intro a
      simp only [List.count_append]
      omega
    exact (List.nodup_append.mp (h1.nodup_iff.mp J.nd)).2.1
  exact ⟨G, _, F1, J.s0, J.sub, s2, r1, nd, fun a z => J.fr a (sb a z), fun a z => J.own a (sb a z), J.gn, J.keep, J.kept⟩
/-- the last held thing is let stand still -/
theorem SI.freeze {d : D} {v : V} (I : SI K b σ H ε (T ++ [d]) (Tv ++ [v])) (hl : T.length = Tv.length) : SI K b σ H ε (T ++ [frz d]) (Tv ++ [v]) := by
  obtain ⟨G, F, Ft, J⟩ := I
  obtain ⟨F1, F2, rfl, r1, r2⟩ := J.temps.split2 hl
  have r2 := RpL.one.mp r2
  let G' : Hp := fun a => if a ∈ F2 then H a else G a
  have g1 : ∀ a ∈ F2, G' a = H a := fun a z => if_pos z
  have g2 : ∀ a, a ∉ F2 → G' a = G a := fun a z => if_neg z
  have nF : ∀ a ∈ F2, G a = none := fun a z => J.fr a (List.mem_append_right _ (List.mem_append_right _ z))
  have hs : Sub G G' := fun a o e => by
    by_cases h : a ∈ F2
    · rw [nF a h] at e; cases e
    · rw [g2 a h]; exact e
  have dj : ∀ a ∈ F ++ F1, a ∉ F2 := fun a z h => by
    have := J.nd
    rw [← List.append_assoc] at this
    exact (List.nodup_append.mp this).2.2 a z a h rfl
  have sb : ∀ a, a ∈ F ++ F1 → a ∈ F ++ (F1 ++ F2) := fun a z => by
    rcases List.mem_append.mp z with z | z
    · exact List.mem_append_left _ z
    · exact List.mem_append_right _ (List.mem_append_left _ z)
  refine ⟨G', F, F1, J.s0.trans hs, fun a o e => ?_, J.slots.mono hs (fun _ _ => rfl), ?_, ?_, fun a z => ?_, fun a z => J.own a (sb a z), fun a o e => ?_, J.keep, J.kept⟩
  · by_cases h : a ∈ F2
    · rw [g1 a h] at e; exact e
    · rw [g2 a h] at e; exact J.sub a o e
  · have := (r1.mono (H' := H) hs (fun _ _ => rfl)).append (RpL.one.mpr (Rp.freeze (H' := H) hs g1 r2))
    rw [List.append_nil] at this
    exact this
  · have := J.nd
    rw [← List.append_assoc] at this
    exact (List.nodup_append.mp this).1
  · rw [g2 a (dj a z)]
    exact J.fr a (sb a z)
  · by_cases h : a ∈ F2
    · exact .inr (inl3 (J.own a (List.mem_append_right _ (List.mem_append_right _ h))))
    · rw [g2 a h] at e
      exact J.gn a o e
/-- a new object that is ours, out of the last held things -/
theorem SI.laid {ds : List D} {vs : List V} (I : SI K b σ H ε (T ++ ds) (Tv ++ vs)) (hl : T.length = Tv.length) {p : Addr} (n : H p = none) (o : HO) {d : D}
    (r : ∀ (G H' : Hp) (F : List Addr), H' p = some o → RpL K G H' ds vs F → Rp K G H' d (.ref p) (p :: F)) : SI K b σ (upd H p o) ε (T ++ [d]) (Tv ++ [.ref p]) := by
  obtain ⟨G, F, Ft, J⟩ := I
  obtain ⟨F1, F2, rfl, r1, r2⟩ := J.temps.split2 hl
  have np := J.ne n
  have su : Sub H (upd H p o) := Sub.laid n
  have ev : ∀ a ∈ F ++ (F1 ++ F2), upd H p o a = H a := fun a z => upd_ne fun e => np (e ▸ z)
  refine ⟨G, F, F1 ++ (p :: F2), J.s0, J.sub.trans su, J.slots.mono Sub.refl fun a z => ev a (List.mem_append_left _ z), ?_, ?_, fun a z => ?_, fun a z => ?_, J.gn, fun a u e h => su a u (J.keep a u e h), J.kept⟩
  · refine (r1.mono Sub.refl fun a z => ev a (List.mem_append_right _ (List.mem_append_left _ z))).append (RpL.one.mpr ?_)
    exact r G _ F2 upd_same (r2.mono Sub.refl fun a z => ev a (List.mem_append_right _ (List.mem_append_right _ z)))
  · have h1 : (F ++ (F1 ++ (p :: F2))).Perm (p :: (F ++ (F1 ++ F2))) := by
      apply List.perm_iff_count.mpr
      intro a
      simp only [List.count_append, List.count_cons]
      omega
    exact h1.nodup_iff.mpr (List.nodup_cons.mpr ⟨np, J.nd⟩)
  · by_cases h : a = p
    · subst h; exact J.gne n
    · refine J.fr a ?_
      simp only [List.mem_append, List.mem_cons] at z ⊢
      rcases z with z | z | z | z
      · exact .inl z
      · exact .inr (.inl z)
      · exact absurd z h
      · exact .inr (.inr z)
  · by_cases h : a = p
    · subst h; exact J.h0 n
    · refine J.own a ?_
      simp only [List.mem_append, List.mem_cons] at z ⊢
      rcases z with z | z | z | z
      · exact .inl z
      · exact .inr (.inl z)
      · exact absurd z h
      · exact .inr (.inr z)
/-- a new tuple out of the last held things -/
theorem SI.tup {ds : List D} {vs : List V} (I : SI K b σ H ε (T ++ ds) (Tv ++ vs)) (hl : T.length = Tv.length) {p : Addr} (n : H p = none) : SI K b σ (upd H p (.tup vs)) ε (T ++ [.tup ds]) (Tv ++ [.ref p]) := by
  obtain ⟨G, F, Ft, J⟩ := I
  obtain ⟨F1, F2, rfl, r1, r2⟩ := J.temps.split2 hl
  have np := J.ne n
  have gp := J.gne n
  have su : Sub H (upd H p (.tup vs)) := Sub.laid n
  have sg : Sub G (upd G p (.tup vs)) := Sub.laid gp
  have ev : ∀ a ∈ F ++ (F1 ++ F2), upd H p (.tup vs) a = H a := fun a z => upd_ne fun e => np (e ▸ z)
  refine ⟨upd G p (.tup vs), F, F1 ++ F2, J.s0.trans sg, J.sub.upd2, J.slots.mono sg fun a z => ev a (List.mem_append_left _ z), ?_, J.nd, fun a z => ?_, J.own, fun a o e => ?_, fun a u e h => su a u (J.keep a u e h), J.kept⟩
  · refine (r1.mono sg fun a z => ev a (List.mem_append_right _ (List.mem_append_left _ z))).append (RpL.one.mpr ?_)
    exact ⟨p, vs, rfl, upd_same, r2.mono sg fun a z => ev a (List.mem_append_right _ (List.mem_append_right _ z))⟩
  · have ha : a ≠ p := fun e => np (e ▸ z)
    rw [upd_ne ha]
    exact J.fr a z
  · by_cases h : a = p
    · subst h; exact .inr (inl3 (J.h0 n))
    · rw [upd_ne h] at e
      exact J.gn a o e
end
end VL
namespace VL
open PySem PySem.Spec PyProof.Rows L2 VL
section
variable {K : PySem.W.Frag} {b : Bs} {σ : L2.St} {H H' : Hp} {ε : Ep} {T : List D} {Tv : List V}
theorem setSelf {α : Type} {l : List α} {i : Nat} {x : α} (h : l[i]? = some x) : l.set i x = l := by
  apply List.ext_getElem?
  intro j
  rw [List.getElem?_set]
  split
  · rename_i e
    subst e
    split
    · exact h.symm
    · rename_i e
      rw [List.getElem?_eq_none (by omega)] at h
      cases h
  · rfl
/-- a held thing amid others is let go -/
theorem SI.midDrop {d : D} {v : V} {R : List D} {Rv : List V} (I : SI K b σ H ε (T ++ d :: R) (Tv ++ v :: Rv)) (hl : T.length = Tv.length) : SI K b σ H ε (T ++ R) (Tv ++ Rv) := by
  obtain ⟨G, F, Ft, J⟩ := I
  obtain ⟨F1, F2, rfl, r1, r2⟩ := J.temps.split2 hl
  obtain ⟨v', vs', A, B, e, rfl, rd, rs⟩ := r2
  obtain ⟨rfl, rfl⟩ := List.cons.inj e
  have sb : ∀ a, a ∈ F ++ (F1 ++ B) → a ∈ F ++ (F1 ++ (A ++ B)) := fun a z => by
    simp only [List.mem_append] at z ⊢
    rcases z with z | z | z
    · exact .inl z
    · exact .inr (.inl z)
    · exact .inr (.inr (.inr z))
  have nd : (F ++ (F1 ++ B)).Nodup := by
    have h1 : (F ++ (F1 ++ (A ++ B))).Perm (A ++ (F ++ (F1 ++ B))) := by
      apply List.perm_iff_count.mpr
      intro a
      simp only [List.count_append]
      omega
    exact (List.nodup_append.mp (h1.nodup_iff.mp J.nd)).2.1
  exact ⟨G, F, F1 ++ B, J.s0, J.sub, J.slots, r1.append rs, nd, fun a z => J.fr a (sb a z), fun a z => J.own a (sb a z), J.gn, J.keep, J.kept⟩
/-- a held thing amid others goes back to its slot -/
theorem SI.midBack {d : D} {v : V} {R : List D} {Rv : List V} (I : SI K b σ H ε (T ++ d :: R) (Tv ++ v :: Rv)) (hl : T.length = Tv.length) {i : Nat} (hs : σ[i]? = some (some v)) : SI K b σ H (ε.set i (some d)) (T ++ R) (Tv ++ Rv) := by
  obtain ⟨G, F, Ft, J⟩ := I
  obtain ⟨F1, F2, rfl, r1, r2⟩ := J.temps.split2 hl
  obtain ⟨v', vs', A, B, e, rfl, rd, rs⟩ := r2
  obtain ⟨rfl, rfl⟩ := List.cons.inj e
  have hi : i < ε.length := by
    rw [J.slots.len]
    exact (List.getElem?_eq_some_iff.mp hs).1
  obtain ⟨ov, C, E, L, hs', rfl, ro, back⟩ := J.slots.focus (i := i) (List.getElem?_eq_getElem hi)
  have s2 := back G H (some d) (some v) A Sub.refl (fun _ _ => rfl) ⟨v, rfl, rd⟩
  rw [setSelf hs] at s2
  have sb : ∀ a, a ∈ C ++ A ++ L ++ (F1 ++ B) → a ∈ C ++ E ++ L ++ (F1 ++ (A ++ B)) := fun a z => by
    simp only [List.mem_append] at z ⊢
    rcases z with ((z | z) | z) | z | z
    · exact .inl (.inl (.inl z))
    · exact .inr (.inr (.inl z))
    · exact .inl (.inr z)
    · exact .inr (.inl z)
    · exact .inr (.inr (.inr z))
  have nd : (C ++ A ++ L ++ (F1 ++ B)).Nodup := by
    have h1 : (C ++ E ++ L ++ (F1 ++ (A ++ B))).Perm (E ++ (C ++ A ++ L ++ (F1 ++ B))) := by
      apply List.perm_iff_count.mpr
      intro a
      simp only [List.count_append]
      omega
    exact (List.nodup_append.mp (h1.nodup_iff.mp J.nd)).2.1
  exact ⟨G, _, F1 ++ B, J.s0, J.sub, s2, r1.append rs, nd, fun a z => J.fr a (sb a z), fun a z => J.own a (sb a z), J.gn, J.keep, J.kept⟩
end
/-- arguments that were moved out of slots go back, the others are let go -/
def restore : List (Option Nat) → List D → Ep → Ep
  | some i :: rs, d :: ds, ε => restore rs ds (ε.set i (some d))
  | none :: rs, _ :: ds, ε => restore rs ds ε
  | _, _, ε => ε
def Held (σ : L2.St) : List (Option Nat) → List V → Prop
  | [], [] => True
  | some i :: rs, v :: vs => σ[i]? = some (some v) ∧ Held σ rs vs
  | none :: rs, _ :: vs => Held σ rs vs
  | _, _ => False
theorem Held.len {σ : L2.St} : ∀ {rs : List (Option Nat)} {vs : List V}, Held σ rs vs → rs.length = vs.length
  | [], [], _ => rfl
  | some i :: rs, v :: vs, h => by rw [List.length_cons, List.length_cons, Held.len h.2]
  | none :: rs, v :: vs, h => by rw [List.length_cons, List.length_cons, Held.len (rs := rs) (vs := vs) h]
  | [], _ :: _, h => h.elim
  | some _ :: _, [], h => h.elim
  | none :: _, [], h => h.elim
theorem Held.append {σ : L2.St} : ∀ {rs rs' : List (Option Nat)} {vs vs' : List V}, Held σ rs vs → Held σ rs' vs' → Held σ (rs ++ rs') (vs ++ vs')
  | [], _, [], _, _, k => k
  | some i :: rs, _, v :: vs, _, h, k => ⟨h.1, Held.append h.2 k⟩
  | none :: rs, _, v :: vs, _, h, k => Held.append (rs := rs) (vs := vs) h k
  | [], _, _ :: _, _, h, _ => h.elim
  | some _ :: _, _, [], _, h, _ => h.elim
  | none :: _, _, [], _, h, _ => h.elim
theorem SI.restore {K : PySem.W.Frag} {b : Bs} {σ : L2.St} {H : Hp} {T : List D} {Tv : List V} {R : List D} {Rv : List V} (hl : T.length = Tv.length) :
    ∀ {rs : List (Option Nat)} {ds : List D} {vs : List V} {ε : Ep}, Held σ rs vs → ds.length = vs.length → SI K b σ H ε (T ++ (ds ++ R)) (Tv ++ (vs ++ Rv)) → SI K b σ H (VL.restore rs ds ε) (T ++ R) (Tv ++ Rv)
  | [], [], [], ε, _, _, I => I
  | some i :: rs, d :: ds, v :: vs, ε, h, e, I => SI.restore hl (rs := rs) h.2 (Nat.succ.inj e) (SI.midBack I hl h.1)
  | none :: rs, d :: ds, v :: vs, ε, h, e, I => SI.restore hl (rs := rs) (vs := vs) h (Nat.succ.inj e) (SI.midDrop I hl)
  | [], _ :: _, [], _, _, e, _ => by cases e
  | [], _, _ :: _, _, h, _, _ => h.elim
  | some _ :: _, _, [], _, h, _, _ => h.elim
  | none :: _, _, [], _, h, _, _ => h.elim
  | some _ :: _, [], _ :: _, _, _, e, _ => by cases e
  | none :: _, [], _ :: _, _, _, e, _ => by cases e
/-- what is wished of an exception: its class, its row, the slots -/
abbrev WV := Value → D → Ep → Prop
abbrev VTE := WV → Ep → (D → Ep → Prop) → Prop
abbrev VTT := WV → Ep → (Bool → Ep → Prop) → Prop
abbrev VTA := WV → Ep → (List D → Ep → Prop) → Prop
structure VEnds where
  nx : Ep → Prop
  rt : D → Ep → Prop
  bk : Ep → Prop := fun _ => False
  ct : Ep → Prop := fun _ => False
  rx : WV
abbrev VTS := VEnds → Ep → Prop
/-- an exception of ours: it has its dict, with the field row -/
def XL (K : PySem.W.Frag) (b : Bs) (T : List D) (Tv : List V) (W : WX) (N : WV) : Prop := ∀ cls (dd : Addr) σ H ε row v, SI K b σ H ε (T ++ [row]) (Tv ++ [v]) → H dd = some (.xd [("row", v)]) → (dd ∈ b.F0 ∨ b.H0 dd = none) → N cls row ε → W (clsV K cls) (some dd) σ H
theorem XL.more {K : PySem.W.Frag} {b : Bs} {T R : List D} {Tv Rv : List V} {W : WX} {N : WV} (hl : T.length = Tv.length) (hr : R.length = Rv.length) (x : XL K b T Tv W N) : XL K b (T ++ R) (Tv ++ Rv) W N := fun cls dd σ H ε row v I e fr n => by
  refine x cls dd σ H ε row v ?_ e fr n
  have h : Held σ (R.map fun _ => none) Rv := by
    clear I x
    induction R generalizing Rv with
    | nil =>
      cases Rv with
      | nil => exact trivial
      | cons _ _ => cases hr
    | cons r R ih =>
      cases Rv with
      | nil => cases hr
      | cons v Rv => exact ih (Nat.succ.inj hr)
  rw [List.append_assoc, List.append_assoc] at I
  have := SI.restore hl h hr I
  have z : VL.restore (R.map fun _ => none) R ε = ε := by
    clear this h I x hr
    induction R with
    | nil => rfl
    | cons r R ih => exact ih
  rw [z] at this
  exact this
/-- the context of a body, and which of its slots are kept: parameters that the body never stores into -/
structure Cv extends Cx where
  κ : List Bool
instance : Coe Cv Cx := ⟨Cv.toCx⟩
/-- a ground that keeps no other slot -/
abbrev Bx (X : Cv) := { b : Bs // ∀ (i : Nat) u, b.kv[i]? = some (some u) → X.κ[i]? = some true }
structure VE (X : Cv) (e : Expr) (t : VTE) : Prop where
  ex : ∃ t' : WX → TE, (∀ W, Takes X.toCx W → PE X.toCx e (t' W)) ∧ ∀ (b : Bx X) σ H ε T Tv W N Q Q', SI X.K b.1 σ H ε T Tv → t N ε Q →
    (∀ d v ε' H', SI X.K b.1 σ H' ε' (T ++ [d]) (Tv ++ [v]) → Q d ε' → Q' v H') → XL X.K b.1 T Tv W N → t' W σ H Q'
structure VT (X : Cv) (e : Expr) (t : VTT) : Prop where
  ex : ∃ t' : WX → TT, (∀ W, Takes X.toCx W → PT X.toCx e (t' W)) ∧ ∀ (b : Bx X) σ H ε T Tv W N Q Q', SI X.K b.1 σ H ε T Tv → t N ε Q →
    (∀ c ε' H', SI X.K b.1 σ H' ε' T Tv → Q c ε' → Q' c H') → XL X.K b.1 T Tv W N → t' W σ H Q'
/-- a test in a chain of and, or -/
structure VW (X : Cv) (e : Expr) (t : VTT) : Prop where
  ex : ∃ t' : WX → TT, (∀ W, Takes X.toCx W → PW X.toCx e (t' W)) ∧ ∀ (b : Bx X) σ H ε T Tv W N Q Q', SI X.K b.1 σ H ε T Tv → t N ε Q →
    (∀ c ε' H', SI X.K b.1 σ H' ε' T Tv → Q c ε' → Q' c H') → XL X.K b.1 T Tv W N → t' W σ H Q'
/-- one argument; r: the slot from which it is moved -/
structure VG (X : Cv) (e : Expr) (r : Option Nat) (t : VTE) : Prop where
  ex : ∃ t' : WX → TE, (∀ W, Takes X.toCx W → PE X.toCx e (t' W)) ∧ ∀ (b : Bx X) σ H ε T Tv W N Q Q', SI X.K b.1 σ H ε T Tv → t N ε Q →
    (∀ d v ε' H', SI X.K b.1 σ H' ε' (T ++ [d]) (Tv ++ [v]) → Held σ [r] [v] → Q d ε' → Q' v H') → XL X.K b.1 T Tv W N → t' W σ H Q'
structure VA (X : Cv) (es : List Expr) (rs : List (Option Nat)) (t : VTA) : Prop where
  ex : ∃ t' : WX → TA, (∀ W, Takes X.toCx W → PA X.toCx es (t' W)) ∧ ∀ (b : Bx X) σ H ε T Tv W N Q Q', SI X.K b.1 σ H ε T Tv → t N ε Q →
    (∀ ds vs ε' H', SI X.K b.1 σ H' ε' (T ++ ds) (Tv ++ vs) → ds.length = vs.length → Held σ rs vs → Q ds ε' → Q' vs H') → XL X.K b.1 T Tv W N → t' W σ H Q'
/-- the ends of a statement -/
structure EL (K : PySem.W.Frag) (b : Bs) (T : List D) (Tv : List V) (N : VEnds) (E : Ends) : Prop where
  nx : ∀ σ H ε, SI K b σ H ε T Tv → N.nx ε → E.nx σ H
  rt : ∀ σ H ε d v, SI K b σ H ε (T ++ [d]) (Tv ++ [v]) → N.rt d ε → E.rt v H
  bk : ∀ σ H ε, SI K b σ H ε T Tv → N.bk ε → E.bk σ H
  ct : ∀ σ H ε, SI K b σ H ε T Tv → N.ct ε → E.ct σ H
structure VS (X : Cv) (st : Stmt) (t : VTS) : Prop where
  ex : ∃ t' : WX → TS, (∀ W, Takes X.toCx W → PS X.toCx st (t' W)) ∧ ∀ (b : Bx X) σ H ε T Tv W N E, SI X.K b.1 σ H ε T Tv → t N ε → EL X.K b.1 T Tv N E → XL X.K b.1 T Tv W N.rx → t' W E σ H
structure VSs (X : Cv) (st : List Stmt) (t : VTS) : Prop where
  ex : ∃ t' : WX → TS, (∀ W, Takes X.toCx W → PSs X.toCx st (t' W)) ∧ ∀ (b : Bx X) σ H ε T Tv W N E, SI X.K b.1 σ H ε T Tv → t N ε → EL X.K b.1 T Tv N E → XL X.K b.1 T Tv W N.rx → t' W E σ H
section
variable {X : Cv}
def vVar (i : Nat) : VTE := fun _ ε Q => ∃ d, ε[i]? = some (some d) ∧ isFz d = true ∧ Q d ε
def vMov (i : Nat) : VTE := fun _ ε Q => ∃ d, ε[i]? = some (some d) ∧ Q d (ε.set i none)
def vFrz (i : Nat) : VTE := fun _ ε Q => ∃ d, ε[i]? = some (some d) ∧ Q (frz d) (ε.set i (some (frz d)))
def vC (d : D) : VTE := fun _ ε Q => Q d ε
theorem ve_var {i : Nat} {x : Str} {pos : Pos} (hN : X.N[i]? = some x) (hv : Vis X.env.scope x) (hd : (x == ("__debug__" : Str)) = false := by decide) (hcd : (x == ("__classdict__" : Str)) = false := by decide) : VE X (.Name x pos) (vVar i) := by
  refine ⟨fun _ => tVar i, fun _ _ => pe_var hN hv hd hcd, fun b σ H ε T Tv W N Q Q' I h k _ => ?_⟩
  obtain ⟨d, e, z, q⟩ := h
  obtain ⟨v, hs, J⟩ := I.var e z
  exact ⟨v, hs, k d v ε H J q⟩
theorem ve_mov {i : Nat} {x : Str} {pos : Pos} (hN : X.N[i]? = some x) (hv : Vis X.env.scope x) (hd : (x == ("__debug__" : Str)) = false := by decide) (hcd : (x == ("__classdict__" : Str)) = false := by decide) : VE X (.Name x pos) (vMov i) := by
  refine ⟨fun _ => tVar i, fun _ _ => pe_var hN hv hd hcd, fun b σ H ε T Tv W N Q Q' I h k _ => ?_⟩
  obtain ⟨d, e, q⟩ := h
  obtain ⟨v, hs, J⟩ := I.mov e
  exact ⟨v, hs, k d v _ H J q⟩
theorem ve_frz {i : Nat} {x : Str} {pos : Pos} (hN : X.N[i]? = some x) (hv : Vis X.env.scope x) (hd : (x == ("__debug__" : Str)) = false := by decide) (hcd : (x == ("__classdict__" : Str)) = false := by decide) : VE X (.Name x pos) (vFrz i) := by
  refine ⟨fun _ => tVar i, fun _ _ => pe_var hN hv hd hcd, fun b σ H ε T Tv W N Q Q' I h k _ => ?_⟩
  obtain ⟨d, e, q⟩ := h
  obtain ⟨v, hs, J⟩ := I.mov e
  have J2 := (J.freeze I.lenT).back I.lenT hs
  have e2 : (ε.set i none).set i (some (frz d)) = ε.set i (some (frz d)) := by simp
  rw [e2] at J2
  have hi := (List.getElem?_eq_some_iff.mp e).1
  obtain ⟨v', hs', J3⟩ := J2.var (i := i) (d := frz d) (by simp [hi]) (isFz_frz d)
  rw [hs] at hs'
  cases hs'
  exact ⟨v, hs, k (frz d) v _ H J3 q⟩
theorem vc_of {e : Expr} {v : V} {d : D} (h : PE X.toCx e (tC v)) (r : ∀ G H, Rp X.K G H d v []) : VE X e (vC d) :=
  ⟨fun _ => tC v, fun _ _ => h, fun b σ H ε T Tv W N Q Q' I q k _ => k d v ε H (I.push fun G => r G H) q⟩
theorem ve_int {i j pos} : VE X (.Constant (.int i) j pos) (vC (.int i)) := vc_of pe_int fun _ _ => ⟨rfl, rfl⟩
theorem ve_bl {b j pos} : VE X (.Constant (.bool b) j pos) (vC (.bl b)) := vc_of pe_bl fun _ _ => ⟨rfl, rfl⟩
theorem ve_non {j pos} : VE X (.Constant .none j pos) (vC .non) := vc_of pe_non fun _ _ => ⟨rfl, rfl⟩
theorem ve_str {s : Cs} {x : Str} {j pos} (h : x.cps.toList = s) : VE X (.Constant (.str x) j pos) (vC (.str s)) := vc_of pe_str fun _ _ => ⟨by rw [← h, toS_cps], rfl⟩
/-- a module's constant -/
theorem ve_glob {x : Str} {u : Value} {v : V} {d : D} {pos : Pos} (hg : Gl X.toCx x) (hm : X.mg x = some u) (r : RelV v u) (q : ∀ G H, Rp X.K G H d v []) (hd : (x == ("__debug__" : Str)) = false := by decide) : VE X (.Name x pos) (vC d) :=
  vc_of (pe_glob hg hm r hd) q
theorem vg_val {e : Expr} {t : VTE} (h : VE X e t) : VG X e none t := by
  obtain ⟨t', h1, h2⟩ := h.ex
  exact ⟨t', h1, fun b σ H ε T Tv W N Q Q' I q k x => h2 b σ H ε T Tv W N Q Q' I q (fun d v ε' H' J z => k d v ε' H' J trivial z) x⟩
theorem vg_ref {i : Nat} {x : Str} {pos : Pos} (hN : X.N[i]? = some x) (hv : Vis X.env.scope x) (hd : (x == ("__debug__" : Str)) = false := by decide) (hcd : (x == ("__classdict__" : Str)) = false := by decide) : VG X (.Name x pos) (some i) (vMov i) := by
  refine ⟨fun _ => tVar i, fun _ _ => pe_var hN hv hd hcd, fun b σ H ε T Tv W N Q Q' I h k _ => ?_⟩
  obtain ⟨d, e, q⟩ := h
  obtain ⟨v, hs, J⟩ := I.mov e
  exact ⟨v, hs, k d v _ H J ⟨hs, trivial⟩ q⟩
def vaNil : VTA := fun _ ε Q => Q [] ε
def vaCons (t : VTE) (u : VTA) : VTA := fun N ε Q => t N ε fun d ε1 => u N ε1 fun ds ε2 => Q (d :: ds) ε2
theorem va_nil : VA X [] [] vaNil := ⟨fun _ => tNil, fun _ _ => pa_nil, fun b σ H ε T Tv W N Q Q' I h k _ => k [] [] ε H (by simpa using I) rfl trivial h⟩
theorem va_cons {e : Expr} {es : List Expr} {r : Option Nat} {rs : List (Option Nat)} {t : VTE} {u : VTA} (h : VG X e r t) (k : VA X es rs u) (hs : starEach (e :: es) X.env = (false, eval e X.env) :: starEach es X.env := by rfl) : VA X (e :: es) (r :: rs) (vaCons t u) := by
  obtain ⟨t', h1, h2⟩ := h.ex
  obtain ⟨u', k1, k2⟩ := k.ex
  refine ⟨fun W => tCons (t' W) (u' W), fun W tk => pa_cons (h1 W tk) (k1 W tk) hs, fun b σ H ε T Tv W N Q Q' I q z x => ?_⟩
  refine h2 b σ H ε T Tv W N _ _ I q (fun d v ε1 H1 J hd q1 => ?_) x
  refine k2 b σ H1 ε1 (T ++ [d]) (Tv ++ [v]) W N _ _ J q1 (fun ds vs ε2 H2 J2 l hds q2 => ?_) (x.more I.lenT rfl)
  refine z (d :: ds) (v :: vs) ε2 H2 (by simpa only [List.append_assoc, List.cons_append, List.nil_append] using J2) (by simp [l]) ?_ q2
  exact Held.append (rs := [r]) (vs := [v]) hd hds
/-- r of values is op of trees: what is held stays, the answer comes on top -/
def OpN (K : PySem.W.Frag) (r : List V → Hp → VK → Prop) (op : List D → (D → Prop) → Prop) : Prop :=
  ∀ (b : Bs) (σ : L2.St) (H : Hp) (ε : Ep) (T : List D) (Tv : List V) (ds : List D) (vs : List V) (Q : D → Prop) (Q' : VK), T.length = Tv.length → ds.length = vs.length → SI K b σ H ε (T ++ ds) (Tv ++ vs) → op ds Q →
    (∀ d v H', Sub H H' → SI K b σ H' ε (T ++ (ds ++ [d])) (Tv ++ (vs ++ [v])) → Q d → Q' v H') → r vs H Q'
/-- an answer out of values alone -/
theorem OpN.pure {K : PySem.W.Frag} {r : List V → Hp → VK → Prop} {op : List D → (D → Prop) → Prop}
    (h : ∀ (G H : Hp) (ds : List D) (vs : List V) (F : List Addr) (Q : D → Prop) (Q' : VK), Sub G H → RpL K G H ds vs F → op ds Q → (∀ d v, (∀ G' H', Sub G G' → Rp K G' H' d v []) → Q d → Q' v H) → r vs H Q') : OpN K r op :=
  fun b σ H ε T Tv ds vs Q Q' hl hd I q k => by
    obtain ⟨G, F, Ft, J⟩ := I
    obtain ⟨F1, F2, rfl, r1, r2⟩ := J.temps.split2 hl
    refine h G H ds vs F2 Q Q' J.sub r2 q fun d v rd z => k d v H Sub.refl ⟨G, F, F1 ++ F2, ?_⟩ z
    have := J.push (d := d) (v := v) (rd G H Sub.refl)
    simpa only [List.append_assoc] using this
def vOp (op : List D → (D → Prop) → Prop) (rs : List (Option Nat)) (t : VTA) : VTE := fun N ε Q => t N ε fun ds ε1 => op ds fun d => Q d (restore rs ds ε1)
def r2N (r : R2) : List V → Hp → VK → Prop := fun vs H Q => ∃ v w, vs = [v, w] ∧ r v w H Q
def r1N (r : V → Hp → VK → Prop) : List V → Hp → VK → Prop := fun vs H Q => ∃ v, vs = [v] ∧ r v H Q
/-- behind an operation: the arguments go back or are let go -/
theorem OpN.run {K : PySem.W.Frag} {r : List V → Hp → VK → Prop} {op : List D → (D → Prop) → Prop} (h : OpN K r op) {b : Bs} {σ : L2.St} {H : Hp} {ε : Ep} {T : List D} {Tv : List V} {ds : List D} {vs : List V} {rs : List (Option Nat)} {Q : D → Ep → Prop} {Q' : VK}
    (hl : T.length = Tv.length) (hd : ds.length = vs.length) (I : SI K b σ H ε (T ++ ds) (Tv ++ vs)) (hh : Held σ rs vs) (q : op ds fun d => Q d (restore rs ds ε)) (k : ∀ d v ε' H', SI K b σ H' ε' (T ++ [d]) (Tv ++ [v]) → Q d ε' → Q' v H') : r vs H Q' :=
  h b σ H ε T Tv ds vs _ Q' hl hd I q fun d v H' _ J z => k d v _ H' (SI.restore hl hh hd J) z
def va2 (ta tb : VTE) : VTA := vaCons ta (vaCons tb vaNil)
def va1 (ta : VTE) : VTA := vaCons ta vaNil
theorem two_run {K : PySem.W.Frag} {r : R2} {op : List D → (D → Prop) → Prop} (h : OpN K (r2N r) op) {b : Bs} {σ : L2.St} {H : Hp} {ε : Ep} {T : List D} {Tv : List V} {x y : D} {v w : V} {ra rb : Option Nat} {Q : D → Ep → Prop} {Q' : VK}
    (hl : T.length = Tv.length) (I : SI K b σ H ε (T ++ [x, y]) (Tv ++ [v, w])) (h1 : Held σ [ra] [v]) (h2 : Held σ [rb] [w]) (q : op [x, y] fun d => Q d (restore [ra, rb] [x, y] ε)) (k : ∀ d v ε' H', SI K b σ H' ε' (T ++ [d]) (Tv ++ [v]) → Q d ε' → Q' v H') : r v w H Q' := by
  obtain ⟨v', w', e, z⟩ := h.run hl rfl I (Held.append (rs := [ra]) (vs := [v]) h1 h2) q k
  obtain ⟨rfl, e2⟩ := List.cons.inj e
  obtain ⟨rfl, _⟩ := List.cons.inj e2
  exact z
theorem one_run {K : PySem.W.Frag} {r : V → Hp → VK → Prop} {op : List D → (D → Prop) → Prop} (h : OpN K (r1N r) op) {b : Bs} {σ : L2.St} {H : Hp} {ε : Ep} {T : List D} {Tv : List V} {x : D} {v : V} {ra : Option Nat} {Q : D → Ep → Prop} {Q' : VK}
    (hl : T.length = Tv.length) (I : SI K b σ H ε (T ++ [x]) (Tv ++ [v])) (h1 : Held σ [ra] [v]) (q : op [x] fun d => Q d (restore [ra] [x] ε)) (k : ∀ d v ε' H', SI K b σ H' ε' (T ++ [d]) (Tv ++ [v]) → Q d ε' → Q' v H') : r v H Q' := by
  obtain ⟨v', e, z⟩ := h.run hl rfl I h1 q k
  obtain ⟨rfl, _⟩ := List.cons.inj e
  exact z
/-- two operands in a row -/
theorem two_args {e1 e2 : Expr} {ra rb : Option Nat} {ta tb : VTE} (ha : VG X e1 ra ta) (hb : VG X e2 rb tb) : ∃ ta' tb' : WX → TE, (∀ W, Takes X.toCx W → PE X.toCx e1 (ta' W)) ∧ (∀ W, Takes X.toCx W → PE X.toCx e2 (tb' W)) ∧
    ∀ (b : Bx X) σ H ε T Tv W N (Q : D → D → Ep → Prop) (Q' : V → V → Hp → Prop), SI X.K b.1 σ H ε T Tv → (ta N ε fun x ε1 => tb N ε1 fun y ε2 => Q x y ε2) →
      (∀ x y v w ε' H', SI X.K b.1 σ H' ε' (T ++ [x, y]) (Tv ++ [v, w]) → Held σ [ra] [v] → Held σ [rb] [w] → Q x y ε' → Q' v w H') → XL X.K b.1 T Tv W N → ta' W σ H fun v H1 => tb' W σ H1 fun w H2 => Q' v w H2 := by
  obtain ⟨ta', a1, a2⟩ := ha.ex
  obtain ⟨tb', b1, b2⟩ := hb.ex
  refine ⟨ta', tb', a1, b1, fun b σ H ε T Tv W N Q Q' I q k x => ?_⟩
  refine a2 b σ H ε T Tv W N _ _ I q (fun d v ε1 H1 J hd q1 => ?_) x
  refine b2 b σ H1 ε1 (T ++ [d]) (Tv ++ [v]) W N _ _ J q1 (fun d2 w ε2 H2 J2 h2 q2 => ?_) (x.more I.lenT rfl)
  exact k d d2 v w ε2 H2 (by simpa only [List.append_assoc, List.cons_append, List.nil_append] using J2) hd h2 q2
theorem ve_bin {e1 e2 : Expr} {o : Operator} {ra rb : Option Nat} {ta tb : VTE} {r : R2} {op : List D → (D → Prop) → Prop} {pos : Pos} (ho : OpR X.toCx (binaryOp o) r) (hp : OpN X.K (r2N r) op) (ha : VG X e1 ra ta) (hb : VG X e2 rb tb) :
    VE X (.BinOp e1 o e2 pos) (vOp op [ra, rb] (va2 ta tb)) := by
  obtain ⟨ta', tb', h1, h2, h3⟩ := two_args ha hb
  refine ⟨fun W => tOp r (ta' W) (tb' W), fun W tk => pe_op ho (h1 W tk) (h2 W tk), fun b σ H ε T Tv W N Q Q' I q k x => ?_⟩
  exact h3 b σ H ε T Tv W N _ _ I q (fun x y v w ε' H' J hv hw z => two_run hp I.lenT J hv hw z k) x
theorem ve_cmp {e1 e2 : Expr} {o : CmpOp} {ra rb : Option Nat} {ta tb : VTE} {r : R2} {op : List D → (D → Prop) → Prop} {pos : Pos} (ho : OpR X.toCx (compareOp o) r) (hp : OpN X.K (r2N r) op) (ha : VG X e1 ra ta) (hb : VG X e2 rb tb) (hm : behindInMarks o e2 = false) :
    VE X (.Compare e1 [o] [e2] pos) (vOp op [ra, rb] (va2 ta tb)) := by
  obtain ⟨ta', tb', h1, h2, h3⟩ := two_args ha hb
  refine ⟨fun W => tOp r (ta' W) (tb' W), fun W tk => pe_cmpR ho (h1 W tk) (h2 W tk) hm, fun b σ H ε T Tv W N Q Q' I q k x => ?_⟩
  exact h3 b σ H ε T Tv W N _ _ I q (fun x y v w ε' H' J hv hw z => two_run hp I.lenT J hv hw z k) x
theorem ve_un {e1 : Expr} {o : UnaryOp} {ra : Option Nat} {ta : VTE} {r : V → Hp → VK → Prop} {op : List D → (D → Prop) → Prop} {pos : Pos} (ho : UnR X.toCx (unaryOp o) r) (hp : OpN X.K (r1N r) op) (ha : VG X e1 ra ta) : VE X (.UnaryOp o e1 pos) (vOp op [ra] (va1 ta)) := by
  obtain ⟨ta', a1, a2⟩ := ha.ex
  refine ⟨fun W => tUn r (ta' W), fun W tk => pe_un ho (a1 W tk), fun b σ H ε T Tv W N Q Q' I q k x => ?_⟩
  exact a2 b σ H ε T Tv W N _ _ I q (fun d v ε1 H1 J hd z => one_run hp I.lenT J hd z k) x
/-- a built-in function called by its name -/
theorem ve_callB {x : Str} {id : String} {p pos : Pos} {e : Expr} {es : List Expr} {rs : List (Option Nat)} {t : VTA} {r : List V → Hp → VK → Prop} {op : List D → (D → Prop) → Prop} (hc : CallR X.toCx (.builtin id) r) (hp : OpN X.K r op) (hg : Gl X.toCx x) (hm : X.mg x = none) (hv : bootBuiltins x = some (.builtin id)) (ha : VA X (e :: es) rs t)
    (hn : x ≠ "__name__" := by decide) (hdb : (x == ("__debug__" : Str)) = false := by decide) (he : starEach (e :: es) X.env = (false, eval e X.env) :: starEach es X.env := by rfl) (hpl : (backTo pos (starEach es X.env)).any (·.1) = false := by rfl) :
    VE X (.Call (.Name x p) (e :: es) [] pos) (vOp op rs t) := by
  obtain ⟨t', a1, a2⟩ := ha.ex
  refine ⟨fun W => tCB r (t' W), fun W tk => pe_callB hc hg hm hv (a1 W tk) hn hdb he hpl, fun b σ H ε T Tv W N Q Q' I q k x => ?_⟩
  exact a2 b σ H ε T Tv W N _ _ I q (fun ds vs ε1 H1 J l hd z => hp.run I.lenT l J hd z k) x
theorem ve_callTy {x : Str} {ty : String} {p pos : Pos} {e : Expr} {es : List Expr} {rs : List (Option Nat)} {t : VTA} {r : List V → Hp → VK → Prop} {op : List D → (D → Prop) → Prop} (hc : CallR X.toCx (.type ty) r) (hp : OpN X.K r op) (hg : Gl X.toCx x) (hm : X.mg x = none) (hv : bootBuiltins x = some (.type ty)) (ha : VA X (e :: es) rs t)
    (hn : x ≠ "__name__" := by decide) (hdb : (x == ("__debug__" : Str)) = false := by decide) (he : starEach (e :: es) X.env = (false, eval e X.env) :: starEach es X.env := by rfl) (hpl : (backTo pos (starEach es X.env)).any (·.1) = false := by rfl) :
    VE X (.Call (.Name x p) (e :: es) [] pos) (vOp op rs t) := by
  obtain ⟨t', a1, a2⟩ := ha.ex
  refine ⟨fun W => tCB r (t' W), fun W tk => pe_callTy hc hg hm hv (a1 W tk) hn hdb he hpl, fun b σ H ε T Tv W N Q Q' I q k x => ?_⟩
  exact a2 b σ H ε T Tv W N _ _ I q (fun ds vs ε1 H1 J l hd z => hp.run I.lenT l J hd z k) x
end
end VL
namespace VL
open PySem PySem.Spec PyProof.Rows L2 VL
section
variable {K : PySem.W.Frag} {b : Bs} {σ : L2.St} {H H' : Hp} {ε : Ep} {T : List D} {Tv : List V}
theorem SI.last {d : D} {v : V} (I : SI K b σ H ε (T ++ [d]) (Tv ++ [v])) (hl : T.length = Tv.length) : ∃ G F, Sub G H ∧ Rp K G H d v F := by
  obtain ⟨G, F, Ft, J⟩ := I
  obtain ⟨F1, F2, rfl, r1, r2⟩ := J.temps.split2 hl
  exact ⟨G, F2, J.sub, RpL.one.mp r2⟩
theorem SI.pop {d : D} {v : V} (I : SI K b σ H ε (T ++ [d]) (Tv ++ [v])) (hl : T.length = Tv.length) : SI K b σ H ε T Tv := I.drop hl
end
section
variable {X : Cv}
def vB (t : VTE) : VTT := fun N ε Q => t N ε fun d ε1 => ∃ c, d = .bl c ∧ Q c ε1
theorem vt_val {e : Expr} {t : VTE} (h : VE X e t) (he : ∀ whole, isTrue e X.env whole = (do let v ← whole; standAt e.pos; holding [v] (truthy v)) := by intro _; rfl) : VT X e (vB t) := by
  obtain ⟨t', h1, h2⟩ := h.ex
  refine ⟨fun W => tB (t' W), fun W tk => pt_val (h1 W tk) he, fun b σ H ε T Tv W N Q Q' I q k x => ?_⟩
  refine h2 b σ H ε T Tv W N _ _ I q (fun d v ε1 H1 J z => ?_) x
  obtain ⟨c, rfl, z⟩ := z
  obtain ⟨G, F, _, rv, _⟩ := J.last I.lenT
  exact ⟨c, rv, k c ε1 H1 (J.pop I.lenT) z⟩
theorem vt_cmp {e1 e2 : Expr} {o : CmpOp} {ra rb : Option Nat} {ta tb : VTE} {r : R2} {op : List D → (D → Prop) → Prop} {pos : Pos} (ho : OpR X.toCx (compareOp o) r) (hp : OpN X.K (r2N r) op) (ha : VG X e1 ra ta) (hb : VG X e2 rb tb) (hm : behindInMarks o e2 = false) :
    VT X (.Compare e1 [o] [e2] pos) (vB (vOp op [ra, rb] (va2 ta tb))) := by
  obtain ⟨ta', tb', h1, h2, h3⟩ := two_args ha hb
  refine ⟨fun W => tTest (tOp r (ta' W) (tb' W)), fun W tk => pt_cmpR ho (h1 W tk) (h2 W tk) hm, fun b σ H ε T Tv W N Q Q' I q k x => ?_⟩
  refine h3 b σ H ε T Tv W N _ _ I q (fun x y v w ε' H' J hv hw z => two_run (Q := fun d ε1 => ∃ c, d = .bl c ∧ Q c ε1) hp I.lenT J hv hw z fun d u ε1 H1 J1 z1 => ?_) x
  obtain ⟨c, rfl, z1⟩ := z1
  obtain ⟨G, F, _, rv, _⟩ := J1.last I.lenT
  exact ⟨c, rv, k c ε1 H1 (J1.pop I.lenT) z1⟩
def vAnd (t u : VTT) : VTT := fun N ε Q => t N ε fun c ε1 => if c = true then u N ε1 Q else Q false ε1
def vOr (t u : VTT) : VTT := fun N ε Q => t N ε fun c ε1 => if c = true then Q true ε1 else u N ε1 Q
def vNot (t : VTT) : VTT := fun N ε Q => t N ε fun c ε1 => Q (!c) ε1
theorem vw_and1 {a : Expr} {t : VTT} {pos : Pos} (h : VT X a t) : VW X (.BoolOp .And [a] pos) t := let ⟨t', h1, h2⟩ := h.ex; ⟨t', fun W tk => pw_and1 (h1 W tk), h2⟩
theorem vw_or1 {a : Expr} {t : VTT} {pos : Pos} (h : VT X a t) : VW X (.BoolOp .Or [a] pos) t := let ⟨t', h1, h2⟩ := h.ex; ⟨t', fun W tk => pw_or1 (h1 W tk), h2⟩
theorem vw_and {a c : Expr} {rest : List Expr} {t u : VTT} {pos : Pos} (h : VT X a t) (g : VW X (.BoolOp .And (c :: rest) pos) u) : VW X (.BoolOp .And (a :: c :: rest) pos) (vAnd t u) := by
  obtain ⟨t', h1, h2⟩ := h.ex
  obtain ⟨u', g1, g2⟩ := g.ex
  refine ⟨fun W => tAnd (t' W) (u' W), fun W tk => pw_and (h1 W tk) (g1 W tk), fun b σ H ε T Tv W N Q Q' I q k x => ?_⟩
  refine h2 b σ H ε T Tv W N _ _ I q (fun c ε1 H1 J z => ?_) x
  cases c with
  | true => exact g2 b σ H1 ε1 T Tv W N _ _ J z k x
  | false => exact k false ε1 H1 J z
theorem vw_or {a c : Expr} {rest : List Expr} {t u : VTT} {pos : Pos} (h : VT X a t) (g : VW X (.BoolOp .Or (c :: rest) pos) u) : VW X (.BoolOp .Or (a :: c :: rest) pos) (vOr t u) := by
  obtain ⟨t', h1, h2⟩ := h.ex
  obtain ⟨u', g1, g2⟩ := g.ex
  refine ⟨fun W => tOr (t' W) (u' W), fun W tk => pw_or (h1 W tk) (g1 W tk), fun b σ H ε T Tv W N Q Q' I q k x => ?_⟩
  refine h2 b σ H ε T Tv W N _ _ I q (fun c ε1 H1 J z => ?_) x
  cases c with
  | true => exact k true ε1 H1 J z
  | false => exact g2 b σ H1 ε1 T Tv W N _ _ J z k x
theorem vt_w {e : Expr} {t : VTT} (h : VW X e t) : VT X e t := let ⟨t', h1, h2⟩ := h.ex; ⟨t', fun W tk => (h1 W tk).pt, h2⟩
theorem vt_not {a : Expr} {t : VTT} {pos : Pos} (h : VT X a t) : VT X (.UnaryOp .Not a pos) (vNot t) := by
  obtain ⟨t', h1, h2⟩ := h.ex
  refine ⟨fun W => tNot (t' W), fun W tk => pt_not (h1 W tk), fun b σ H ε T Tv W N Q Q' I q k x => ?_⟩
  exact h2 b σ H ε T Tv W N _ _ I q (fun c ε1 H1 J z => k (!c) ε1 H1 J z) x
def vAndV (t u : VTE) : VTE := fun N ε Q => t N ε fun d ε1 => ∃ c, d = .bl c ∧ if c = true then u N ε1 Q else Q (.bl false) ε1
def vOrV (t u : VTE) : VTE := fun N ε Q => t N ε fun d ε1 => ∃ c, d = .bl c ∧ if c = true then Q (.bl true) ε1 else u N ε1 Q
def vNotV (t : VTE) : VTE := fun N ε Q => t N ε fun d ε1 => ∃ c, d = .bl c ∧ Q (.bl (!c)) ε1
def vIf (c : VTT) (t u : VTE) : VTE := fun N ε Q => c N ε fun c ε1 => if c = true then t N ε1 Q else u N ε1 Q
theorem ve_one {a : Expr} {o : BoolOp} {t : VTE} {pos : Pos} (h : VE X a t) : VE X (.BoolOp o [a] pos) t := let ⟨t', h1, h2⟩ := h.ex; ⟨t', fun W tk => pe_one (h1 W tk), h2⟩
theorem ve_and {a c : Expr} {rest : List Expr} {t u : VTE} {pos : Pos} (h : VE X a t) (g : VE X (.BoolOp .And (c :: rest) pos) u) : VE X (.BoolOp .And (a :: c :: rest) pos) (vAndV t u) := by
  obtain ⟨t', h1, h2⟩ := h.ex
  obtain ⟨u', g1, g2⟩ := g.ex
  refine ⟨fun W => tAndV (t' W) (u' W), fun W tk => pe_and (h1 W tk) (g1 W tk), fun b σ H ε T Tv W N Q Q' I q k x => ?_⟩
  refine h2 b σ H ε T Tv W N _ _ I q (fun d v ε1 H1 J z => ?_) x
  obtain ⟨c, rfl, z⟩ := z
  obtain ⟨G, F, _, rv, _⟩ := J.last I.lenT
  refine ⟨c, rv, ?_⟩
  cases c with
  | true => exact g2 b σ H1 ε1 T Tv W N _ _ (J.pop I.lenT) z k x
  | false => exact k (.bl false) _ ε1 H1 ((J.pop I.lenT).push fun _ => ⟨rfl, rfl⟩) z
theorem ve_or {a c : Expr} {rest : List Expr} {t u : VTE} {pos : Pos} (h : VE X a t) (g : VE X (.BoolOp .Or (c :: rest) pos) u) : VE X (.BoolOp .Or (a :: c :: rest) pos) (vOrV t u) := by
  obtain ⟨t', h1, h2⟩ := h.ex
  obtain ⟨u', g1, g2⟩ := g.ex
  refine ⟨fun W => tOrV (t' W) (u' W), fun W tk => pe_or (h1 W tk) (g1 W tk), fun b σ H ε T Tv W N Q Q' I q k x => ?_⟩
  refine h2 b σ H ε T Tv W N _ _ I q (fun d v ε1 H1 J z => ?_) x
  obtain ⟨c, rfl, z⟩ := z
  obtain ⟨G, F, _, rv, _⟩ := J.last I.lenT
  refine ⟨c, rv, ?_⟩
  cases c with
  | true => exact k (.bl true) _ ε1 H1 ((J.pop I.lenT).push fun _ => ⟨rfl, rfl⟩) z
  | false => exact g2 b σ H1 ε1 T Tv W N _ _ (J.pop I.lenT) z k x
theorem ve_not {a : Expr} {t : VTE} {pos : Pos} (h : VE X a t) : VE X (.UnaryOp .Not a pos) (vNotV t) := by
  obtain ⟨t', h1, h2⟩ := h.ex
  refine ⟨fun W => tNotV (t' W), fun W tk => pe_not (h1 W tk), fun b σ H ε T Tv W N Q Q' I q k x => ?_⟩
  refine h2 b σ H ε T Tv W N _ _ I q (fun d v ε1 H1 J z => ?_) x
  obtain ⟨c, rfl, z⟩ := z
  obtain ⟨G, F, _, rv, _⟩ := J.last I.lenT
  exact ⟨c, rv, k (.bl (!c)) _ ε1 H1 ((J.pop I.lenT).push fun _ => ⟨rfl, rfl⟩) z⟩
def vTup (t : VTA) : VTE := fun N ε Q => t N ε fun ds ε1 => ds.length ≤ 1000 ∧ Q (.tup ds) ε1
def vLst (t : VTA) : VTE := fun N ε Q => t N ε fun ds ε1 => ds.length ≤ 1000 ∧ Q (.lst true ds) ε1
theorem k1000 {n : Nat} (h : n ≤ 1000) : n ≤ sizeLine := Nat.le_trans h (by decide)
theorem ve_tup {es : List Expr} {rs : List (Option Nat)} {t : VTA} {x1 : Nat} {pos : Pos} (h : VA X es rs t) : VE X (.Tuple es x1 pos) (vTup t) := by
  obtain ⟨t', h1, h2⟩ := h.ex
  refine ⟨fun W => tTup (t' W), fun W tk => pe_tup (h1 W tk), fun b σ H ε T Tv W N Q Q' I q k x => ?_⟩
  refine h2 b σ H ε T Tv W N _ _ I q (fun ds vs ε1 H1 J l _ z => ?_) x
  obtain ⟨z1, z⟩ := z
  exact ⟨k1000 (by rw [← l]; exact z1), fun p hp => k _ _ ε1 _ (J.tup I.lenT hp) z⟩
theorem ve_lst {es : List Expr} {rs : List (Option Nat)} {t : VTA} {pos : Pos} (h : VA X es rs t) : VE X (.List es pos) (vLst t) := by
  obtain ⟨t', h1, h2⟩ := h.ex
  refine ⟨fun W => tLst (t' W), fun W tk => pe_lst (h1 W tk), fun b σ H ε T Tv W N Q Q' I q k x => ?_⟩
  refine h2 b σ H ε T Tv W N _ _ I q (fun ds vs ε1 H1 J l _ z => ?_) x
  obtain ⟨z1, z⟩ := z
  exact ⟨k1000 (by rw [← l]; exact z1), fun p hp => k (.lst true ds) _ ε1 _ (J.laid I.lenT hp (.lst vs) fun G H' F e r => ⟨p, vs, F, rfl, e, rfl, r⟩) z⟩
/-- an empty dict: keys ints and texts | keys tuples of these -/
theorem ve_dK {pos : Pos} : VE X (.Dict [] [] pos) (vC (.dK true [] [])) := by
  refine ⟨fun _ => tDNewK, fun _ _ => pe_dnewK, fun b σ H ε T Tv W N Q Q' I q k _ => fun p hp => ?_⟩
  refine k (.dK true [] []) _ ε _ ((SI.laid (ds := []) (vs := []) (by simpa using I) I.lenT hp (.dK []) fun G H' F e r => ?_)) q
  obtain ⟨_, rfl⟩ := r
  exact ⟨p, [], [], rfl, e, rfl, rfl, List.nodup_nil, rfl, rfl⟩
/-- what an expression gives is let stand still -/
def vStill (t : VTE) : VTE := fun N ε Q => t N ε fun d ε1 => Q (frz d) ε1
theorem ve_still {e : Expr} {t : VTE} (h : VE X e t) : VE X e (vStill t) := by
  obtain ⟨t', h1, h2⟩ := h.ex
  refine ⟨t', h1, fun b σ H ε T Tv W N Q Q' I q k x => ?_⟩
  exact h2 b σ H ε T Tv W N _ _ I q (fun d v ε1 H1 J z => k (frz d) v ε1 H1 (J.freeze I.lenT) z) x
/-- κ: the slots of kept parameters, which nobody stores into: told by the number of them at the begin that are not stored -/
def vSkip : VTS := fun N ε => N.nx ε
def vSeq (t u : VTS) : VTS := fun N ε => t { N with nx := u N } ε
theorem vss_nil : VSs X [] vSkip := ⟨fun _ => tNext, fun _ _ => pss_nil, fun b σ H ε T Tv W N E I q l _ => l.nx σ H ε I q⟩
theorem vss_one {st : Stmt} {t : VTS} (h : VS X st t) : VSs X [st] t := let ⟨t', h1, h2⟩ := h.ex; ⟨t', fun W tk => pss_one (h1 W tk), h2⟩
theorem vss_cons {st : Stmt} {rest : List Stmt} {t u : VTS} (h : VS X st t) (g : VSs X rest u) : VSs X (st :: rest) (vSeq t u) := by
  obtain ⟨t', h1, h2⟩ := h.ex
  obtain ⟨u', g1, g2⟩ := g.ex
  refine ⟨fun W => tSeq (t' W) (u' W), fun W tk => pss_cons (h1 W tk) (g1 W tk), fun b σ H ε T Tv W N E I q l x => ?_⟩
  exact h2 b σ H ε T Tv W { N with nx := u N } { E with nx := u' W E } I q ⟨fun σ1 H1 ε1 J z => g2 b σ1 H1 ε1 T Tv W N E J z l x, l.rt, l.bk, l.ct⟩ x
def vBrk : VTS := fun N ε => N.bk ε
def vCnt : VTS := fun N ε => N.ct ε
def vDrop (t : VTE) : VTS := fun N ε => t N.rx ε fun _ ε1 => N.nx ε1
theorem vs_expr {e : Expr} {t : VTE} {pos : Pos} (h : VE X e t) (hs : swapsWith e none pos.line X.env = pure false := by rfl) : VS X (.Expr e pos) (vDrop t) := by
  obtain ⟨t', h1, h2⟩ := h.ex
  refine ⟨fun W => tDrop (t' W), fun W tk => ps_expr (h1 W tk) hs, fun b σ H ε T Tv W N E I q l x => ?_⟩
  exact h2 b σ H ε T Tv W N.rx _ _ I q (fun d v ε1 H1 J z => l.nx σ H1 ε1 (J.pop I.lenT) z) x
def vRet (t : VTE) : VTS := fun N ε => t N.rx ε N.rt
theorem vs_ret {e : Expr} {t : VTE} {pos : Pos} (h : VE X e t) : VS X (.Return (some e) pos) (vRet t) := by
  obtain ⟨t', h1, h2⟩ := h.ex
  refine ⟨fun W => tRet (t' W), fun W tk => ps_ret (h1 W tk), fun b σ H ε T Tv W N E I q l x => ?_⟩
  exact h2 b σ H ε T Tv W N.rx _ _ I q (fun d v ε1 H1 J z => l.rt σ H1 ε1 d v J z) x
def vRetN : VTS := fun N ε => N.rt .non ε
theorem vs_retN {pos : Pos} : VS X (.Return none pos) vRetN := ⟨fun _ => tRetN, fun _ _ => ps_retN, fun b σ H ε T Tv W N E I q l _ => l.rt σ H ε .non .non (I.push fun _ => ⟨rfl, rfl⟩) q⟩
def vIfS (c : VTT) (t u : VTS) : VTS := fun N ε => c N.rx ε fun c ε1 => if c = true then t N ε1 else u N ε1
theorem vs_if {c : Expr} {a e : List Stmt} {tc : VTT} {t u : VTS} {pos : Pos} (hc : VT X c tc) (h : VSs X a t) (g : VSs X e u) : VS X (.If c a e pos) (vIfS tc t u) := by
  obtain ⟨tc', c1, c2⟩ := hc.ex
  obtain ⟨t', h1, h2⟩ := h.ex
  obtain ⟨u', g1, g2⟩ := g.ex
  refine ⟨fun W => tIfS (tc' W) (t' W) (u' W), fun W tk => ps_if (c1 W tk) (h1 W tk) (g1 W tk), fun b σ H ε T Tv W N E I q l x => ?_⟩
  refine c2 b σ H ε T Tv W N.rx _ _ I q (fun c ε1 H1 J z => ?_) x
  cases c with
  | true => exact h2 b σ H1 ε1 T Tv W N E J z l x
  | false => exact g2 b σ H1 ε1 T Tv W N E J z l x
/-- x = e -/
def vAsg (i : Nat) (t : VTE) : VTS := fun N ε => t N.rx ε fun d ε1 => i < ε1.length ∧ N.nx (ε1.set i (some d))
theorem Bx.free (b : Bx X) {i : Nat} (h : X.κ[i]? ≠ some true) : ∀ u, b.1.kv[i]? ≠ some (some u) := fun u e => h (b.2 i u e)
theorem vs_asg {i : Nat} {x : Str} {e : Expr} {t : VTE} {pos pos' : Pos} (hN : X.N.Nodup) (hi : X.N[i]? = some x) (hx : Loc X.env.scope x) (hk : X.κ[i]? ≠ some true) (h : VE X e t) (hs : swapsWith e (some (.Name x pos')) pos.line X.env = pure false := by rfl)
    (hf : X.fn x = true ∨ X.env.scope.names.lookup x = some .local := by first | exact .inl rfl | exact .inr rfl | assumption) : VS X (.Assign [.Name x pos'] e pos) (vAsg i t) := by
  obtain ⟨t', h1, h2⟩ := h.ex
  refine ⟨fun W => tAsg (t' W) (gName i), fun W tk => ps_set hN hi hx (h1 W tk) hs hf, fun b σ H ε T Tv W N E I q l x => ?_⟩
  exact h2 b σ H ε T Tv W N.rx _ _ I q (fun d v ε1 H1 J z => l.nx _ H1 _ (J.store I.lenT z.1 (b.free hk)) z.2) x
/-- what a target does with what it is given, which is held on top -/
abbrev VTG := D → Ep → (Ep → Prop) → Prop
structure VTa (X : Cv) (tg : Expr) (t : VTG) : Prop where
  ex : ∃ g : TG, PG X.toCx tg g ∧ ∀ (b : Bx X) σ H ε T Tv d v Q Q', SI X.K b.1 σ H ε (T ++ [d]) (Tv ++ [v]) → T.length = Tv.length → t d ε Q →
    (∀ ε' σ' H', SI X.K b.1 σ' H' ε' T Tv → Q ε' → Q' σ' H') → g v σ H Q'
def vName (i : Nat) : VTG := fun d ε Q => i < ε.length ∧ Q (ε.set i (some d))
theorem vt_name {i : Nat} {x : Str} {pos : Pos} (hN : X.N.Nodup) (hi : X.N[i]? = some x) (hx : Loc X.env.scope x) (hk : X.κ[i]? ≠ some true)
    (hf : X.fn x = true ∨ X.env.scope.names.lookup x = some .local := by first | exact .inl rfl | exact .inr rfl | assumption) : VTa X (.Name x pos) (vName i) :=
  ⟨gName i, pg_name hN hi hx hf, fun b σ H ε T Tv d v Q Q' I l q k => k _ _ _ (I.store l q.1 (b.free hk)) q.2⟩
end
end VL
namespace VL
open PySem PySem.Spec PyProof.Rows L2 VL
section
variable {K : PySem.W.Frag} {b : Bs} {σ : L2.St} {H H' : Hp} {ε : Ep} {T : List D} {Tv : List V}
theorem heldNone {σ : L2.St} : ∀ {R : List D} {Rv : List V}, R.length = Rv.length → Held σ (R.map fun _ => none) Rv
  | [], [], _ => trivial
  | _ :: R, _ :: Rv, h => heldNone (R := R) (Nat.succ.inj h)
  | [], _ :: _, h => by cases h
  | _ :: _, [], h => by cases h
theorem restoreNone : ∀ {R : List D} {ε : Ep}, restore (R.map fun _ => none) R ε = ε
  | [], _ => rfl
  | _ :: R, _ => restoreNone (R := R)
theorem SI.midDrops {R S : List D} {Rv Sv : List V} (I : SI K b σ H ε (T ++ (R ++ S)) (Tv ++ (Rv ++ Sv))) (hl : T.length = Tv.length) (hr : R.length = Rv.length) : SI K b σ H ε (T ++ S) (Tv ++ Sv) := by
  have := SI.restore hl (heldNone hr) hr I
  rw [restoreNone] at this
  exact this
/-- a held thing amid others goes to a slot -/
theorem SI.midStore {d : D} {v : V} {R : List D} {Rv : List V} (I : SI K b σ H ε (T ++ d :: R) (Tv ++ v :: Rv)) (hl : T.length = Tv.length) {i : Nat} (hi : i < ε.length) (hk : ∀ u, b.kv[i]? ≠ some (some u)) : SI K b (σ.set i (some v)) H (ε.set i (some d)) (T ++ R) (Tv ++ Rv) := by
  obtain ⟨G, F, Ft, J⟩ := I
  obtain ⟨F1, F2, rfl, r1, r2⟩ := J.temps.split2 hl
  obtain ⟨v', vs', A, B, e, rfl, rd, rs⟩ := r2
  obtain ⟨rfl, rfl⟩ := List.cons.inj e
  obtain ⟨ov, C, E, L, hs', rfl, ro, back⟩ := J.slots.focus (i := i) (List.getElem?_eq_getElem hi)
  have s2 := back G H (some d) (some v) A Sub.refl (fun _ _ => rfl) ⟨v, rfl, rd⟩
  have sb : ∀ a, a ∈ C ++ A ++ L ++ (F1 ++ B) → a ∈ C ++ E ++ L ++ (F1 ++ (A ++ B)) := fun a z => by
    simp only [List.mem_append] at z ⊢
    rcases z with ((z | z) | z) | z | z
    · exact .inl (.inl (.inl z))
    · exact .inr (.inr (.inl z))
    · exact .inl (.inr z)
    · exact .inr (.inl z)
    · exact .inr (.inr (.inr z))
  have nd : (C ++ A ++ L ++ (F1 ++ B)).Nodup := by
    have h1 : (C ++ E ++ L ++ (F1 ++ (A ++ B))).Perm (E ++ (C ++ A ++ L ++ (F1 ++ B))) := by
      apply List.perm_iff_count.mpr
      intro a
      simp only [List.count_append]
      omega
    exact (List.nodup_append.mp (h1.nodup_iff.mp J.nd)).2.1
  refine ⟨G, _, F1 ++ B, J.s0, J.sub, s2, r1.append rs, nd, fun a z => J.fr a (sb a z), fun a z => J.own a (sb a z), J.gn, J.keep, fun j u e => ?_⟩
  have hj : i ≠ j := fun z => by
    subst z
    exact hk u e
  rw [List.getElem?_set_ne hj]
  exact J.kept j u e
/-- a held tuple is opened -/
theorem SI.openT {ds : List D} {v : V} (I : SI K b σ H ε (T ++ [.tup ds]) (Tv ++ [v])) (hl : T.length = Tv.length) : ∃ a vs, v = .ref a ∧ SqT K H a vs ∧ ds.length = vs.length ∧ SI K b σ H ε (T ++ ds) (Tv ++ vs) := by
  obtain ⟨G, F, Ft, J⟩ := I
  obtain ⟨F1, F2, rfl, r1, r2⟩ := J.temps.split2 hl
  obtain ⟨a, vs, rfl, s, r⟩ := RpL.one.mp r2
  exact ⟨a, vs, rfl, SqT.of (J.sub _ _ s), r.len, G, F, F1 ++ F2, J.s0, J.sub, J.slots, r1.append r, J.nd, J.fr, J.own, J.gn, J.keep, J.kept⟩
theorem SI.openL {m : Bool} {ds : List D} {v : V} (I : SI K b σ H ε (T ++ [.lst m ds]) (Tv ++ [v])) (hl : T.length = Tv.length) : ∃ a vs, v = .ref a ∧ SqL K H a vs ∧ ds.length = vs.length ∧ SI K b σ H ε (T ++ ds) (Tv ++ vs) := by
  obtain ⟨G, F, Ft, J⟩ := I
  obtain ⟨F1, F2, rfl, r1, r2⟩ := J.temps.split2 hl
  have r2 := RpL.one.mp r2
  cases m with
  | false =>
    obtain ⟨a, vs, rfl, s, rfl, r⟩ := r2
    exact ⟨a, vs, rfl, J.sub.sqL s, r.len, G, F, F1 ++ [], J.s0, J.sub, J.slots, r1.append r, J.nd, J.fr, J.own, J.gn, J.keep, J.kept⟩
  | true =>
    obtain ⟨a, vs, F', rfl, s, rfl, r⟩ := r2
    have sb : ∀ c, c ∈ F ++ (F1 ++ F') → c ∈ F ++ (F1 ++ a :: F') := fun c z => by
      simp only [List.mem_append, List.mem_cons] at z ⊢
      rcases z with z | z | z
      · exact .inl z
      · exact .inr (.inl z)
      · exact .inr (.inr (.inr z))
    have nd : (F ++ (F1 ++ F')).Nodup := by
      have h1 : (F ++ (F1 ++ a :: F')).Perm ([a] ++ (F ++ (F1 ++ F'))) := by
        apply List.perm_iff_count.mpr
        intro c
        simp only [List.count_append, List.count_cons]
        simp
        omega
      exact (List.nodup_append.mp (h1.nodup_iff.mp J.nd)).2.1
    exact ⟨a, vs, rfl, SqL.of s, r.len, G, F, F1 ++ F', J.s0, J.sub, J.slots, r1.append r, nd, fun c z => J.fr c (sb c z), fun c z => J.own c (sb c z), J.gn, J.keep, J.kept⟩
end
section
variable {X : Cv}
def setAll : List Nat → List D → Ep → Ep
  | i :: is, d :: ds, ε => setAll is ds (ε.set i (some d))
  | _, _, ε => ε
structure VNs (X : Cv) (ts : List Expr) (is : List Nat) : Prop where
  ex : ∃ g : TGs, PGs X.toCx ts g ∧ ∀ (b : Bx X) σ H ε T Tv ds vs (Q : Ep → Prop) (Q' : L2.St → Hp → Prop), SI X.K b.1 σ H ε (T ++ ds) (Tv ++ vs) → T.length = Tv.length → ds.length = vs.length → is.length = ds.length → (∀ i ∈ is, i < ε.length) → Q (setAll is ds ε) →
    (∀ ε' σ' H', SI X.K b.1 σ' H' ε' T Tv → Q ε' → Q' σ' H') → g vs σ H Q'
theorem vns_nil : VNs X [] [] := ⟨gNil, pgs_nil, fun b σ H ε T Tv ds vs Q Q' I l hd hi _ q k => by
  cases ds with
  | cons _ _ => cases hi
  | nil =>
    cases vs with
    | cons _ _ => cases hd
    | nil => exact ⟨rfl, k ε σ H (by simpa using I) q⟩⟩
theorem vns_cons {x : Str} {pos : Pos} {es : List Expr} {i : Nat} {is : List Nat} (hN : X.N.Nodup) (hi : X.N[i]? = some x) (hx : Loc X.env.scope x) (hk : X.κ[i]? ≠ some true) (h : VNs X es is)
    (hs : (assignEach (.Name x pos :: es) X.env).map (·.2) = assign (.Name x pos) X.env :: (assignEach es X.env).map (·.2) := by rfl)
    (hf : X.fn x = true ∨ X.env.scope.names.lookup x = some .local := by first | exact .inl rfl | exact .inr rfl | assumption) : VNs X (.Name x pos :: es) (i :: is) := by
  obtain ⟨g, h1, h2⟩ := h.ex
  refine ⟨gCons (gName i) g, pgs_cons (pg_name hN hi hx hf) h1 hs, fun b σ H ε T Tv ds vs Q Q' I l hd hn hb q k => ?_⟩
  cases ds with
  | nil => cases hn
  | cons d ds =>
    cases vs with
    | nil => cases hd
    | cons v vs =>
      refine ⟨v, vs, rfl, ?_⟩
      exact h2 b _ H _ T Tv ds vs Q Q' (SI.midStore I l (hb i List.mem_cons_self) (b.free hk)) l (Nat.succ.inj hd) (Nat.succ.inj hn) (fun j z => by rw [List.length_set]; exact hb j (List.mem_cons_of_mem _ z)) q k
/-- the things that a tuple, a list holds -/
def items : D → Option (List D)
  | .tup ds => some ds
  | .lst _ ds => some ds
  | _ => none
def vNames (is : List Nat) : VTG := fun d ε Q => ∃ ds, items d = some ds ∧ is.length = ds.length ∧ (∀ i ∈ is, i < ε.length) ∧ Q (setAll is ds ε)
theorem vt_names {es : List Expr} {is : List Nat} {k : Nat} {pos : Pos} {n : Nat} (hc : X.calm = true) (h : VNs X es is)
    (hn : (assignEach es X.env).length = is.length := by rfl) (hst : (assignEach es X.env).findIdx? (·.1) = none := by rfl) : VTa X (.Tuple es k pos) (vNames is) := by
  obtain ⟨g, h1, h2⟩ := h.ex
  refine ⟨fun v σ H Q => gTup X.K is.length g v σ H Q ∨ gLst X.K is.length g v σ H Q, ⟨fun pins s σ H v u Q I r w => ?_⟩, fun b σ H ε T Tv d v Q Q' I l q z => ?_⟩
  · rcases w with w | w
    · exact (pg_tup hc h1 hn hst).run pins s σ H v u Q I r w
    · exact (pg_lst hc h1 hn hst).run pins s σ H v u Q I r w
  · obtain ⟨ds, hd, hl, hb, q⟩ := q
    cases d with
    | tup es =>
      cases hd
      obtain ⟨a, vs, rfl, s, l2, J⟩ := I.openT l
      exact .inl ⟨a, vs, rfl, s, by rw [← l2, hl], h2 b σ H ε T Tv ds vs Q Q' J l l2 hl hb q z⟩
    | lst m es =>
      cases hd
      obtain ⟨a, vs, rfl, s, l2, J⟩ := I.openL l
      exact .inr ⟨a, vs, rfl, s, by rw [← l2, hl], h2 b σ H ε T Tv ds vs Q Q' J l l2 hl hb q z⟩
    | _ => cases hd
def vAsgT (t : VTE) (g : VTG) : VTS := fun N ε => t N.rx ε fun d ε1 => g d ε1 N.nx
theorem vs_asgT {tg e : Expr} {t : VTE} {g : VTG} {pos : Pos} (h : VE X e t) (hg : VTa X tg g) (hs : swapsWithSole [tg] e pos.line X.env = pure false := by rfl) (hw : swappedStores [tg] e X.env = pure none := by rfl)
    (h1 : (assignEach [tg] X.env).map (·.2) = [assign tg X.env] := by rfl) : VS X (.Assign [tg] e pos) (vAsgT t g) := by
  obtain ⟨t', a1, a2⟩ := h.ex
  obtain ⟨g', g1, g2⟩ := hg.ex
  refine ⟨fun W => tAsg (t' W) g', fun W tk => ps_asg (a1 W tk) g1 hs hw h1, fun b σ H ε T Tv W N E I q l x => ?_⟩
  exact a2 b σ H ε T Tv W N.rx _ _ I q (fun d v ε1 H1 J z => g2 b σ H1 ε1 T Tv d v N.nx E.nx J I.lenT z fun ε' σ' H' J' z' => l.nx σ' H' ε' J' z') x
/-- the walk J gives ds one by one while R is held -/
def Wk (K : PySem.W.Frag) (J : It) (ds R : List D) (Rv : List V) : Prop := ∀ (b : Bs) σ H ε T Tv i, T.length = Tv.length → SI K b σ H ε (T ++ R) (Tv ++ Rv) →
  (∀ d, ds[i]? = some d → J.go i H ∧ ∀ x H', J.yld i H x H' → SI K b σ H' ε (T ++ (R ++ [d])) (Tv ++ (Rv ++ [x]))) ∧ (ds.length ≤ i → J.stop i H)
structure VI (X : Cv) (tg iter : Expr) (t : VTA) : Prop where
  ex : ∃ t' : WX → TI, (∀ W, Takes X.toCx W → PI X.toCx tg iter (t' W)) ∧ ∀ (b : Bx X) σ H ε T Tv W N Q Q', SI X.K b.1 σ H ε T Tv → t N ε Q →
    (∀ ds R Rv J ε' H', SI X.K b.1 σ H' ε' (T ++ R) (Tv ++ Rv) → R.length = Rv.length → Wk X.K J ds R Rv → Q ds ε' → Q' J H') → XL X.K b.1 T Tv W N → t' W σ H Q'
def vForL (g : VTG) (body : VTS) : List D → VTS
  | [], N, ε => N.nx ε
  | d :: ds, N, ε => g d ε fun ε1 => body { N with nx := fun ε' => vForL g body ds N ε', ct := fun ε' => vForL g body ds N ε', bk := N.nx } ε1
def vFor (wi : VTA) (g : VTG) (body : VTS) : VTS := fun N ε => wi N.rx ε fun ds ε1 => vForL g body ds N ε1
theorem vs_for {tg iter : Expr} {body : List Stmt} {wi : VTA} {g : VTG} {t : VTS} {pos : Pos} (hp : PassesOwn (model X.prog X.w) X.A X.env X.xe) (hc : X.calm = true) (hi : VI X tg iter wi) (hg : VTa X tg g) (hb : VSs X body t)
    (hs : ∀ x, foldedSetIterable iter X.env x = pure x := by intro _; rfl) : VS X (.For tg iter body [] pos) (vFor wi g t) := by
  obtain ⟨wi', w1, w2⟩ := hi.ex
  obtain ⟨g', g1, g2⟩ := hg.ex
  obtain ⟨t', t1, t2⟩ := hb.ex
  refine ⟨fun W => tFor (wi' W) g' (t' W), fun W tk => ps_for hp hc (w1 W tk) g1 (t1 W tk) hs, fun b σ H ε T Tv W N E I q l x => ?_⟩
  refine w2 b σ H ε T Tv W N.rx _ _ I q (fun ds R Rv J ε1 H1 I1 hr wk z => ?_) x
  have hl := I.lenT
  refine ⟨fun i m σ H => m = ds.length - i ∧ i ≤ ds.length ∧ ∃ ε, SI X.K b.1 σ H ε (T ++ R) (Tv ++ Rv) ∧ vForL g t (ds.drop i) N ε, ⟨ds.length, rfl, Nat.zero_le _, ε1, I1, z⟩, ?_⟩
  rintro i m σ2 H2 ⟨rfl, hi, ε2, I2, z2⟩
  obtain ⟨go, stop⟩ := wk b.1 σ2 H2 ε2 T Tv i hl I2
  by_cases hlt : i < ds.length
  · right
    rw [List.drop_eq_getElem_cons hlt] at z2
    obtain ⟨g0, gy⟩ := go ds[i] (List.getElem?_eq_getElem hlt)
    refine ⟨g0, fun σ' H' => ∃ ε, SI X.K b.1 σ' H' ε (T ++ R) (Tv ++ Rv) ∧ vForL g t (ds.drop (i + 1)) N ε, fun σ' H' y => ⟨ds.length - (i + 1), by omega, rfl, hlt, y⟩, fun v H' y => ?_⟩
    have I3 := gy v H' y
    have hl2 : (T ++ R).length = (Tv ++ Rv).length := by rw [List.length_append, List.length_append, hl, hr]
    refine g2 b σ2 H' ε2 (T ++ R) (Tv ++ Rv) ds[i] v _ _ (by simpa only [List.append_assoc] using I3) hl2 z2 fun ε4 σ4 H4 I4 z4 => ?_
    refine t2 b σ4 H4 ε4 (T ++ R) (Tv ++ Rv) W _ _ I4 z4 ⟨fun σ5 H5 ε5 I5 z5 => ⟨ε5, I5, z5⟩, fun σ5 H5 ε5 d5 v5 I5 z5 => l.rt σ5 H5 ε5 d5 v5 ?_ z5, fun σ5 H5 ε5 I5 z5 => l.nx σ5 H5 ε5 (I5.drop hl) z5, fun σ5 H5 ε5 I5 z5 => ⟨ε5, I5, z5⟩⟩ (x.more hl hr)
    exact SI.midDrops (by simpa only [List.append_assoc] using I5) hl hr
  · left
    have e : i = ds.length := by omega
    subst e
    rw [List.drop_length] at z2
    exact ⟨stop (Nat.le_refl _), l.nx σ2 H2 ε2 (I2.drop hl) z2⟩
theorem wk_lst {K : PySem.W.Frag} {ds : List D} {a : Addr} : Wk K (Itl K a) ds [.lst false ds] [.ref a] := fun b σ H ε T Tv i hl I => by
  obtain ⟨G, F, Ft, J⟩ := id I
  obtain ⟨F1, F2, rfl, r1, r2⟩ := J.temps.split2 hl
  obtain ⟨a', vs, e, s, rfl, r⟩ := RpL.one.mp r2
  cases e
  have s2 := J.sub.sqL s
  refine ⟨fun d hd => ?_, fun h => ⟨vs, s2, by rw [← r.len]; exact h⟩⟩
  obtain ⟨v, hv, rv⟩ := r.get hd
  refine ⟨⟨vs, v, s2, hv⟩, fun x H' y => ?_⟩
  obtain ⟨rfl, y⟩ := y
  have := y vs s2
  rw [hv] at this
  cases this
  have J2 := J.push (rv.mono (H' := H') Sub.refl fun _ z => nomatch z)
  exact ⟨G, F, _, by simpa only [List.append_assoc] using J2⟩
theorem wk_tup {K : PySem.W.Frag} {ds : List D} {a : Addr} (hz : isFzL ds = true) : Wk K (Itt K a) ds [.tup ds] [.ref a] := fun b σ H ε T Tv i hl I => by
  obtain ⟨G, F, Ft, J⟩ := id I
  obtain ⟨F1, F2, rfl, r1, r2⟩ := J.temps.split2 hl
  obtain ⟨a', vs, e, s, r⟩ := RpL.one.mp r2
  cases e
  have := r.fz hz
  subst this
  have s2 : SqT K H a vs := SqT.of (J.sub _ _ s)
  refine ⟨fun d hd => ?_, fun h => ⟨vs, s2, by rw [← r.len]; exact h⟩⟩
  obtain ⟨v, hv, rv⟩ := r.get hd
  refine ⟨⟨vs, v, s2, hv⟩, fun x H' y => ?_⟩
  obtain ⟨rfl, y⟩ := y
  have := y vs s2
  rw [hv] at this
  cases this
  have J2 := J.push (rv.mono (H' := H') Sub.refl fun _ z => nomatch z)
  exact ⟨G, F, _, by simpa only [List.append_assoc] using J2⟩
end
end VL
namespace VL
open PySem PySem.Spec PyProof.Rows L2 VL
section
variable {X : Cv} {tg : Expr}
theorem lenApp {α β : Type} {A B : List α} {C D : List β} (h : A.length = C.length) (k : B.length = D.length) : (A ++ B).length = (C ++ D).length := by
  rw [List.length_append, List.length_append, h, k]
/-- for .. in a list that stands still -/
def viLst (t : VTE) : VTA := fun N ε Q => t N ε fun d ε1 => ∃ ds, d = .lst false ds ∧ Q ds ε1
def viTup (t : VTE) : VTA := fun N ε Q => t N ε fun d ε1 => ∃ ds, d = .tup ds ∧ isFzL ds = true ∧ Q ds ε1
theorem vi_lst {e : Expr} {t : VTE} (h : VE X e t) : VI X tg e (viLst t) := by
  obtain ⟨t', a1, a2⟩ := h.ex
  refine ⟨fun W => iList X.K (t' W), fun W tk => pi_list (a1 W tk), fun b σ H ε T Tv W N Q Q' I q k x => ?_⟩
  refine a2 b σ H ε T Tv W N _ _ I q (fun d v ε1 H1 J z => ?_) x
  obtain ⟨ds, rfl, z⟩ := z
  obtain ⟨G, F, su, r⟩ := J.last I.lenT
  obtain ⟨a, vs, rfl, s, _, _⟩ := r
  exact ⟨a, rfl, ⟨vs, su.sqL s⟩, k ds [.lst false ds] [.ref a] _ ε1 H1 J rfl wk_lst z⟩
theorem vi_tup {e : Expr} {t : VTE} (h : VE X e t) : VI X tg e (viTup t) := by
  obtain ⟨t', a1, a2⟩ := h.ex
  refine ⟨fun W => iTup X.K (t' W), fun W tk => pi_tup (a1 W tk), fun b σ H ε T Tv W N Q Q' I q k x => ?_⟩
  refine a2 b σ H ε T Tv W N _ _ I q (fun d v ε1 H1 J z => ?_) x
  obtain ⟨ds, rfl, hz, z⟩ := z
  obtain ⟨G, F, su, r⟩ := J.last I.lenT
  obtain ⟨a, vs, rfl, s, _⟩ := r
  exact ⟨a, rfl, ⟨vs, SqT.of (su _ _ s)⟩, k ds [.tup ds] [.ref a] _ ε1 H1 J rfl (wk_tup hz) z⟩
/-- lo, lo + 1, .. -/
def rng (lo : Int) (n : Nat) : List D := (List.range n).map fun (i : Nat) => D.int (lo + (i : Int))
theorem rng_get {lo : Int} {n i : Nat} {d : D} (h : (rng lo n)[i]? = some d) : i < n ∧ d = .int (lo + i) := by
  unfold rng at h
  rw [List.getElem?_map] at h
  cases e : (List.range n)[i]? with
  | none => rw [e] at h; cases h
  | some j =>
    rw [e] at h
    have := List.getElem?_eq_some_iff.mp e
    obtain ⟨h1, h2⟩ := this
    rw [List.getElem_range] at h2
    subst h2
    simp at h
    exact ⟨by simpa using h1, h.symm⟩
theorem rng_len (lo : Int) (n : Nat) : (rng lo n).length = n := by simp [rng]
theorem wk_rng {K : PySem.W.Frag} {lo : Int} {n : Nat} : Wk K (Itr lo n) (rng lo n) [] [] := fun b σ H ε T Tv i hl I => by
  refine ⟨fun d hd => ?_, fun h => by rw [rng_len] at h; exact h⟩
  obtain ⟨hi, rfl⟩ := rng_get hd
  refine ⟨hi, fun x H' y => ?_⟩
  obtain ⟨rfl, rfl⟩ := y
  have I2 : SI K b σ H' ε T Tv := by simpa using I
  exact I2.push fun G => ⟨rfl, rfl⟩
def viR1 (t : VTA) : VTA := fun N ε Q => t N ε fun ds ε1 => ∃ j : Int, ds = [.int j] ∧ -(2 ^ 62) ≤ j ∧ j < 2 ^ 62 ∧ Q (rng 0 j.toNat) ε1
def viR2 (t : VTA) : VTA := fun N ε Q => t N ε fun ds ε1 => ∃ i j : Int, ds = [.int i, .int j] ∧ (-(2 ^ 62) ≤ i ∧ i < 2 ^ 62 ∧ -(2 ^ 62) ≤ j ∧ j < 2 ^ 62) ∧ Q (rng i (j - i).toNat) ε1
theorem vi_range1 {a : Expr} {t : VTA} {p pos : Pos} (hg : Gl X.toCx "range") (hm : X.mg "range" = none) (ha : VA X [a] [none] t) (hs : starEach [a] X.env = [(false, eval a X.env)] := by rfl) : VI X tg (.Call (.Name "range" p) [a] [] pos) (viR1 t) := by
  obtain ⟨t', a1, a2⟩ := ha.ex
  refine ⟨fun W => iRng1 (t' W), fun W tk => pi_range1 hg hm (a1 W tk) hs, fun b σ H ε T Tv W N Q Q' I q k x => ?_⟩
  refine a2 b σ H ε T Tv W N _ _ I q (fun ds vs ε1 H1 J l hh z => ?_) x
  obtain ⟨j, rfl, h1, h2, z⟩ := z
  obtain ⟨v, rfl⟩ := List.length_eq_one_iff.mp l.symm
  obtain ⟨G, F, su, rfl, _⟩ := J.last I.lenT
  exact ⟨j, rfl, h1, h2, k _ [] [] _ ε1 H1 (by simpa using J.pop I.lenT) rfl wk_rng z⟩
theorem SI.last2 {K : PySem.W.Frag} {b : Bs} {σ : L2.St} {H : Hp} {ε : Ep} {T : List D} {Tv : List V} {d e : D} {v w : V} (I : SI K b σ H ε (T ++ [d, e]) (Tv ++ [v, w])) (hl : T.length = Tv.length) : ∃ G F1 F2, Sub G H ∧ Rp K G H d v F1 ∧ Rp K G H e w F2 := by
  obtain ⟨G, F, Ft, J⟩ := I
  obtain ⟨F1, F2, rfl, r1, r2⟩ := J.temps.split2 hl
  obtain ⟨v', vs', A, B, e1, rfl, ra, v2, vs2, A2, B2, e2, rfl, rb, _⟩ := r2
  cases e1
  cases e2
  exact ⟨G, A, A2, J.sub, ra, rb⟩
theorem len2 {α : Type} {l : List α} (h : 2 = l.length) : ∃ a b, l = [a, b] := by
  match l, h with
  | [a, b], _ => exact ⟨a, b, rfl⟩
/-- with their places, with one another -/
def enumD (ds : List D) : List D := ds.zipIdx.map fun p => D.tup [.int (p.2 : Nat), p.1]
def zipD (ds es : List D) : List D := (ds.zip es).map fun p => D.tup [p.1, p.2]
theorem zipD_get {ds es : List D} {i : Nat} {d : D} (h : (zipD ds es)[i]? = some d) : ∃ x y, ds[i]? = some x ∧ es[i]? = some y ∧ d = .tup [x, y] := by
  unfold zipD at h
  rw [List.getElem?_map] at h
  cases e : (ds.zip es)[i]? with
  | none => rw [e] at h; cases h
  | some p =>
    rw [e] at h
    obtain ⟨h1, h2⟩ := List.getElem?_zip_eq_some.mp e
    simp at h
    exact ⟨p.1, p.2, h1, h2, h.symm⟩
theorem zipD_len (ds es : List D) : (zipD ds es).length = min ds.length es.length := by simp [zipD]
/-- a new tuple of things that stand still -/
theorem SI.newTup {K : PySem.W.Frag} {b : Bs} {σ : L2.St} {H : Hp} {ε : Ep} {T : List D} {Tv : List V} {ds : List D} {vs : List V} (I : SI K b σ H ε (T ++ ds) (Tv ++ vs)) (hl : T.length = Tv.length) {p : Addr} (n : H p = none) : SI K b σ (upd H p (.tup vs)) ε (T ++ [.tup ds]) (Tv ++ [.ref p]) := I.tup hl n
def viEnum (t : VTA) : VTA := fun N ε Q => t N ε fun ds ε1 => ∃ xs, ds = [.lst false xs] ∧ Q (enumD xs) ε1
theorem wk_zip {K : PySem.W.Frag} {ds es : List D} {a c : Addr} : Wk K (Itz K a c) (zipD ds es) [.lst false ds, .lst false es] [.ref a, .ref c] := fun b σ H ε T Tv i hl I => by
  obtain ⟨G, F, Ft, J⟩ := id I
  obtain ⟨F1, F2, rfl, r1, r2⟩ := J.temps.split2 hl
  obtain ⟨v', vs', A, B, e1, rfl, ra, v2, vs2, A2, B2, e2, rfl, rb, rfl, rfl⟩ := r2
  cases e1
  cases e2
  obtain ⟨a', vs, e, s, rfl, r⟩ := ra
  cases e
  obtain ⟨c', us, e, s', rfl, r'⟩ := rb
  cases e
  have s2 := J.sub.sqL s
  have s3 := J.sub.sqL s'
  refine ⟨fun d hd => ?_, fun h => ⟨vs, us, s2, s3, by rw [zipD_len] at h; rw [← r.len, ← r'.len]; omega⟩⟩
  obtain ⟨x, y, hx, hy, rfl⟩ := zipD_get hd
  obtain ⟨v, hv, rv⟩ := r.get hx
  obtain ⟨u, hu, ru⟩ := r'.get hy
  refine ⟨⟨vs, us, v, u, s2, s3, hv, hu⟩, fun z H' q => ?_⟩
  obtain ⟨p, w1, w2, rfl, hp, rfl, y1, y2⟩ := q
  have e1 := y1 vs s2
  rw [hv] at e1
  cases e1
  have e2 := y2 us s3
  rw [hu] at e2
  cases e2
  have J1 := J.push (rv.mono (H' := H) Sub.refl fun _ z => nomatch z)
  have J2 := J1.push (ru.mono (H' := H) Sub.refl fun _ z => nomatch z)
  have I2 : SI K b σ H ε ((T ++ [.lst false ds, .lst false es]) ++ [x, y]) ((Tv ++ [.ref a, .ref c]) ++ [v, u]) := ⟨G, F, _, by simpa only [List.append_assoc, List.cons_append, List.nil_append] using J2⟩
  have I3 := I2.newTup (lenApp hl rfl) hp
  simpa only [List.append_assoc] using I3
def viZip (t : VTA) : VTA := fun N ε Q => t N ε fun ds ε1 => ∃ xs ys, ds = [.lst false xs, .lst false ys] ∧ Q (zipD xs ys) ε1
def viRev (t : VTA) : VTA := fun N ε Q => t N ε fun ds ε1 => ∃ xs, ds = [.lst false xs] ∧ Q xs.reverse ε1
/-- a text, sign by sign -/
theorem wk_str {K : PySem.W.Frag} {s : Cs} : Wk K (Its (toS s)) (s.map fun c => D.str [c]) [] [] := fun b σ H ε T Tv i hl I => by
  have sz : (toS s).cps.size = s.length := by simp [toS]
  refine ⟨fun d hd => ?_, fun h => by show (toS s).cps.size ≤ i; rw [sz]; simpa using h⟩
  rw [List.getElem?_map] at hd
  cases e : s[i]? with
  | none => rw [e] at hd; cases hd
  | some c =>
    rw [e] at hd
    cases hd
    refine ⟨by show i < (toS s).cps.size; rw [sz]; exact (List.getElem?_eq_some_iff.mp e).1, fun x H' y => ?_⟩
    obtain ⟨rfl, c', hc', rfl⟩ := y
    have : (toS s).cps[i]? = s[i]? := by simp [toS]
    rw [this, e] at hc'
    cases hc'
    have I2 : SI K b σ H' ε T Tv := by simpa using I
    exact I2.push fun G => ⟨rfl, rfl⟩
def viStr (t : VTE) : VTA := fun N ε Q => t N ε fun d ε1 => ∃ s : Cs, d = .str s ∧ Q (s.map fun c => D.str [c]) ε1
theorem vi_str {e : Expr} {t : VTE} (h : VE X e t) : VI X tg e (viStr t) := by
  obtain ⟨t', a1, a2⟩ := h.ex
  refine ⟨fun W => iStr (t' W), fun W tk => pi_str (a1 W tk), fun b σ H ε T Tv W N Q Q' I q k x => ?_⟩
  refine a2 b σ H ε T Tv W N _ _ I q (fun d v ε1 H1 J z => ?_) x
  obtain ⟨s, rfl, z⟩ := z
  obtain ⟨G, F, su, rfl, _⟩ := J.last I.lenT
  exact ⟨toS s, rfl, k _ [] [] _ ε1 H1 (by simpa using J.pop I.lenT) rfl wk_str z⟩
def vWhile (c : VTT) (t : VTS) : VTS := fun N ε => ∃ J : Nat → Ep → Prop, (∃ m, J m ε) ∧ ∀ m ε, J m ε → c N.rx ε fun k ε1 =>
  if k = true then t { N with nx := fun ε' => ∃ m', m' < m ∧ J m' ε', ct := fun ε' => ∃ m', m' < m ∧ J m' ε', bk := N.nx } ε1 else N.nx ε1
theorem vs_while {c : Expr} {body : List Stmt} {tc : VTT} {t : VTS} {pos : Pos} (hp : PassesOwn (model X.prog X.w) X.A X.env X.xe) (hc : VT X c tc) (hb : VSs X body t) : VS X (.While c body [] pos) (vWhile tc t) := by
  obtain ⟨c', c1, c2⟩ := hc.ex
  obtain ⟨t', t1, t2⟩ := hb.ex
  refine ⟨fun W => tWhile (c' W) (t' W), fun W tk => ps_while hp (c1 W tk) (t1 W tk), fun b σ H ε T Tv W N E I q l x => ?_⟩
  obtain ⟨J, ⟨m0, j0⟩, turn⟩ := q
  refine ⟨fun m σ H => ∃ ε, SI X.K b.1 σ H ε T Tv ∧ J m ε, ⟨m0, ε, I, j0⟩, ?_⟩
  rintro m σ2 H2 ⟨ε2, I2, j2⟩
  refine c2 b σ2 H2 ε2 T Tv W N.rx _ _ I2 (turn m ε2 j2) (fun k ε3 H3 I3 z => ?_) x
  cases k with
  | true =>
    refine ⟨fun σ' H' => ∃ ε', SI X.K b.1 σ' H' ε' T Tv ∧ ∃ m', m' < m ∧ J m' ε', fun σ' H' ⟨ε', I', m', hm, j'⟩ => ⟨m', hm, ε', I', j'⟩, ?_⟩
    exact t2 b σ2 H3 ε3 T Tv W _ _ I3 z ⟨fun σ5 H5 ε5 I5 z5 => ⟨ε5, I5, z5⟩, l.rt, l.nx, fun σ5 H5 ε5 I5 z5 => ⟨ε5, I5, z5⟩⟩ x
  | false => exact l.nx σ2 H3 ε3 I3 z
end
end VL
namespace VL
open PySem PySem.Spec PyProof.Rows L2 VL
/-- a promise over trees: the arguments; what is wanted of the answer and of the arguments behind; of an exception's class and row -/
abbrev VSp := List D → (D → List D → Prop) → (Value → D → List D → Prop) → Prop
/-- the ground of a call -/
def callB (H G : Hp) (F : List Addr) : Bs := { H0 := H, G0 := G, F0 := F, kv := [] }
def Lift (K : PySem.W.Frag) (n : Nat) (vsp : VSp) : Sp := fun vs H Q E => ∃ G F ds, SIx K (callB H G F) G [] F [] H [] ds vs ∧ ds.length = n ∧
  vsp ds (fun r ds' => ∀ v H', SI K (callB H G F) [] H' [] (ds' ++ [r]) (vs ++ [v]) → Q v H')
    (fun cls row ds' => ∀ dd v H', SI K (callB H G F) [] H' [] (ds' ++ [row]) (vs ++ [v]) → H' dd = some (.xd [("row", v)]) → (dd ∈ F ∨ H dd = none) → E (clsV K cls) (some dd) H')
theorem Lift.len {K : PySem.W.Frag} {n : Nat} {vsp : VSp} {vs : List V} {H : Hp} {Q : VK} {E : XK} (h : Lift K n vsp vs H Q E) : vs.length = n := by
  obtain ⟨G, F, ds, I, l, _⟩ := h
  rw [← I.lenT, l]
section
variable {K : PySem.W.Frag} {b : Bs} {σ : L2.St} {H H' : Hp} {ε : Ep} {T : List D} {Tv : List V}
/-- what a callee is handed -/
theorem SI.enter {ds : List D} {vs : List V} (I : SI K b σ H ε (T ++ ds) (Tv ++ vs)) (hl : T.length = Tv.length) : ∃ G F, SIx K (callB H G F) G [] F [] H [] ds vs ∧
    (∀ H' (R : List D) (Rv : List V), SI K (callB H G F) [] H' [] R Rv → SI K b σ H' ε (T ++ R) (Tv ++ Rv)) ∧ ∀ a, (a ∈ F ∨ H a = none) → (a ∈ b.F0 ∨ b.H0 a = none) := by
  obtain ⟨G, F, Ft, J⟩ := I
  obtain ⟨F1, F2, rfl, r1, r2⟩ := J.temps.split2 hl
  have i2 : ∀ a ∈ F2, a ∈ F ++ (F1 ++ F2) := fun a z => List.mem_append_right _ (List.mem_append_right _ z)
  have nd := J.nd
  rw [← List.append_assoc] at nd
  obtain ⟨nd1, nd2, dj⟩ := List.nodup_append.mp nd
  refine ⟨G, F2, ⟨Sub.refl, J.sub, ⟨rfl, rfl⟩, r2, by simpa using nd2, fun a z => J.fr a (i2 a (by simpa using z)), fun a z => .inl (show a ∈ F2 by simpa using z), fun a o e => .inl e, fun a o e _ => e, fun j v e => by simp [callB] at e⟩, ?_, fun a z => z.elim (fun z => J.own a (i2 a z)) fun z => J.h0 z⟩
  rintro H' R Rv ⟨G', Fs, F', J'⟩
  obtain ⟨_, rfl⟩ := J'.slots
  have out : ∀ a ∈ F ++ F1, a ∉ F2 ∧ ∃ o, H a = some o := fun a z => by
    refine ⟨fun h => dj a z a h rfl, ?_⟩
    rcases List.mem_append.mp z with z | z
    · obtain ⟨o, e, _⟩ := J.slots.there a z
      exact ⟨o, e⟩
    · obtain ⟨o, e, _⟩ := r1.there a z
      exact ⟨o, e⟩
  have kp : ∀ a ∈ F ++ F1, H' a = H a := fun a z => by
    obtain ⟨n, o, e⟩ := out a z
    rw [e]
    exact J'.keep a o e n
  have own' : ∀ a ∈ F', a ∈ F2 ∨ H a = none := fun a z => J'.own a (by simpa using z)
  refine ⟨G', F, F1 ++ F', J.s0.trans J'.s0, J'.sub, J.slots.mono J'.s0 fun a z => kp a (List.mem_append_left _ z), (r1.mono J'.s0 fun a z => kp a (List.mem_append_right _ z)).append J'.temps, ?_, ?_, ?_, ?_, ?_, J.kept⟩
  · rw [← List.append_assoc]
    refine List.nodup_append.mpr ⟨nd1, by simpa using J'.nd, fun a z c hc e => ?_⟩
    subst e
    obtain ⟨n, o, e⟩ := out a z
    rcases own' a hc with h | h
    · exact n h
    · rw [e] at h; cases h
  · intro a z
    rw [← List.append_assoc] at z
    rcases List.mem_append.mp z with z | z
    · obtain ⟨n, o, e⟩ := out a z
      cases q : G' a with
      | none => rfl
      | some u =>
        rcases J'.gn a u q with h | h | h | ⟨vs, h⟩
        · have := J.fr a (by rw [← List.append_assoc]; exact List.mem_append_left _ z)
          rw [show G a = some u from h] at this
          cases this
        · exact absurd h n
        · rw [show H a = none from h] at e; cases e
        · subst h
          have h1 := J'.sub a _ q
          rw [kp a z] at h1
          have h2 : ∃ o, H a = some o ∧ Mut (some o) := by
            rcases List.mem_append.mp z with z | z
            · exact J.slots.there a z
            · exact r1.there a z
          obtain ⟨o2, e2, m2⟩ := h2
          rw [h1] at e2
          cases e2
          exact m2.elim
    · exact J'.fr a (by simpa using z)
  · intro a z
    rw [← List.append_assoc] at z
    rcases List.mem_append.mp z with z | z
    · exact J.own a (by rw [← List.append_assoc]; exact List.mem_append_left _ z)
    · rcases own' a z with h | h
      · exact J.own a (i2 a h)
      · cases e : b.H0 a with
        | none => exact .inr rfl
        | some o =>
          by_cases h0 : a ∈ b.F0
          · exact .inl h0
          · rw [J.keep a o e h0] at h; cases h
  · intro a o e
    rcases J'.gn a o e with h | h | h | h
    · exact J.gn a o h
    · exact .inr (inl3 (J.own a (i2 a h)))
    · right
      cases e : b.H0 a with
      | none => exact .inr (.inl rfl)
      | some o =>
        by_cases h0 : a ∈ b.F0
        · exact .inl h0
        · have z := J.keep a o e h0
          rw [show H a = none from h] at z; cases z
    · exact .inr (.inr (.inr h))
  · intro a o e n
    refine J'.keep a o (J.keep a o e n) fun h => ?_
    rcases J.own a (i2 a h) with q | q
    · exact n q
    · rw [e] at q; cases q
end
/-- room for n calls within one another, and for the library's own small things -/
structure Room (n : Nat) (W : Around) : Prop where
  hd : W.handled = none
  dp : W.depth + (n + 300) < recursionLimit
  un : W.units + (4 * n + 1700) < cLine
section
variable {m n : Nat} {W : Around}
theorem Room.mono (q : Room n W) (le : m ≤ n) : Room m W := { hd := q.hd, dp := by have z := q.dp; omega, un := by have z := q.un; omega }
/-- one call deeper -/
theorem Room.step (q : Room (n + 1) W) {V : Around} (h : V.handled = W.handled) (d : V.depth ≤ W.depth + 1) (u : V.units ≤ W.units + 3) : Room n V := { hd := h.trans q.hd, dp := by have z := q.dp; omega, un := by have z := q.un; omega }
theorem Room.deeper (q : Room (n + 1) W) (env : Env) : Room n (W.deeper env) := q.step rfl (Nat.le_refl _) (Nat.le_refl _)
theorem Room.make (q : Room (n + 1) W) (C : Addr) (us : List Value) (kw : List (Str × Value)) : Room n (W.under (.builtin "type.__call__" ⟨.ref C :: us, kw⟩)) :=
  q.step rfl (Nat.le_of_eq make_depth) (Nat.le_trans (Nat.le_of_eq make_units) (Nat.add_le_add_left (by decide) _))
theorem Room.depth (q : Room n W) : W.depth < recursionLimit := Nat.lt_of_le_of_lt (Nat.le_add_right _ _) q.dp
theorem Room.units (q : Room n W) : W.units + 64 < cLine := by have z := q.un; omega
theorem Room.of (q : L2.Room m W) (h : n + 300 ≤ 3 * m) : Room n W := ⟨q.hd, by have z := q.dp; omega, by have z := q.un; omega⟩
end
section
variable {P : Program} {w : World} {K : PySem.W.Frag} {mg : Str → Option Value} {base : Heap} {CX : CXT} {f : Addr} {fd : FuncData} {ps : List Str} {sp : Sp}
/-- the promise of a def, for calls that stand at W -/
def KeepsAt (P : Program) (w : World) (K : PySem.W.Frag) (mg : Str → Option Value) (base : Heap) (CX : CXT) (W : Around) (f : Addr) (fd : FuncData) (ps : List Str) (sp : Sp) : Prop :=
  ∀ (o : List Env) (s : Shared) (H : Hp) (a : Args) (us : List Value) (vs : List V) (Q : VK) (E : XK), Env0 P w K mg base W o s H → BindsTo s fd a (ps.zip us) → Vals vs us → sp vs H Q E → codeAny (model P w) W (.call (.ref f) a) (CR CX o P w H s Q E) s
/-- .. wherever there is room for n calls -/
structure FnOk (P : Program) (w : World) (K : PySem.W.Frag) (mg : Str → Option Value) (base : Heap) (CX : CXT) (n : Nat) (f : Addr) (fd : FuncData) (ps : List Str) (sp : Sp) : Prop where
  len : ∀ {vs H Q E}, sp vs H Q E → vs.length = ps.length
  keeps : ∀ {W}, Room n W → KeepsAt P w K mg base CX W f fd ps sp
theorem FnOk.mono {m n : Nat} (F : FnOk P w K mg base CX m f fd ps sp) (le : m ≤ n) : FnOk P w K mg base CX n f fd ps sp := ⟨F.len, fun q => F.keeps (q.mono le)⟩
/-- as the library's -/
theorem FnOk.lib {m n : Nat} (F : FnOk P w K mg base CX n f fd ps sp) (h : n + 300 ≤ 3 * m) : L2.FnOk P w K mg base CX m f fd ps sp :=
  ⟨fun _ _ _ _ z => F.len z, fun _ o s H a us vs Q E q => F.keeps (.of q h) o s H a us vs Q E⟩
end
section
variable {X : Cx} {CX : CXT} {pins : List (Addr × Obj)} {σ : L2.St} {H : Hp} {s s' : Shared} {Q : VK}
/-- how a call ends, for who asked -/
def Asked (X : Cx) (pins : List (Addr × Obj)) (σ : L2.St) (Q : VK) : Result → Shared → Prop
  | .ok (.ret u), z => EP X pins σ Q u z
  | .error e, z => X.xe e z
  | _, _ => False
theorem asked {E : XK} {r : Result} (I : Inv X pins σ H s) (hx : ∀ e z, CX X.stack H s E e z → X.xe e z) (q : CR CX X.stack X.prog X.w H s Q E r s') : Asked X pins σ Q r s' := by
  match r, q with
  | .error e, q => exact hx e s' q
  | .ok (.ret u), q => exact I.after q
/-- a callee's code, called -/
theorem call_asked {g : Addr} {us : List Value} (h : codeAny (model X.prog X.w) X.A (.call (.ref g) ⟨us, []⟩) (Asked X pins σ Q) s) : wpAny (model X.prog X.w) X.A (call (.ref g) us) (EP X pins σ Q) X.xe s :=
  wpAny_call (codeAny_mono h fun r z q => match r, q with
    | .error _, q => q
    | .ok (.ret _), q => q)
/-- a call by a global name of what stands at g, when its values are known to be taken as R says -/
theorem pe_named {R : L2.St → List V → Hp → VK → Prop} {g : Addr} {x : Str} {p pos : Pos} {e : Expr} {es : List Expr} {t : TA} (gl : Gl X x) (is : X.mg x = some (.ref g)) (kept : PySem.W.keepIn X.K (.ref g) = true) (args : PA X (e :: es) t)
    (runs : ∀ (pins : List (Addr × Obj)) (σ : L2.St) (H : Hp) (s : Shared) (Q : VK) (us : List Value) (vs : List V), Inv X pins σ H s → Vals vs us → R σ vs H Q → wpAny (model X.prog X.w) X.A (call (.ref g) us) (EP X pins σ Q) X.xe s)
    (nd : (x == ("__debug__" : Str)) = false) (ns : starEach (e :: es) X.env = (false, eval e X.env) :: starEach es X.env) (np : (backTo pos (starEach es X.env)).any (·.1) = false) :
    PE X (.Call (.Name x p) (e :: es) [] pos) fun σ H Q => t σ H fun vs H1 => R σ vs H1 Q :=
  ⟨fun pins s σ H Q I z => wpAny_Call_Name_kw (ld_glob I gl is
    (PySem.W.callWith_K (h₀ := X.base) I.ok.mod.kin kept (thn (args.run pos pins s σ H _ I z) fun us s1 ⟨vs, H1, J, rv, q⟩ => ⟨J.kIn, runs pins σ H1 s1 Q us vs J rv q⟩) ns np) nd)⟩
end
section
variable {X : Cx} {CX : CXT} {k : Nat} {f C : Addr} {fd : FuncData} {ps : List Str} {sp : Sp} {dvs : List V} {ds : List Value} {E : L2.St → XK} {x : Str} {p pos : Pos} {e : Expr} {es : List Expr} {t : TA}
/-- a def, called with values; dvs: its defaults -/
theorem run_fnSD {pins : List (Addr × Obj)} {σ : L2.St} {H : Hp} {s : Shared} {Q : VK} {us : List Value} {vs : List V} (F : FnOk X.prog X.w X.K X.mg X.base CX k f fd ps sp) (room : Room k X.A) (hb : Binds X.K fd ps ds) (hd : Vals dvs ds) (hx : PassesAt CX X σ (E σ))
    (I : Inv X pins σ H s) (rv : Vals vs us) (q : sp (vs ++ dvs) H Q (E σ)) : wpAny (model X.prog X.w) X.A (call (.ref f) us) (EP X pins σ Q) X.xe s := by
  have all : Vals (vs ++ dvs) (us ++ ds) := rv.append hd
  refine call_asked (codeAny_mono (F.keeps room X.stack s H ⟨us, []⟩ (us ++ ds) (vs ++ dvs) Q (E σ) I.env0 (hb s us I.kIn (all.length.symm.trans (F.len q))) all q) fun r z c => ?_)
  exact asked I (fun e z => hx pins H s e z I) c
theorem run_fnS {pins : List (Addr × Obj)} {σ : L2.St} {H : Hp} {s : Shared} {Q : VK} {us : List Value} {vs : List V} (F : FnOk X.prog X.w X.K X.mg X.base CX k f fd ps sp) (room : Room k X.A) (hb : Binds X.K fd ps []) (hx : PassesAt CX X σ (E σ))
    (I : Inv X pins σ H s) (rv : Vals vs us) (q : sp vs H Q (E σ)) : wpAny (model X.prog X.w) X.A (call (.ref f) us) (EP X pins σ Q) X.xe s :=
  run_fnSD (dvs := []) F room hb .nil hx I rv (by simpa using q)
theorem pe_callS (F : FnOk X.prog X.w X.K X.mg X.base CX k f fd ps sp) (room : Room k X.A) (gl : Gl X x) (is : X.mg x = some (.ref f)) (kept : PySem.W.keepIn X.K (.ref f) = true) (hb : Binds X.K fd ps []) (hx : ∀ σ, PassesAt CX X σ (E σ))
    (args : PA X (e :: es) t) (nd : (x == ("__debug__" : Str)) = false) (ns : starEach (e :: es) X.env = (false, eval e X.env) :: starEach es X.env) (np : (backTo pos (starEach es X.env)).any (·.1) = false) : PE X (.Call (.Name x p) (e :: es) [] pos) (tCallS sp E t) :=
  pe_named (R := fun σ vs H Q => sp vs H Q (E σ)) gl is kept args (fun _ σ _ _ _ _ _ I rv q => run_fnS F room hb (hx σ) I rv q) nd ns np
/-- C(..): the wish is the library's, at values -/
theorem run_make {E : XK} {pins : List (Addr × Obj)} {σ : L2.St} {H : Hp} {s : Shared} {Q : VK} {us : List Value} {vs : List V} (M : L2.Mk X.K C f) (F : FnOk X.prog X.w X.K X.mg X.base CX k f fd ps sp) (room : Room (k + 1) X.A) (hb : Binds X.K fd ps ds) (hd : Vals dvs ds)
    (hx : Passes CX X E) (I : Inv X pins σ H s) (rv : Vals vs us) (q : tMake C sp dvs E (fun _ H Q => Q vs H) σ H Q) : wpAny (model X.prog X.w) X.A (call (.ref C) us) (EP X pins σ Q) X.xe s := by
  have newer : ∀ a, s.heap.objs.size ≤ a → H a = none := fun _ le => I.hok.fresh le
  have wish := q (s.heap.objs.size + 1) s.heap.objs.size (newer _ (Nat.le_succ _)) (newer _ (Nat.le_refl _)) (Nat.succ_ne_self _).symm
  have J := Inv.made (C := C) I
  have all : Vals (V.ref (s.heap.objs.size + 1) :: (vs ++ dvs)) (Value.ref (s.heap.objs.size + 1) :: (us ++ ds)) := .cons rfl (rv.append hd)
  have to := hb _ (Value.ref (s.heap.objs.size + 1) :: us) J.kIn (all.length.symm.trans (F.len wish))
  refine call_asked (make_map (f := f) I.kIn M.makes M.init (beq_iff_eq.mp M.fn) (codeAny_mono (F.keeps (room.make C us []) X.stack _ _ ⟨_ :: us, []⟩ _ _ _ E (J.env0.make C us []) to all wish) fun r z c => ?_))
  match r, c with
  | .error e, c => exact hx pins σ _ _ e z J c
  | .ok (.ret u), c =>
    obtain ⟨v, H2, J2, ru, rfl, w2⟩ := J.after c
    exact ⟨ru, .ref (s.heap.objs.size + 1), H2, J2, rfl, w2⟩
theorem pe_make {E : XK} (M : L2.Mk X.K C f) (F : FnOk X.prog X.w X.K X.mg X.base CX k f fd ps sp) (room : Room (k + 1) X.A) (gl : Gl X x) (is : X.mg x = some (.ref C)) (hb : Binds X.K fd ps ds) (hd : Vals dvs ds) (hx : Passes CX X E)
    (args : PA X (e :: es) t) (nd : (x == ("__debug__" : Str)) = false) (ns : starEach (e :: es) X.env = (false, eval e X.env) :: starEach es X.env) (np : (backTo pos (starEach es X.env)).any (·.1) = false) : PE X (.Call (.Name x p) (e :: es) [] pos) (tMake C sp dvs E t) :=
  pe_named (R := fun σ vs H Q => tMake C sp dvs E (fun _ H Q => Q vs H) σ H Q) gl is M.kp args (fun _ _ _ _ _ _ _ I rv q => run_make M F room hb hd hx I rv q) nd ns np
end
/-- a def keeps what its body's reading wishes -/
theorem fnD_ok {P : Program} {w : World} {K : PySem.W.Frag} {mg : Str → Option Value} {base : Heap} {CX : CXT} {x qual : Str} {pa : Arguments} {body : List Stmt} {sc : Scope} {dvs : List V} {kws : List (Str × V)} {f : Addr} {fd : FuncData} {N ps : List Str} {n : Nat} {sp : Sp}
    (F : FunD K x qual pa body sc dvs kws f fd) (S : FnScope N ps sc) (len : ∀ {vs H Q E}, sp vs H Q E → vs.length = ps.length)
    (reads : ∀ (cdv : Value) (W : Around) (o : List Env) (s : Shared) (H : Hp) (vs : List V) (Q : VK) (E : XK), Room n (W.deeper (envOfC qual sc s.heap.objs.size f cdv)) → sp vs H Q E →
      ∃ t, PSs (cxOf CX P w K mg base N qual sc f cdv W o s H E) body t ∧ t { nx := fun _ H2 => Q .non H2, rt := Q } (start N vs) H) : FnOk P w K mg base CX (n + 1) f fd ps sp := by
  obtain ⟨oc, od, dV, kV, doc, pm, an, cdv, ct, osl, rfl, at1, code, _⟩ := F.ex
  refine { len := len, keeps := fun {W} room o s H a us vs Q E e0 to rv q => ?_ }
  have old := fun b ob z => (e0.bs b ob z).1
  have inK := e0.mod.kin.keeps old
  refine codeAny_call_function room.depth (inK _ _ at1) rfl S.co S.gen rfl (PySem.W.codeRec_of inK code) (to _ _ _ _ (wpAny_newFunctionEnv_cells S.kind (fun y hy => ?_) fun env is s1 ent => ?_))
  · exact (S.par y.1 (List.of_mem_zip (a := y.1) (b := y.2) hy).1).imp id fun c => ⟨c, PySem.W.cellsFrom_some _ _ _ (.inl c)⟩
  · subst is
    obtain ⟨t, rd, wish⟩ := reads cdv W o s H vs Q E (room.deeper _) q
    refine ⟨(e0.mod.nolimit.keeps old).keeps ent.toInCall.keep, codeAny_func (wpAny_mono (rd.run [] s1 (start N vs) H _ (inv_start S room.hd e0 (len q) rv ent) wish) (fun fl z c => ?_) fun _ _ c => c)⟩
    match fl, c with
    | .ret u, ⟨v, _, H2, J, ru, q2⟩ => exact ⟨v, H2, J.os, J.bare, J.base, J.hok, ru, q2⟩
    | .next, ⟨_, H2, J, q2⟩ => exact ⟨.non, H2, J.os, J.bare, J.base, J.hok, rfl, q2⟩
    | .brk, ⟨_, _, _, q2⟩ => exact q2.elim
    | .cont, ⟨_, _, _, q2⟩ => exact q2.elim
/-- a def that keeps a promise over trees: its name, its level, how many parameters it has, the defaults that fill up -/
structure Fv (P : Program) (w : World) (K : PySem.W.Frag) (mg : Str → Option Value) (base : Heap) (x : Str) (k n : Nat) (vsp : VSp) : Prop where
  ex : ∃ f fd ps, mg x = some (.ref f) ∧ PySem.W.keepIn K (.ref f) = true ∧ Binds K fd ps [] ∧ FnOk P w K mg base (VL.CX P w) k f fd ps (Lift K n vsp)
theorem Fv.mono {P w K mg base x j k n vsp} (F : Fv P w K mg base x j n vsp) (h : j ≤ k) : Fv P w K mg base x k n vsp := let ⟨f, fd, ps, a, b, c, d⟩ := F.ex; ⟨f, fd, ps, a, b, c, d.mono h⟩
section
variable {X : Cv}
def vCall (vsp : VSp) (rs : List (Option Nat)) (t : VTA) : VTE := fun N ε Q => t N ε fun ds ε1 => vsp ds (fun r ds' => ds'.length = ds.length ∧ Q r (restore rs ds' ε1)) (fun cls row ds' => ds'.length = ds.length ∧ N cls row (restore rs ds' ε1))
theorem call_run {P : VSp} {n : Nat} {b : Bx X} {σ : L2.St} {H : Hp} {ε : Ep} {T : List D} {Tv : List V} {ds : List D} {vs : List V} {rs : List (Option Nat)} {W : WX} {N : WV} {Q : D → Ep → Prop} {Q' : VK}
    (hl : T.length = Tv.length) (hd : ds.length = vs.length) (hn : ds.length = n) (I : SI X.K b.1 σ H ε (T ++ ds) (Tv ++ vs)) (hh : Held σ rs vs)
    (q : P ds (fun r ds' => ds'.length = ds.length ∧ Q r (restore rs ds' ε)) (fun cls row ds' => ds'.length = ds.length ∧ N cls row (restore rs ds' ε)))
    (mono : ∀ (A A' : D → List D → Prop) (B B' : Value → D → List D → Prop), (∀ r l, A r l → A' r l) → (∀ c r l, B c r l → B' c r l) → P ds A B → P ds A' B')
    (k : ∀ d v ε' H', SI X.K b.1 σ H' ε' (T ++ [d]) (Tv ++ [v]) → Q d ε' → Q' v H') (x : XL X.K b.1 T Tv W N) : Lift X.K n P vs H Q' (fun cls d H' => W cls d σ H') := by
  obtain ⟨G, F, J, out, fr⟩ := I.enter hl
  refine ⟨G, F, ds, J, hn, mono _ _ _ _ (fun r ds' z v H' I' => ?_) (fun cls row ds' z dd v H' I' e n => ?_) q⟩
  · have I2 := out H' _ _ I'
    exact k r v _ H' (SI.restore hl hh (z.1.trans hd) I2) z.2
  · have I2 := out H' _ _ I'
    exact x cls dd σ H' _ row v (SI.restore hl hh (z.1.trans hd) I2) e (fr dd n) z.2
/-- a promise that asks no more of more -/
def Mono (vsp : VSp) : Prop := ∀ (ds : List D) (A A' : D → List D → Prop) (B B' : Value → D → List D → Prop), (∀ r l, A r l → A' r l) → (∀ c r l, B c r l → B' c r l) → vsp ds A B → vsp ds A' B'
theorem ve_call {x : Str} {p pos : Pos} {e : Expr} {es : List Expr} {rs : List (Option Nat)} {t : VTA} {k n : Nat} {vsp : VSp} (F : Fv X.prog X.w X.K X.mg X.base x k n vsp) (m : Mono vsp) (hr : Room k X.A) (hg : Gl X.toCx x) (hn : (e :: es).length = n) (ha : VA X (e :: es) rs t)
    (hrs : rs.length = (e :: es).length := by rfl) (hdb : (x == ("__debug__" : Str)) = false := by decide) (he : starEach (e :: es) X.env = (false, eval e X.env) :: starEach es X.env := by rfl) (hpl : (backTo pos (starEach es X.env)).any (·.1) = false := by rfl) :
    VE X (.Call (.Name x p) (e :: es) [] pos) (vCall vsp rs t) := by
  obtain ⟨f, fd, ps, hm, hk, hb, F⟩ := F.ex
  obtain ⟨t', a1, a2⟩ := ha.ex
  refine ⟨fun W => tCallS (Lift X.K n vsp) (WE W) (t' W), fun W tk => pe_callS F hr hg hm hk hb (fun σ => passAt tk σ) (a1 W tk) hdb he hpl, fun b σ H ε T Tv W N Q Q' I q kk x => ?_⟩
  refine a2 b σ H ε T Tv W N _ _ I q (fun ds vs ε1 H1 J l hd z => ?_) x
  exact call_run I.lenT l (by rw [l, ← hd.len, hrs, hn]) J hd z (m ds) kk x
end
/-- the slots at the entry -/
def startE (N : Nat) (ds : List D) : Ep := ds.map some ++ List.replicate (N - ds.length) none
/-- the arguments behind: those whose slots are kept, as they are; the others, where nothing of them was ours -/
def finalL : List Bool → List D → Ep → List D
  | true :: κ, _ :: ds, od :: ε => (match od with | some d => d | none => .hole) :: finalL κ ds ε
  | false :: κ, d :: ds, _ :: ε => (if isFz d = true then d else .hole) :: finalL κ ds ε
  | [], d :: ds, _ :: ε => (if isFz d = true then d else .hole) :: finalL [] ds ε
  | _, _, _ => []
def keptV : List Bool → List V → List (Option V)
  | true :: κ, v :: vs => some v :: keptV κ vs
  | false :: κ, _ :: vs => none :: keptV κ vs
  | _, _ => []
theorem keptV_get : ∀ {κ : List Bool} {vs : List V} {i : Nat} {u : V}, (keptV κ vs)[i]? = some (some u) → κ[i]? = some true ∧ vs[i]? = some u
  | true :: κ, v :: vs, 0, u, h => by simp [keptV] at h; simp [h]
  | true :: κ, v :: vs, i + 1, u, h => by simpa using keptV_get (κ := κ) (vs := vs) (i := i) (u := u) (by simpa [keptV] using h)
  | false :: κ, v :: vs, 0, u, h => by simp [keptV] at h
  | false :: κ, v :: vs, i + 1, u, h => by simpa using keptV_get (κ := κ) (vs := vs) (i := i) (u := u) (by simpa [keptV] using h)
  | [], _, i, u, h => by simp [keptV] at h
  | true :: _, [], i, u, h => by simp [keptV] at h
  | false :: _, [], i, u, h => by simp [keptV] at h
section
variable {K : PySem.W.Frag} {G G' H H' : Hp}
theorem RpS.start : ∀ {ds : List D} {vs : List V} {F : List Addr} (m : Nat), RpL K G H ds vs F → RpS K G H (ds.map some ++ List.replicate m none) (vs.map some ++ List.replicate m none) F
  | [], vs, F, m, h => by
    obtain ⟨rfl, rfl⟩ := h
    simp only [List.map_nil, List.nil_append]
    induction m with
    | zero => exact ⟨rfl, rfl⟩
    | succ m ih => exact ⟨none, List.replicate m none, [], [], rfl, rfl, rfl, ih⟩
  | d :: ds, vs, F, m, h => by
    obtain ⟨v, vs', F1, F2, rfl, rfl, r, rs⟩ := h
    exact ⟨some v, vs'.map some ++ List.replicate m none, F1, F2, rfl, rfl, ⟨v, rfl, r⟩, RpS.start m rs⟩
/-- what is left of the arguments: a part of what the slots hold -/
theorem final_rp : ∀ {κ : List Bool} {ds : List D} {vs : List V} {F0 : List Addr} {ε : Ep} {σ : L2.St} {F : List Addr}, RpL K G H ds vs F0 → Sub G G' → RpS K G' H' ε σ F → vs.length ≤ ε.length →
    (∀ (j : Nat) v, (keptV κ vs)[j]? = some (some v) → σ[j]? = some (some v)) → ∃ F', RpL K G' H' (finalL κ ds ε) vs F' ∧ F'.Sublist F
  | κ, [], vs, F0, ε, σ, F, h, _, _, _, _ => by
    obtain ⟨rfl, rfl⟩ := h
    refine ⟨[], ?_, List.nil_sublist _⟩
    have : finalL κ [] ε = [] := by
      cases κ with
      | nil => rfl
      | cons c κ => cases c <;> rfl
    rw [this]
    exact ⟨rfl, rfl⟩
  | κ, d :: ds, vs, F0, [], σ, F, h, _, _, hl, _ => by
    obtain ⟨v, vs', F1, F2, rfl, rfl, r, rs⟩ := h
    simp at hl
  | κ, d :: ds, vs, F0, od :: ε, σ, F, h, hs, hS, hl, hk => by
    obtain ⟨v, vs', F1, F2, rfl, rfl, r, rs⟩ := h
    obtain ⟨ov, σ', A, B, rfl, rfl, ro, rS⟩ := hS
    have other : ∀ κ', (∀ (j : Nat) v, (keptV κ' vs')[j]? = some (some v) → σ'[j]? = some (some v)) → ∃ F', RpL K G' H' ((if isFz d = true then d else .hole) :: finalL κ' ds ε) (v :: vs') F' ∧ F'.Sublist (A ++ B) := fun κ' hk' => by
      obtain ⟨F', q, sl⟩ := final_rp (κ := κ') rs hs rS (by simpa using hl) hk'
      have rd : Rp K G' H' (if isFz d = true then d else .hole) v [] := by
        split
        · rename_i z
          have := r.fz z
          subst this
          exact r.mono hs fun _ z => nomatch z
        · exact rfl
      exact ⟨F', ⟨v, vs', [], F', rfl, rfl, rd, q⟩, sl.trans (List.sublist_append_right _ _)⟩
    cases κ with
    | nil => exact other [] fun j u e => by simp [keptV] at e
    | cons c κ =>
      cases c with
      | false => exact other κ fun j u e => by simpa using hk (j + 1) u (by simpa [keptV] using e)
      | true =>
        have h0 := hk 0 v (by simp [keptV])
        simp at h0
        subst h0
        obtain ⟨F', q, sl⟩ := final_rp (κ := κ) rs hs rS (by simpa using hl) fun j u e => by simpa using hk (j + 1) u (by simpa [keptV] using e)
        cases od with
        | none => exact ⟨F', ⟨v, vs', [], F', rfl, rfl, rfl, q⟩, sl.trans (List.sublist_append_right _ _)⟩
        | some d' =>
          obtain ⟨v', e', rd⟩ := ro
          cases e'
          exact ⟨A ++ F', ⟨v, vs', A, F', rfl, rfl, rd, q⟩, (List.Sublist.refl A).append sl⟩
end
/-- a body's end: the answer is held, the slots go -/
theorem SI.leave {K : PySem.W.Frag} {H G : Hp} {F : List Addr} {ds : List D} {vs : List V} {κ : List Bool} {σ : L2.St} {H' : Hp} {ε : Ep} {r : D} {v : V} (J : SIx K (callB H G F) G [] F [] H [] ds vs)
    (I : SI K { callB H G F with kv := keptV κ vs } σ H' ε [r] [v]) (hl : ds.length ≤ ε.length) : SI K (callB H G F) [] H' [] (finalL κ ds ε ++ [r]) (vs ++ [v]) := by
  obtain ⟨G', Fs, Ft, I⟩ := I
  obtain ⟨F', q, sl⟩ := final_rp (κ := κ) J.temps I.s0 I.slots (by rw [← J.lenT]; exact hl) I.kept
  have sb : (F' ++ Ft).Sublist (Fs ++ Ft) := sl.append (List.Sublist.refl _)
  exact ⟨G', [], F' ++ Ft, I.s0, I.sub, ⟨rfl, rfl⟩, q.append I.temps, by simpa using I.nd.sublist sb, fun a z => I.fr a (sb.subset (by simpa using z)), fun a z => I.own a (sb.subset (by simpa using z)), I.gn, I.keep, fun j u e => by simp [callB] at e⟩
section
variable {P : Program} {w : World} {K : PySem.W.Frag} {mg : Str → Option Value} {base : Heap} {x qual : Str} {params : Arguments} {body : List Stmt} {scope : Scope} {dvs : List V} {kws : List (Str × V)} {f : Addr} {fd : FuncData}
/-- the context of a def's body -/
abbrev bodyX (P : Program) (w : World) (K : PySem.W.Frag) (mg : Str → Option Value) (base : Heap) (N : List Str) (κ : List Bool) (qual : Str) (scope : Scope) (f : Addr) (cdv : Value) (A : Around) (outer : List Env) (s : Shared) (H : Hp) (E : XK) : Cv :=
  { cxOf (VL.CX P w) P w K mg base N qual scope f cdv A outer s H E with κ := κ }
/-- THE RULE: a def's body over trees -/
theorem fn_ok {N ps : List Str} {κ : List Bool} {k n : Nat} {vsp : VSp} {t : VTS} (F : FunD K x qual params body scope dvs kws f fd) (S : FnScope N ps scope) (hn : ps.length = n) (hN : n ≤ N.length)
    (hbody : ∀ (cdv : Value) (A : Around) (outer : List Env) (s : Shared) (H : Hp) (E : XK), Room k (A.deeper (envOfC qual scope s.heap.objs.size f cdv)) → VSs (bodyX P w K mg base N κ qual scope f cdv A outer s H E) body t)
    (hm : Mono vsp)
    (hsp : ∀ ds Q Ex, ds.length = n → vsp ds Q Ex → t { nx := fun ε => n ≤ ε.length ∧ Q .non (finalL κ ds ε), rt := fun r ε => n ≤ ε.length ∧ Q r (finalL κ ds ε), rx := fun cls row ε => n ≤ ε.length ∧ Ex cls row (finalL κ ds ε) } (startE N.length ds)) :
    FnOk P w K mg base (VL.CX P w) (k + 1) f fd ps (Lift K n vsp) := by
  refine fnD_ok F S (fun h => by rw [h.len, hn]) fun cdv A outer s H vs Q E hr h => ?_
  obtain ⟨G, F0, ds, J, l, q⟩ := h
  obtain ⟨t', h1, h2⟩ := (hbody cdv A outer s H E hr).ex
  refine ⟨t' (fun cls d _ H => E cls d H), h1 _ (takes_of rfl rfl rfl rfl), ?_⟩
  have hv : vs.length = n := by rw [← J.lenT, l]
  have I0 : SI K { callB H G F0 with kv := keptV κ vs } (L2.start N vs) H (startE N.length ds) [] [] := by
    have hs : RpS K G H (startE N.length ds) (L2.start N vs) F0 := by
      unfold startE L2.start
      rw [J.lenT]
      exact RpS.start _ J.temps
    refine ⟨G, F0, [], Sub.refl, J.sub, hs, ⟨rfl, rfl⟩, by simpa using J.nd, fun a z => J.fr a (by simpa using z), fun a z => J.own a (by simpa using z), J.gn, J.keep, fun j v e => ?_⟩
    obtain ⟨_, e2⟩ := keptV_get e
    unfold L2.start
    have hj := (List.getElem?_eq_some_iff.mp e2).1
    rw [List.getElem?_append_left (by simpa using hj), List.getElem?_map, e2]
    rfl
  refine h2 ⟨_, fun i u e => (keptV_get e).1⟩ _ H _ [] [] _ _ _ I0 (hsp ds _ _ l q) ⟨fun σ H1 ε J1 z => ?_, fun σ H1 ε d v J1 z => ?_, fun _ _ _ _ z => z.elim, fun _ _ _ _ z => z.elim⟩ fun cls dd σ H1 ε row v J1 e n z => ?_
  · exact z.2 _ H1 (SI.leave J (J1.push (d := .non) (v := .non) fun _ => ⟨rfl, rfl⟩) (by rw [l]; exact z.1))
  · exact z.2 v H1 (SI.leave J J1 (by rw [l]; exact z.1))
  · exact z.2 dd v H1 (SI.leave J J1 (by rw [l]; exact z.1)) e n
end
end VL
namespace VL
open PySem PySem.Spec PyProof.Rows L2 VL
mutual
def pd : D → PyData
  | .hole => .none
  | .val _ => .none
  | .non => .none
  | .bl b => .bool b
  | .int i => .int i
  | .str s => .str (toS s)
  | .ty _ => .none
  | .tup xs => .tuple (pdL xs)
  | .lst _ xs => .list (pdL xs)
  | .dK _ _ _ => .none
  | .dT _ _ _ => .none
  | .ins _ _ _ _ => .none
  | .pin _ _ => .none
  | .exn _ _ _ _ => .none
def pdL : List D → List PyData
  | [] => []
  | d :: ds => pd d :: pdL ds
end
mutual
/-- plain data, whose texts have good codes, nested to depth n at most -/
def okD : Nat → D → Bool
  | _, .non => true
  | _, .bl _ => true
  | _, .int _ => true
  | _, .str s => s.all fun c => decide (c < 1114112)
  | n + 1, .tup xs => okDL n xs
  | n + 1, .lst _ xs => okDL n xs
  | _, _ => false
def okDL : Nat → List D → Bool
  | _, [] => true
  | n, d :: ds => okD n d && okDL n ds
end
theorem okDL_all : ∀ (n : Nat) (ds : List D), okDL n ds = ds.all (okD n)
  | _, [] => by rw [okDL]; rfl
  | n, d :: ds => by rw [okDL, okDL_all n ds, List.all_cons]
mutual
theorem okD_shape : ∀ {n : Nat} {d : D}, okD n d = true → (pd d).canLay0 = true ∧ (pd d).depth ≤ n
  | n, .non, h => ⟨rfl, Nat.zero_le _⟩
  | n, .bl b, h => ⟨rfl, Nat.zero_le _⟩
  | n, .int i, h => ⟨rfl, Nat.zero_le _⟩
  | n, .str s, h => by
    refine ⟨?_, Nat.zero_le _⟩
    have h2 : (s.all fun c => decide (c < 1114112)) = true := by simpa [okD] using h
    show ((toS s).cps.all fun c => decide (c < 0x110000)) = true
    unfold toS
    simpa using h2
  | n + 1, .tup xs, h => by
    obtain ⟨h1, h2⟩ := okDL_shape (n := n) (ds := xs) (by simpa [okD] using h)
    exact ⟨h1, Nat.succ_le_succ h2⟩
  | n + 1, .lst m xs, h => by
    obtain ⟨h1, h2⟩ := okDL_shape (n := n) (ds := xs) (by simpa [okD] using h)
    exact ⟨h1, Nat.succ_le_succ h2⟩
  | 0, .tup xs, h => by simp [okD] at h
  | 0, .lst m xs, h => by simp [okD] at h
  | n, .hole, h => by simp [okD] at h
  | n, .val _, h => by simp [okD] at h
  | n, .ty _, h => by simp [okD] at h
  | n, .dK _ _ _, h => by simp [okD] at h
  | n, .dT _ _ _, h => by simp [okD] at h
  | n, .ins _ _ _ _, h => by simp [okD] at h
theorem okDL_shape : ∀ {n : Nat} {ds : List D}, okDL n ds = true → PyData.canLayAll0 (pdL ds) = true ∧ PyData.depthAll (pdL ds) ≤ n
  | n, [], _ => ⟨rfl, Nat.zero_le _⟩
  | n, d :: ds, h => by
    have h2 : (okD n d && okDL n ds) = true := by simpa [okDL] using h
    obtain ⟨h3, h4⟩ := Bool.and_eq_true_iff.mp h2
    obtain ⟨a1, a2⟩ := okD_shape h3
    obtain ⟨b1, b2⟩ := okDL_shape h4
    refine ⟨?_, ?_⟩
    · show ((pd d).canLay0 && PyData.canLayAll0 (pdL ds)) = true
      rw [a1, b1]; rfl
    · show max (pd d).depth (PyData.depthAll (pdL ds)) ≤ n
      omega
end
section
variable {K : PySem.W.Frag} {G H : Hp}
mutual
theorem Rp.dp (hs : Sub G H) : ∀ {n : Nat} {d : D} {v : V} {F : List Addr}, okD n d = true → Rp K G H d v F → Dp K H v (pd d)
  | _, .non, _, _, _, h => by rw [h.1]; exact .non
  | _, .bl b, _, _, _, h => by rw [h.1]; exact .bl b
  | _, .int i, _, _, _, h => by rw [h.1]; exact .int i
  | _, .str s, _, _, _, h => by rw [h.1]; exact .str _
  | n + 1, .tup xs, v, F, k, h => by
    obtain ⟨a, vs, rfl, s, r⟩ := h
    exact .tup (SqT.of (hs _ _ s)) (RpL.dp hs (n := n) (by simpa [okD] using k) r)
  | n + 1, .lst false xs, v, F, k, h => by
    obtain ⟨a, vs, rfl, s, _, r⟩ := h
    exact .lst (hs.sqL s) (RpL.dp hs (n := n) (by simpa [okD] using k) r)
  | n + 1, .lst true xs, v, F, k, h => by
    obtain ⟨a, vs, F', rfl, s, _, r⟩ := h
    exact .lst (SqL.of s) (RpL.dp hs (n := n) (by simpa [okD] using k) r)
  | 0, .tup xs, _, _, k, _ => by simp [okD] at k
  | 0, .lst m xs, _, _, k, _ => by simp [okD] at k
  | n, .hole, _, _, h, _ => by simp [okD] at h
  | n, .val _, _, _, h, _ => by simp [okD] at h
  | n, .ty _, _, _, h, _ => by simp [okD] at h
  | n, .dK _ _ _, _, _, h, _ => by simp [okD] at h
  | n, .dT _ _ _, _, _, h, _ => by simp [okD] at h
  | n, .ins _ _ _ _, _, _, h, _ => by simp [okD] at h
theorem RpL.dp (hs : Sub G H) : ∀ {n : Nat} {ds : List D} {vs : List V} {F : List Addr}, okDL n ds = true → RpL K G H ds vs F → DpAll K H vs (pdL ds)
  | _, [], _, _, _, h => by rw [h.1]; exact .nil
  | n, d :: ds, vs, F, k, h => by
    obtain ⟨v, vs', F1, F2, rfl, rfl, r, rs⟩ := h
    have h2 : (okD n d && okDL n ds) = true := by simpa [okDL] using k
    obtain ⟨h3, h4⟩ := Bool.and_eq_true_iff.mp h2
    exact .cons (Rp.dp hs h3 r) (RpL.dp hs h4 rs)
end
end
mutual
def deq : D → D → Bool
  | .non, .non => true
  | .bl a, .bl b => a == b
  | .bl a, .int j => (if a then 1 else 0) == j
  | .int i, .bl b => i == (if b then 1 else 0)
  | .int i, .int j => i == j
  | .str x, .str y => x == y
  | .lst _ xs, .lst _ ys => deqL xs ys
  | .tup xs, .tup ys => deqL xs ys
  | _, _ => false
def deqL : List D → List D → Bool
  | [], [] => true
  | x :: xs, y :: ys => deq x y && deqL xs ys
  | _, _ => false
end
theorem toS_beq (a b : Cs) : (toS a == toS b) = (a == b) := by
  rw [Bool.eq_iff_iff, beq_iff_eq, beq_iff_eq]
  exact ⟨toS_inj, fun e => by rw [e]⟩
mutual
theorem deq_pd : ∀ {n m : Nat} {x y : D}, okD n x = true → okD m y = true → PyData.eqv (pd x) (pd y) = deq x y
  | n, m, .non, y, hx, hy => by cases y <;> first | rfl | simp [okD] at hy
  | n, m, .bl a, y, hx, hy => by cases y <;> first | rfl | simp [okD] at hy
  | n, m, .int i, y, hx, hy => by cases y <;> first | rfl | simp [okD] at hy
  | n, m, .str s, y, hx, hy => by
    cases y <;> first | rfl | exact toS_beq _ _ | simp [okD] at hy
  | n + 1, m, .tup xs, y, hx, hy => by
    cases m with
    | zero => cases y <;> first | rfl | simp [okD] at hy
    | succ m =>
      cases y with
      | tup ys => exact deqL_pd (n := n) (m := m) (by simpa [okD] using hx) (by simpa [okD] using hy)
      | _ => first | rfl | simp [okD] at hy
  | n + 1, m, .lst q xs, y, hx, hy => by
    cases m with
    | zero => cases y <;> first | rfl | simp [okD] at hy
    | succ m =>
      cases y with
      | lst p ys => exact deqL_pd (n := n) (m := m) (by simpa [okD] using hx) (by simpa [okD] using hy)
      | _ => first | rfl | simp [okD] at hy
  | 0, m, .tup xs, y, hx, hy => by simp [okD] at hx
  | 0, m, .lst q xs, y, hx, hy => by simp [okD] at hx
  | n, m, .hole, y, hx, hy => by simp [okD] at hx
  | n, m, .val _, y, hx, hy => by simp [okD] at hx
  | n, m, .ty _, y, hx, hy => by simp [okD] at hx
  | n, m, .dK _ _ _, y, hx, hy => by simp [okD] at hx
  | n, m, .dT _ _ _, y, hx, hy => by simp [okD] at hx
  | n, m, .ins _ _ _ _, y, hx, hy => by simp [okD] at hx
theorem deqL_pd : ∀ {n m : Nat} {xs ys : List D}, okDL n xs = true → okDL m ys = true → PyData.eqvAll (pdL xs) (pdL ys) = deqL xs ys
  | n, m, [], [], _, _ => rfl
  | n, m, [], y :: ys, _, _ => rfl
  | n, m, x :: xs, [], _, _ => rfl
  | n, m, x :: xs, y :: ys, hx, hy => by
    obtain ⟨a1, a2⟩ := Bool.and_eq_true_iff.mp (show (okD n x && okDL n xs) = true by simpa [okDL] using hx)
    obtain ⟨b1, b2⟩ := Bool.and_eq_true_iff.mp (show (okD m y && okDL m ys) = true by simpa [okDL] using hy)
    show (PyData.eqv (pd x) (pd y) && PyData.eqvAll (pdL xs) (pdL ys)) = (deq x y && deqL xs ys)
    rw [deq_pd a1 b1, deqL_pd a2 b2]
end
/-- the pairs of plain values that == tells apart as values -/
def scalD : D → D → Bool
  | .non, .non => true | .non, .int _ => true | .int _, .non => true | .non, .bl _ => true | .bl _, .non => true | .non, .str _ => true | .str _, .non => true
  | .int _, .int _ => true | .bl _, .bl _ => true | .str _, .str _ => true
  | .int _, .str _ => true | .str _, .int _ => true | .bl _, .str _ => true | .str _, .bl _ => true
  | _, _ => false
theorem Rp.scal {K : PySem.W.Frag} {G H : Hp} {x y : D} {v w : V} {F1 F2 : List Addr} (h : scalD x y = true) (rx : Rp K G H x v F1) (ry : Rp K G H y w F2) : L2.scal v w = true ∧ decide (v = w) = deq x y := by
  cases x <;> cases y <;> first
    | (exfalso; revert h; simp [scalD]; done)
    | (obtain ⟨rfl, _⟩ := rx
       obtain ⟨rfl, _⟩ := ry
       refine ⟨rfl, ?_⟩
       first
         | rfl
         | exact decide_eq_false (fun z => nomatch z)
         | exact dec_int
         | exact dec_bl
         | exact dec_str.trans (toS_beq _ _))
/-- == and != of trees -/
def sEq : List D → (D → Prop) → Prop := fun ds Q => ∃ x y, ds = [x, y] ∧ (scalD x y = true ∨ (okD 64 x = true ∧ okD 64 y = true)) ∧ Q (.bl (deq x y))
def sNe : List D → (D → Prop) → Prop := fun ds Q => ∃ x y, ds = [x, y] ∧ (scalD x y = true ∨ (okD 64 x = true ∧ okD 64 y = true)) ∧ Q (.bl (!deq x y))
theorem RpL.two {K : PySem.W.Frag} {G H : Hp} {x y : D} {vs : List V} {F : List Addr} (h : RpL K G H [x, y] vs F) : ∃ v w F1 F2, vs = [v, w] ∧ Rp K G H x v F1 ∧ Rp K G H y w F2 := by
  obtain ⟨v, vs', F1, F2, rfl, rfl, r, w, vs2, F3, F4, rfl, rfl, r2, rfl, rfl⟩ := h
  exact ⟨v, w, F1, F3, rfl, r, r2⟩
theorem RpL.one' {K : PySem.W.Frag} {G H : Hp} {x : D} {vs : List V} {F : List Addr} (h : RpL K G H [x] vs F) : ∃ v, vs = [v] ∧ Rp K G H x v F := by
  obtain ⟨v, vs', F1, F2, rfl, rfl, r, rfl, rfl⟩ := h
  exact ⟨v, rfl, by rw [List.append_nil]; exact r⟩
theorem shp {d : D} (h : okD 64 d = true) : SeqAt.shaped (pd d) = true := by
  obtain ⟨a, b⟩ := okD_shape h
  unfold SeqAt.shaped
  rw [a, decide_eq_true b]
  rfl
theorem opn_eq {K : PySem.W.Frag} : OpN K (r2N fun x y H Q => rEq x y H Q ∨ rEqD K x y H Q) sEq := OpN.pure fun G H ds vs F Q Q' hs r h k => by
  obtain ⟨x, y, rfl, h1, q⟩ := h
  obtain ⟨v, w, F1, F2, rfl, rx, ry⟩ := r.two
  refine ⟨v, w, rfl, ?_⟩
  rcases h1 with h1 | ⟨h1, h2⟩
  · obtain ⟨e1, e2⟩ := Rp.scal h1 rx ry
    exact .inl ⟨e1, by rw [e2]; exact k (.bl (deq x y)) _ (fun _ _ _ => ⟨rfl, rfl⟩) q⟩
  · refine .inr ⟨pd x, pd y, rx.dp hs h1, ry.dp hs h2, shp h1, shp h2, ?_⟩
    rw [deq_pd h1 h2]
    exact k (.bl (deq x y)) _ (fun _ _ _ => ⟨rfl, rfl⟩) q
theorem opn_ne {K : PySem.W.Frag} : OpN K (r2N fun x y H Q => rNe x y H Q ∨ rNeD K x y H Q) sNe := OpN.pure fun G H ds vs F Q Q' hs r h k => by
  obtain ⟨x, y, rfl, h1, q⟩ := h
  obtain ⟨v, w, F1, F2, rfl, rx, ry⟩ := r.two
  refine ⟨v, w, rfl, ?_⟩
  rcases h1 with h1 | ⟨h1, h2⟩
  · obtain ⟨e1, e2⟩ := Rp.scal h1 rx ry
    exact .inl ⟨e1, by rw [e2]; exact k (.bl (!deq x y)) _ (fun _ _ _ => ⟨rfl, rfl⟩) q⟩
  · refine .inr ⟨pd x, pd y, rx.dp hs h1, ry.dp hs h2, shp h1, shp h2, ?_⟩
    rw [deq_pd h1 h2]
    exact k (.bl (!deq x y)) _ (fun _ _ _ => ⟨rfl, rfl⟩) q
theorem opr_eq {X : Cx} {k : Nat} (hr : Room k X.A) : OpR X (compareOp .Eq) (fun x y H Q => rEq x y H Q ∨ rEqD X.K x y H Q) := OpR.or op_eq (op_eqD hr.units)
theorem opr_ne {X : Cx} {k : Nat} (hr : Room k X.A) : OpR X (compareOp .NotEq) (fun x y H Q => rNe x y H Q ∨ rNeD X.K x y H Q) := OpR.or op_ne (op_neD hr.units)
def sI2 (f : Int → Int → D) : List D → (D → Prop) → Prop := fun ds Q => ∃ i j, ds = [.int i, .int j] ∧ Q (f i j)
theorem opn_i2 {K : PySem.W.Frag} {f : Int → Int → D} {g : Int → Int → V} (h : ∀ i j G H, Rp K G H (f i j) (g i j) []) : OpN K (r2N (rI0 g)) (sI2 f) := OpN.pure fun G H ds vs F Q Q' hs r q k => by
  obtain ⟨i, j, rfl, q⟩ := q
  obtain ⟨v, w, F1, F2, rfl, ⟨rfl, _⟩, ⟨rfl, _⟩⟩ := r.two
  exact ⟨_, _, rfl, i, j, rfl, rfl, k _ _ (fun G' H' _ => h i j G' H') q⟩
def sI2c (c : Int → Int → Prop) (f : Int → Int → D) : List D → (D → Prop) → Prop := fun ds Q => ∃ i j, ds = [.int i, .int j] ∧ c i j ∧ Q (f i j)
theorem opn_i2c {K : PySem.W.Frag} {c c' : Int → Int → Prop} {f : Int → Int → D} {g : Int → Int → V} (hc : ∀ i j, c i j → c' i j) (h : ∀ i j G H, c i j → Rp K G H (f i j) (g i j) []) : OpN K (r2N (rI c' g)) (sI2c c f) := OpN.pure fun G H ds vs F Q Q' hs r q k => by
  obtain ⟨i, j, rfl, hz, q⟩ := q
  obtain ⟨v, w, F1, F2, rfl, ⟨rfl, _⟩, ⟨rfl, _⟩⟩ := r.two
  exact ⟨_, _, rfl, i, j, rfl, rfl, hc _ _ hz, k _ _ (fun G' H' _ => h i j G' H' hz) q⟩
theorem opn_lt {K : PySem.W.Frag} : OpN K (r2N (rI0 fun i j => .bl (decide (i < j)))) (sI2 fun i j => .bl (decide (i < j))) := opn_i2 fun _ _ _ _ => ⟨rfl, rfl⟩
theorem opn_gt {K : PySem.W.Frag} : OpN K (r2N (rI0 fun i j => .bl (decide (j < i)))) (sI2 fun i j => .bl (decide (j < i))) := opn_i2 fun _ _ _ _ => ⟨rfl, rfl⟩
theorem opn_ge {K : PySem.W.Frag} : OpN K (r2N (rI0 fun i j => .bl (decide (j ≤ i)))) (sI2 fun i j => .bl (decide (j ≤ i))) := opn_i2 fun _ _ _ _ => ⟨rfl, rfl⟩
theorem opn_sub {K : PySem.W.Frag} : OpN K (r2N (rI0 fun i j => .int (i - j))) (sI2 fun i j => .int (i - j)) := opn_i2 fun _ _ _ _ => ⟨rfl, rfl⟩
/-- % and // : by a number above 0 as Lean's own -/
def pmod (i j : Int) : Int := if 0 < j then i % j else i.fmod j
def pdiv (i j : Int) : Int := if 0 < j then i / j else i.fdiv j
theorem pmod_eq (i j : Int) : i.fmod j = pmod i j := by
  unfold pmod
  split
  · rw [Int.fmod_eq_emod_of_nonneg i (by omega)]
  · rfl
theorem pdiv_eq (i j : Int) : i.fdiv j = pdiv i j := by
  unfold pdiv
  split
  · rw [Int.fdiv_eq_ediv_of_nonneg i (by omega)]
  · rfl
theorem opn_mod {K : PySem.W.Frag} : OpN K (r2N (rI (fun _ j => j ≠ 0) fun i j => .int (i.fmod j))) (sI2c (fun _ j => j ≠ 0) fun i j => .int (pmod i j)) := opn_i2c (fun _ _ h => h) fun i j _ _ _ => ⟨by rw [pmod_eq], rfl⟩
/-- a divisor that is not 0, of less than 9,000 bits -/
def CDv (_ j : Int) : Prop := j ≠ 0 ∧ j.natAbs.log2 < 9000
theorem opr_div {X : Cx} : OpR X (binaryOp .FloorDiv) (rI CDv fun i j => .int (i.fdiv j)) := opI fun i j _ _ _ _ _ hc q => floordiv_int hc.1 q (.inl (PyProof.noPylong_of_log2 hc.2))
theorem opn_div {K : PySem.W.Frag} : OpN K (r2N (rI CDv fun i j => .int (i.fdiv j))) (sI2c CDv fun i j => .int (pdiv i j)) := opn_i2c (fun _ _ h => h) fun i j _ _ _ => ⟨by rw [pdiv_eq], rfl⟩
/-- a product: one factor below 2 ^ 64, or both below 2 ^ 60,000,000 -/
def CMl (i j : Int) : Prop := (i.natAbs < 2 ^ 64 ∨ j.natAbs < 2 ^ 64) ∨ CMulX i j
theorem ib64 {i : Int} (h : i.natAbs < 2 ^ 64) : Builtin.Int.intBits i ≤ 64 := PyProof.Rows.intBits_le h
theorem opr_mul {X : Cx} : OpR X (binaryOp .Mult) (rI CMl fun i j => .int (i * j)) := opI fun i j _ _ _ _ _ hc q => by
  refine mul_int q ?_
  rcases hc with (h | h) | h
  · exact IntMulOk.of_left (ib64 h)
  · exact IntMulOk.of_right (ib64 h)
  · exact h.ok
theorem opn_pow {K : PySem.W.Frag} : OpN K (r2N (rI CPow fun i j => .int (i ^ j.toNat))) (sI2c CPow fun i j => .int (i ^ j.toNat)) := opn_i2c (fun _ _ h => h) fun _ _ _ _ _ => ⟨rfl, rfl⟩
/-- a is None, a is not None -/
def isNon : D → Bool
  | .non => true
  | .val v => decide (v = .non)
  | .pin v _ => decide (v = .non)
  | _ => false
def sIsN : List D → (D → Prop) → Prop := fun ds Q => ∃ x, ds = [x, .non] ∧ x ≠ .hole ∧ Q (.bl (isNon x))
def sNotN : List D → (D → Prop) → Prop := fun ds Q => ∃ x, ds = [x, .non] ∧ x ≠ .hole ∧ Q (.bl (!isNon x))
theorem Rp.isNon {K : PySem.W.Frag} {G H : Hp} {x : D} {v : V} {F : List Addr} (h : x ≠ .hole) (r : Rp K G H x v F) : decide (v = .non) = VL.isNon x := by
  cases x with
  | hole => exact absurd rfl h
  | val u => obtain ⟨rfl, _⟩ := r; rfl
  | non => obtain ⟨rfl, _⟩ := r; rfl
  | bl b => obtain ⟨rfl, _⟩ := r; rfl
  | int b => obtain ⟨rfl, _⟩ := r; rfl
  | str b => obtain ⟨rfl, _⟩ := r; rfl
  | ty b => obtain ⟨rfl, _⟩ := r; rfl
  | tup xs => obtain ⟨a, vs, rfl, _⟩ := r; rfl
  | lst m xs => cases m <;> obtain ⟨a, vs, _⟩ := r <;> simp_all [VL.isNon]
  | dK m ks xs => cases m <;> obtain ⟨a, vs, _⟩ := r <;> simp_all [VL.isNon]
  | dT m ks xs => cases m <;> obtain ⟨a, vs, _⟩ := r <;> simp_all [VL.isNon]
  | ins m C fs xs => cases m <;> obtain ⟨a, dx, vs, _⟩ := r <;> simp_all [VL.isNon]
  | pin u d => obtain ⟨rfl, _⟩ := r; rfl
  | exn a dd c row => obtain ⟨⟨rfl, _⟩, _⟩ := r; rfl
theorem opn_isN {K : PySem.W.Frag} : OpN K (r2N fun x y H Q => y = .non ∧ Q (.bl (decide (x = .non))) H) sIsN := OpN.pure fun G H ds vs F Q Q' hs r q k => by
  obtain ⟨x, rfl, hx, q⟩ := q
  obtain ⟨v, w, F1, F2, rfl, rx, ⟨rfl, _⟩⟩ := r.two
  exact ⟨_, _, rfl, rfl, by rw [rx.isNon hx]; exact k (.bl (isNon x)) _ (fun _ _ _ => ⟨rfl, rfl⟩) q⟩
theorem opn_notN {K : PySem.W.Frag} : OpN K (r2N fun x y H Q => y = .non ∧ Q (.bl (!decide (x = .non))) H) sNotN := OpN.pure fun G H ds vs F Q Q' hs r q k => by
  obtain ⟨x, rfl, hx, q⟩ := q
  obtain ⟨v, w, F1, F2, rfl, rx, ⟨rfl, _⟩⟩ := r.two
  exact ⟨_, _, rfl, rfl, by rw [rx.isNon hx]; exact k (.bl (!isNon x)) _ (fun _ _ _ => ⟨rfl, rfl⟩) q⟩
end VL
namespace VL
open PySem PySem.Spec PyProof.Rows L2 VL
inductive Stp where
  | ix (j : Nat)
  | fd (f : Cs)
deriving DecidableEq
def fdIx (fs : List Cs) (f : Cs) : Option Nat := fs.idxOf? f
/-- the node at a place, through nodes that are ours -/
def getP : D → List Stp → Option D
  | d, [] => some d
  | .lst true ds, .ix j :: p => match ds[j]? with | some d => getP d p | none => none
  | .tup ds, .ix j :: p => match ds[j]? with | some d => getP d p | none => none
  | .ins true _ fs ds, .fd f :: p => match fdIx fs f with
    | some j => (match ds[j]? with | some d => getP d p | none => none)
    | none => none
  | _, _ => none
def setP : D → List Stp → D → D
  | _, [], e => e
  | .lst true ds, .ix j :: p, e => match ds[j]? with | some d => .lst true (ds.set j (setP d p e)) | none => .lst true ds
  | .tup ds, .ix j :: p, e => match ds[j]? with | some d => .tup (ds.set j (setP d p e)) | none => .tup ds
  | .ins true C fs ds, .fd f :: p, e => match fdIx fs f with
    | some j => (match ds[j]? with | some d => .ins true C fs (ds.set j (setP d p e)) | none => .ins true C fs ds)
    | none => .ins true C fs ds
  | d, _, _ => d
theorem fzip_look : ∀ {fs : List Cs} {vs : List V} {f : Cs} {j : Nat} {v : V}, fdIx fs f = some j → vs[j]? = some v → fs.length = vs.length → (fzip fs vs).lookup (toS f) = some v
  | [], vs, f, j, v, h, _, _ => by simp [fdIx] at h
  | g :: fs, [], f, j, v, _, _, hl => by simp at hl
  | g :: fs, w :: vs, f, j, v, h, hv, hl => by
    unfold fdIx at h
    rw [List.idxOf?_cons] at h
    show ((toS g, w) :: fzip fs vs).lookup (toS f) = some v
    by_cases e : g = f
    · subst e
      simp at h
      subst h
      simp at hv
      subst hv
      simp [List.lookup]
    · have e1 : (g == f) = false := by simpa using e
      rw [e1] at h
      simp at h
      obtain ⟨k, hk, rfl⟩ := h
      have e2 : (toS f == toS g) = false := by
        rw [beq_eq_false_iff_ne]
        intro z
        exact e (toS_inj z.symm)
      simp only [List.lookup, e2]
      exact fzip_look (fs := fs) hk (by simpa using hv) (by simpa using hl)
section
variable {K : PySem.W.Frag}
/-- at v0, along p, one comes to v -/
inductive AtP (H : Hp) : D → V → List Stp → V → Prop where
  | nil {d v} : AtP H d v [] v
  | lst {ds d a vs j p w v} : H a = some (.lst vs) → ds[j]? = some d → ds.length = vs.length → vs[j]? = some w → AtP H d w p v → AtP H (.lst true ds) (.ref a) (.ix j :: p) v
  | tup {ds d a vs j p w v} : H a = some (.tup vs) → ds[j]? = some d → ds.length = vs.length → vs[j]? = some w → AtP H d w p v → AtP H (.tup ds) (.ref a) (.ix j :: p) v
  | ins {C C' fs ds d a dx vs j f p w v} : H a = some (.ins C' dx (fzip fs vs)) → fdIx fs f = some j → ds[j]? = some d → fs.length = vs.length → vs[j]? = some w → AtP H d w p v → AtP H (.ins true C fs ds) (.ref a) (.fd f :: p) v
theorem AtP.grow {H H' : Hp} (h : Sub H H') {d v p u} (a : AtP H d v p u) : AtP H' d v p u := by
  induction a with
  | nil => exact .nil
  | lst e1 e2 e3 e4 _ ih => exact .lst (h _ _ e1) e2 e3 e4 ih
  | tup e1 e2 e3 e4 _ ih => exact .tup (h _ _ e1) e2 e3 e4 ih
  | ins e1 e2 e3 e4 e5 _ ih => exact .ins (h _ _ e1) e2 e3 e4 e5 ih
theorem fzip_inj : ∀ {fs : List Cs} {vs ws : List V}, fs.length = vs.length → fs.length = ws.length → fzip fs vs = fzip fs ws → vs = ws
  | [], [], [], _, _, _ => rfl
  | f :: fs, v :: vs, w :: ws, h1, h2, e => by
    have e2 : (toS f, v) :: fzip fs vs = (toS f, w) :: fzip fs ws := e
    obtain ⟨a, c⟩ := List.cons.inj e2
    rw [(Prod.mk.inj a).2, fzip_inj (Nat.succ.inj h1) (Nat.succ.inj h2) c]
  | [], _ :: _, _, h1, _, _ => by cases h1
  | [], [], _ :: _, _, h2, _ => by cases h2
  | _ :: _, [], _, h1, _, _ => by cases h1
  | _ :: _, _ :: _, [], _, h2, _ => by cases h2
theorem AtP.uniq {H : Hp} : ∀ {p : List Stp} {d v u u'}, AtP H d v p u → AtP H d v p u' → u = u'
  | [], _, _, _, _, .nil, .nil => rfl
  | .ix j :: p, _, _, u, u', .lst a1 a2 a3 a4 a5, .lst b1 b2 b3 b4 b5 => by
    rw [a1] at b1
    cases b1
    rw [a4] at b4
    cases b4
    rw [a2] at b2
    cases b2
    exact a5.uniq b5
  | .ix j :: p, _, _, u, u', .tup a1 a2 a3 a4 a5, .tup b1 b2 b3 b4 b5 => by
    rw [a1] at b1
    cases b1
    rw [a4] at b4
    cases b4
    rw [a2] at b2
    cases b2
    exact a5.uniq b5
  | .fd f :: p, _, _, u, u', .ins a1 a2 a3 a4 a5 a6, .ins b1 b2 b3 b4 b5 b6 => by
    rw [a1] at b1
    have e := HO.ins.inj (Option.some.inj b1)
    have ev := fzip_inj a4 b4 e.2.2
    subst ev
    rw [a2] at b2
    cases b2
    rw [a5] at b5
    cases b5
    rw [a3] at b3
    cases b3
    exact a6.uniq b6
/-- a place within a tree: what stands there, and what stands in its stead -/
theorem Rp.focusP {G H : Hp} (su : Sub G H) : ∀ {p : List Stp} {d0 : D} {v0 : V} {F : List Addr} {d : D}, Rp K G H d0 v0 F → getP d0 p = some d →
    ∃ v A B C, F = A ++ B ++ C ∧ Rp K G H d v B ∧ AtP H d0 v0 p v ∧ ∀ (G' H' : Hp) (d' : D) (B' : List Addr), Sub G G' → (∀ a ∈ A ++ C, H' a = H a) → (B ≠ [] ∨ B' = []) → Rp K G' H' d' v B' → Rp K G' H' (setP d0 p d') v0 (A ++ B' ++ C)
  | [], d0, v0, F, d, h, e => by
    have e : some d0 = some d := by cases d0 <;> exact e
    cases e
    refine ⟨v0, [], F, [], by simp, h, .nil, fun G' H' d' B' _ _ _ r => ?_⟩
    have : setP d0 [] d' = d' := by cases d0 <;> rfl
    rw [this]
    simpa using r
  | .ix j :: p, .lst true ds, v0, F, d, h, e => by
    obtain ⟨a, vs, F', rfl, s, rfl, r⟩ := h
    have e : (match ds[j]? with | some d => getP d p | none => none) = some d := e
    cases hj : ds[j]? with
    | none => rw [hj] at e; cases e
    | some c =>
      rw [hj] at e
      obtain ⟨w, A, B, C, hw, rfl, rw_, back⟩ := r.focus hj
      obtain ⟨v, A2, B2, C2, rfl, rv, at_, back2⟩ := Rp.focusP su rw_ e
      refine ⟨v, a :: A ++ A2, B2, C2 ++ C, by simp only [List.append_assoc, List.cons_append], rv, .lst s hj r.len hw at_, fun G' H' d' B' g k z r' => ?_⟩
      have q := back2 G' H' d' B' g (fun a z => k a (by simp only [List.mem_append, List.mem_cons] at z ⊢; grind)) z r'
      have q2 := back G' H' _ w _ g (fun a z => k a (by simp only [List.mem_append, List.mem_cons] at z ⊢; grind)) q
      show Rp K G' H' (match ds[j]? with | some d => .lst true (ds.set j (setP d p d')) | none => .lst true ds) _ _
      rw [hj]
      rw [setSelf hw] at q2
      exact ⟨a, vs, A ++ (A2 ++ B' ++ C2) ++ C, rfl, (k a (by simp)).trans s, by simp only [List.append_assoc, List.cons_append], q2⟩
  | .fd f :: p, .ins true C0 fs ds, v0, F, d, h, e => by
    obtain ⟨a, dx, vs, F', rfl, s, rfl, l, r⟩ := h
    have e : (match fdIx fs f with | some j => (match ds[j]? with | some d => getP d p | none => none) | none => none) = some d := e
    cases hf : fdIx fs f with
    | none => rw [hf] at e; cases e
    | some j =>
      rw [hf] at e
      have e : (match ds[j]? with | some d => getP d p | none => none) = some d := e
      cases hj : ds[j]? with
      | none => rw [hj] at e; cases e
      | some c =>
        rw [hj] at e
        obtain ⟨w, A, B, C, hw, rfl, rw_, back⟩ := r.focus hj
        obtain ⟨v, A2, B2, C2, rfl, rv, at_, back2⟩ := Rp.focusP su rw_ e
        refine ⟨v, a :: A ++ A2, B2, C2 ++ C, by simp only [List.append_assoc, List.cons_append], rv, .ins s hf hj (l.trans r.len) hw at_, fun G' H' d' B' g k z r' => ?_⟩
        have q := back2 G' H' d' B' g (fun a z => k a (by simp only [List.mem_append, List.mem_cons] at z ⊢; grind)) z r'
        have q2 := back G' H' _ w _ g (fun a z => k a (by simp only [List.mem_append, List.mem_cons] at z ⊢; grind)) q
        show Rp K G' H' (match fdIx fs f with | some j => (match ds[j]? with | some d => .ins true C0 fs (ds.set j (setP d p d')) | none => .ins true C0 fs ds) | none => .ins true C0 fs ds) _ _
        rw [hf]
        show Rp K G' H' (match ds[j]? with | some d => .ins true C0 fs (ds.set j (setP d p d')) | none => .ins true C0 fs ds) _ _
        rw [hj]
        rw [setSelf hw] at q2
        exact ⟨a, dx, vs, A ++ (A2 ++ B' ++ C2) ++ C, rfl, (k a (by simp)).trans s, by simp only [List.append_assoc, List.cons_append], by simpa using l, q2⟩
  | .ix j :: p, .tup ds, v0, F, d, h, e => by
    obtain ⟨a, vs, rfl, s, r⟩ := h
    have e : (match ds[j]? with | some d => getP d p | none => none) = some d := e
    cases hj : ds[j]? with
    | none => rw [hj] at e; cases e
    | some c =>
      rw [hj] at e
      obtain ⟨w, A, B, C, hw, rfl, rw_, back⟩ := r.focus hj
      obtain ⟨v, A2, B2, C2, rfl, rv, at_, back2⟩ := Rp.focusP su rw_ e
      refine ⟨v, A ++ A2, B2, C2 ++ C, by simp only [List.append_assoc], rv, .tup (su _ _ s) hj r.len hw at_, fun G' H' d' B' g k z r' => ?_⟩
      have q := back2 G' H' d' B' g (fun a z => k a (by simp only [List.mem_append] at z ⊢; grind)) z r'
      have q2 := back G' H' _ w _ g (fun a z => k a (by simp only [List.mem_append] at z ⊢; grind)) q
      show Rp K G' H' (match ds[j]? with | some d => .tup (ds.set j (setP d p d')) | none => .tup ds) _ _
      rw [hj]
      rw [setSelf hw] at q2
      have ea : A ++ A2 ++ B' ++ (C2 ++ C) = A ++ (A2 ++ B' ++ C2) ++ C := by simp only [List.append_assoc]
      rw [ea]
      exact ⟨a, vs, rfl, g _ _ s, q2⟩
  | .fd _ :: p, .tup ds, v0, F, d, h, e => by cases e
  | s :: p, .lst false ds, v0, F, d, h, e => by cases s <;> cases e
  | s :: p, .ins false C fs ds, v0, F, d, h, e => by cases s <;> cases e
  | .fd _ :: p, .lst true ds, v0, F, d, h, e => by cases e
  | .ix _ :: p, .ins true C fs ds, v0, F, d, h, e => by cases e
  | s :: p, .hole, v0, F, d, h, e => by cases s <;> cases e
  | s :: p, .val _, v0, F, d, h, e => by cases s <;> cases e
  | s :: p, .non, v0, F, d, h, e => by cases s <;> cases e
  | s :: p, .bl _, v0, F, d, h, e => by cases s <;> cases e
  | s :: p, .int _, v0, F, d, h, e => by cases s <;> cases e
  | s :: p, .str _, v0, F, d, h, e => by cases s <;> cases e
  | s :: p, .ty _, v0, F, d, h, e => by cases s <;> cases e
  | s :: p, .pin _ _, v0, F, d, h, e => by cases s <;> cases e
  | s :: p, .exn _ _ _ _, v0, F, d, h, e => by cases s <;> cases e
  | s :: p, .dK _ _ _, v0, F, d, h, e => by cases s <;> cases e
  | s :: p, .dT _ _ _, v0, F, d, h, e => by cases s <;> cases e
end
section
variable {K : PySem.W.Frag} {b : Bs} {σ : L2.St} {H : Hp} {ε : Ep} {T R : List D} {Tv Rv : List V}
/-- the node at a place of slot i, and what stands in its stead, made of it and of what is held last -/
theorem SI.focus (I : SI K b σ H ε (T ++ R) (Tv ++ Rv)) (hl : T.length = Tv.length) {i : Nat} {d0 d : D} {p : List Stp} (e : ε[i]? = some (some d0)) (g : getP d0 p = some d) :
    ∃ v0 v G B FR, σ[i]? = some (some v0) ∧ AtP H d0 v0 p v ∧ Sub G H ∧ Rp K G H d v B ∧ RpL K G H R Rv FR ∧ (B ++ FR).Nodup ∧ (∀ a ∈ B ++ FR, G a = none) ∧
      ∀ H' d' B' res w Fr, (∀ a, a ∉ B → H' a = H a) → Rp K G H' d' v B' → Rp K G H' res w Fr → (B ≠ [] ∨ B' = []) → (∃ L, (B' ++ (Fr ++ L)).Perm (B ++ FR)) → SI K b σ H' (ε.set i (some (setP d0 p d'))) (T ++ [res]) (Tv ++ [w]) := by
  obtain ⟨G, F, Ft, J⟩ := I
  obtain ⟨F1, FR, rfl, r1, r2⟩ := J.temps.split2 hl
  obtain ⟨ov, A0, B0, C0, hs, rfl, ro, back⟩ := J.slots.focus e
  obtain ⟨v0, rfl, r0⟩ := ro
  obtain ⟨v, A, B, C, rfl, rv, at_, back2⟩ := r0.focusP J.sub g
  have pm : (A0 ++ (A ++ B ++ C) ++ C0 ++ (F1 ++ FR)).Perm ((A0 ++ A ++ C ++ C0 ++ F1) ++ (B ++ FR)) := by
    apply List.perm_iff_count.mpr
    intro a
    simp only [List.count_append]
    omega
  have nd := pm.nodup_iff.mp J.nd
  obtain ⟨nd1, nd2, dj⟩ := List.nodup_append.mp nd
  have mem : ∀ a, a ∈ (A0 ++ A ++ C ++ C0 ++ F1) ++ (B ++ FR) → a ∈ A0 ++ (A ++ B ++ C) ++ C0 ++ (F1 ++ FR) := fun a z => pm.mem_iff.mpr z
  refine ⟨v0, v, G, B, FR, hs, at_, J.sub, rv, r2, nd2, fun a z => J.fr a (mem a (List.mem_append_right _ z)), fun H' d' B' res w Fr kp rd rres z sp => ?_⟩
  have out : ∀ a ∈ A0 ++ A ++ C ++ C0 ++ F1, H' a = H a := fun a z => kp a fun hb => dj a z a (List.mem_append_left _ hb) rfl
  have sH : Sub G H' := fun a o q => by
    have : a ∉ B := fun hb => by
      rw [J.fr a (mem a (List.mem_append_right _ (List.mem_append_left _ hb)))] at q
      cases q
    rw [kp a this]
    exact J.sub a o q
  have q1 := back2 G H' d' B' Sub.refl (fun a z => out a (by simp only [List.mem_append] at z ⊢; grind)) z rd
  have q2 := back G H' (some (setP d0 p d')) (some v0) (A ++ B' ++ C) Sub.refl (fun a z => out a (by simp only [List.mem_append] at z ⊢; grind)) ⟨v0, rfl, q1⟩
  rw [setSelf hs] at q2
  obtain ⟨L, sp⟩ := sp
  have pm2 : ((A0 ++ (A ++ B' ++ C) ++ C0 ++ (F1 ++ Fr)) ++ L).Perm (A0 ++ (A ++ B ++ C) ++ C0 ++ (F1 ++ FR)) := by
    apply List.perm_iff_count.mpr
    intro a
    have := sp.count_eq a
    simp only [List.count_append] at this ⊢
    omega
  have sb : ∀ a, a ∈ A0 ++ (A ++ B' ++ C) ++ C0 ++ (F1 ++ Fr) → a ∈ A0 ++ (A ++ B ++ C) ++ C0 ++ (F1 ++ FR) := fun a z => pm2.mem_iff.mp (List.mem_append_left _ z)
  refine ⟨G, A0 ++ (A ++ B' ++ C) ++ C0, F1 ++ Fr, J.s0, sH, q2, (r1.mono Sub.refl fun a z => out a (List.mem_append_right _ z)).append (RpL.one.mpr rres), (List.nodup_append.mp (pm2.nodup_iff.mpr J.nd)).1, fun a z => J.fr a (sb a z), fun a z => J.own a (sb a z), J.gn, fun a o q n => ?_, J.kept⟩
  · have : a ∉ B := fun hb => by
      rcases J.own a (mem a (List.mem_append_right _ (List.mem_append_left _ hb))) with h | h
      · exact n h
      · rw [q] at h; cases h
    rw [kp a this]
    exact J.keep a o q n
end
end VL
namespace VL
open PySem PySem.Spec PyProof.Rows L2 VL
/-- the place of a key -/
def kIx {α : Type} [DecidableEq α] : List α → α → Option Nat
  | [], _ => none
  | a :: ks, k => if a = k then some 0 else (kIx ks k).map (· + 1)
section
variable {κ : Type} [DecidableEq κ] {α : Type} [DecidableEq α] {f : α → κ}
theorem kIx_lt : ∀ {ks : List α} {k : α} {j : Nat}, kIx ks k = some j → j < ks.length
  | [], _, _, h => by cases h
  | a :: ks, k, j, h => by
    unfold kIx at h
    split at h
    · cases h; simp
    · cases e : kIx ks k with
      | none => rw [e] at h; cases h
      | some i =>
        rw [e] at h
        cases h
        have := kIx_lt e
        simp only [List.length_cons]
        omega
theorem map_zip_set (hf : ∀ a b, f a = f b → a = b) : ∀ {ks : List α} {vs : List V} {k : α} {y : V} {j : Nat}, ks.Nodup → ks.length = vs.length → kIx ks k = some j →
    ((ks.map f).zip vs).map (fun kv => if kv.1 = f k then (kv.1, y) else kv) = (ks.map f).zip (vs.set j y)
  | [], _, k, y, j, _, _, e => by cases e
  | _ :: _, [], k, y, j, _, h, _ => by cases h
  | a :: ks, v :: vs, k, y, j, nd, h, e => by
    obtain ⟨n1, n2⟩ := List.nodup_cons.mp nd
    unfold kIx at e
    by_cases q : a = k
    · subst q
      rw [if_pos rfl] at e
      cases e
      simp only [List.map_cons, List.zip_cons_cons, if_true, List.set_cons_zero, List.cons.injEq, true_and]
      have : ∀ p ∈ (ks.map f).zip vs, (if p.1 = f a then (p.1, y) else p) = p := fun p hp => by
        have h1 := (List.of_mem_zip hp).1
        obtain ⟨b, hb, e2⟩ := List.mem_map.mp h1
        rw [if_neg]
        intro z
        rw [← e2] at z
        exact n1 (hf _ _ z ▸ hb)
      rw [List.map_congr_left this, List.map_id']
    · rw [if_neg q] at e
      cases e1 : kIx ks k with
      | none => rw [e1] at e; cases e
      | some i =>
        rw [e1] at e
        cases e
        simp only [List.map_cons, List.zip_cons_cons, List.set_cons_succ, List.cons.injEq]
        refine ⟨if_neg fun z => q (hf _ _ z), ?_⟩
        exact map_zip_set hf n2 (Nat.succ.inj h) e1
theorem valV_zip (hf : ∀ a b, f a = f b → a = b) : ∀ {ks : List α} {vs : List V} {k : α}, ks.length = vs.length → valV ((ks.map f).zip vs) (f k) = (kIx ks k).bind fun j => vs[j]?
  | [], [], _, _ => rfl
  | a :: ks, v :: vs, k, h => by
    unfold kIx
    show valV ((f a, v) :: (ks.map f).zip vs) (f k) = _
    by_cases e : a = k
    · subst e
      rw [valV_pos rfl, if_pos rfl]
      rfl
    · rw [valV_neg fun z => e (hf _ _ z), valV_zip hf (Nat.succ.inj h), if_neg e]
      cases kIx ks k <;> simp
  | [], _ :: _, _, h => by cases h
  | _ :: _, [], _, h => by cases h
theorem zip_any (hf : ∀ a b, f a = f b → a = b) {ks : List α} {vs : List V} {k : α} (h : ks.length = vs.length) : (((ks.map f).zip vs).any fun kv => decide (kv.1 = f k)) = (kIx ks k).isSome := by
  rw [valV_any, valV_zip hf h]
  cases e : kIx ks k with
  | none => rfl
  | some j =>
    have : j < vs.length := by
      rw [← h]
      exact kIx_lt e
    simp [this]
theorem putK_zip (hf : ∀ a b, f a = f b → a = b) : ∀ {ks : List α} {vs : List V} {k : α} {y : V}, ks.Nodup → ks.length = vs.length →
    putK ((ks.map f).zip vs) (f k) y = match kIx ks k with | some j => (ks.map f).zip (vs.set j y) | none => ((ks ++ [k]).map f).zip (vs ++ [y]) := by
  intro ks vs k y nd hl
  unfold putK
  rw [zip_any hf hl]
  cases e : kIx ks k with
  | none =>
    simp only [Option.isSome_none, Bool.false_eq_true, if_false]
    rw [List.map_append, List.zip_append (by simpa using hl)]
    rfl
  | some j =>
    simp only [Option.isSome_some, if_true]
    exact map_zip_set hf nd hl e
end
def tkc (k : List Kc) : List Key := k.map kc
theorem tkc_inj : ∀ {a b : List Kc}, tkc a = tkc b → a = b
  | [], [], _ => rfl
  | x :: a, y :: b, h => by
    obtain ⟨h1, h2⟩ := List.cons.inj (show kc x :: tkc a = kc y :: tkc b from h)
    rw [kc_inj h1, tkc_inj h2]
  | [], _ :: _, h => by cases h
  | _ :: _, [], h => by cases h
theorem kzip_val {ks : List Kc} {vs : List V} {k : Kc} (h : ks.length = vs.length) : valV (kzip ks vs) (kc k) = (kIx ks k).bind fun j => vs[j]? := valV_zip (fun _ _ => kc_inj) h
theorem tzip_val {ks : List (List Kc)} {vs : List V} {k : List Kc} (h : ks.length = vs.length) : valV (tzip ks vs) (tkc k) = (kIx ks k).bind fun j => vs[j]? := valV_zip (f := tkc) (fun _ _ => tkc_inj) h
theorem kzip_put {ks : List Kc} {vs : List V} {k : Kc} {y : V} (nd : ks.Nodup) (h : ks.length = vs.length) : putK (kzip ks vs) (kc k) y = match kIx ks k with | some j => kzip ks (vs.set j y) | none => kzip (ks ++ [k]) (vs ++ [y]) := putK_zip (fun _ _ => kc_inj) nd h
theorem tzip_put {ks : List (List Kc)} {vs : List V} {k : List Kc} {y : V} (nd : ks.Nodup) (h : ks.length = vs.length) : putK (tzip ks vs) (tkc k) y = match kIx ks k with | some j => tzip ks (vs.set j y) | none => tzip (ks ++ [k]) (vs ++ [y]) := putK_zip (f := tkc) (fun _ _ => tkc_inj) nd h
/-- a tree as a key -/
def keyD : D → Option Kc
  | .int i => some (.inl i)
  | .str s => some (.inr s)
  | _ => none
def keyL : List D → Option (List Kc)
  | [] => some []
  | d :: ds => (keyD d).bind fun k => (keyL ds).map (k :: ·)
def keyT : D → Option (List Kc)
  | .tup ds => keyL ds
  | _ => none
section
variable {K : PySem.W.Frag} {G H : Hp}
theorem Rp.keyD {d : D} {v : V} {F : List Addr} {k : Kc} (r : Rp K G H d v F) (h : VL.keyD d = some k) : v = kV (kc k) ∧ F = [] := by
  cases d <;> simp only [VL.keyD, reduceCtorEq, Option.some.injEq] at h
  · subst h; exact r
  · subst h; exact r
theorem RpL.keyL : ∀ {ds : List D} {vs : List V} {F : List Addr} {ks : List Kc}, RpL K G H ds vs F → VL.keyL ds = some ks → vs = (tkc ks).map kV ∧ F = []
  | [], vs, F, ks, r, h => by
    obtain ⟨rfl, rfl⟩ := r
    cases h
    exact ⟨rfl, rfl⟩
  | d :: ds, vs, F, ks, r, h => by
    obtain ⟨v, vs', F1, F2, rfl, rfl, rd, rs⟩ := r
    have h : ((VL.keyD d).bind fun k => (VL.keyL ds).map (k :: ·)) = some ks := h
    cases e : VL.keyD d with
    | none => rw [e] at h; cases h
    | some k =>
      rw [e] at h
      cases e2 : VL.keyL ds with
      | none => rw [e2] at h; cases h
      | some ks' =>
        rw [e2] at h
        cases h
        obtain ⟨rfl, rfl⟩ := rd.keyD e
        obtain ⟨rfl, rfl⟩ := RpL.keyL rs e2
        exact ⟨rfl, rfl⟩
theorem Rp.keyT (hs : Sub G H) {d : D} {v : V} {F : List Addr} {k : List Kc} (r : Rp K G H d v F) (h : VL.keyT d = some k) : ∃ b, v = .ref b ∧ H b = some (.tup ((tkc k).map kV)) ∧ F = [] := by
  cases d with
  | tup ds =>
    obtain ⟨a, vs, rfl, s, rs⟩ := r
    obtain ⟨rfl, rfl⟩ := rs.keyL h
    exact ⟨a, rfl, hs _ _ s, rfl⟩
  | _ => cases h
end
/-- what a container holds under a key; behind a store -/
def getD : D → D → Option D
  | .lst _ ds, .int k => (ixN ds.length k).bind fun j => ds[j]?
  | .pin _ (.lst _ ds), .int k => (ixN ds.length k).bind fun j => ds[j]?
  | .tup ds, .int k => (ixN ds.length k).bind fun j => ds[j]?
  | .dK _ ks ds, k => (keyD k).bind fun k => (kIx ks k).bind fun j => ds[j]?
  | .dT _ ks ds, k => (keyT k).bind fun k => (kIx ks k).bind fun j => ds[j]?
  | _, _ => none
def putD : D → D → D → Option D
  | .lst true ds, .int k, y => (ixN ds.length k).map fun j => .lst true (ds.set j y)
  | .pin u (.lst true ds), .int k, y => (ixN ds.length k).map fun j => .pin u (.lst true (ds.set j y))
  | .dK true ks ds, k, y => if ds.length < 1000000 then (keyD k).map fun k => match kIx ks k with | some j => .dK true ks (ds.set j y) | none => .dK true (ks ++ [k]) (ds ++ [y]) else none
  | .dT true ks ds, k, y => if ds.length < 1000000 then (keyT k).map fun k => match kIx ks k with | some j => .dT true ks (ds.set j y) | none => .dT true (ks ++ [k]) (ds ++ [y]) else none
  | _, _, _ => none
section
variable {X : Cv}
structure VQ (X : Cv) (e : Expr) (t : VTE) : Prop where
  ex : ∃ t' : WX → TE, (∀ W, Takes X.toCx W → PE X.toCx e (t' W)) ∧ ∀ (b : Bx X) σ H ε T Tv W N (Q : D → Ep → Prop) (Q' : VK), SI X.K b.1 σ H ε T Tv → t N ε Q →
    (∀ d v ε' H', Sub H H' → SI X.K b.1 σ H' ε' (T ++ [d]) (Tv ++ [v]) → Q d ε' → Q' v H') → XL X.K b.1 T Tv W N → t' W σ H Q'
structure VAQ (X : Cv) (es : List Expr) (t : VTA) : Prop where
  ex : ∃ t' : WX → TA, (∀ W, Takes X.toCx W → PA X.toCx es (t' W)) ∧ ∀ (b : Bx X) σ H ε T Tv W N (Q : List D → Ep → Prop) (Q' : List V → Hp → Prop), SI X.K b.1 σ H ε T Tv → t N ε Q →
    (∀ ds vs ε' H', Sub H H' → SI X.K b.1 σ H' ε' (T ++ ds) (Tv ++ vs) → ds.length = vs.length → Q ds ε' → Q' vs H') → XL X.K b.1 T Tv W N → t' W σ H Q'
theorem ve_q {e : Expr} {t : VTE} (h : VQ X e t) : VE X e t := let ⟨t', a, c⟩ := h.ex; ⟨t', a, fun b σ H ε T Tv W N Q Q' I q k x => c b σ H ε T Tv W N Q Q' I q (fun d v ε' H' _ J z => k d v ε' H' J z) x⟩
theorem vq_var {i : Nat} {x : Str} {pos : Pos} (hN : X.N[i]? = some x) (hv : Vis X.env.scope x) (hd : (x == ("__debug__" : Str)) = false := by decide) (hcd : (x == ("__classdict__" : Str)) = false := by decide) : VQ X (.Name x pos) (vVar i) := by
  refine ⟨fun _ => tVar i, fun _ _ => pe_var hN hv hd hcd, fun b σ H ε T Tv W N Q Q' I h k _ => ?_⟩
  obtain ⟨d, e, z, q⟩ := h
  obtain ⟨v, hs, J⟩ := I.var e z
  exact ⟨v, hs, k d v ε H Sub.refl J q⟩
theorem vq_of {e : Expr} {v : V} {d : D} (h : PE X.toCx e (tC v)) (r : ∀ G H, Rp X.K G H d v []) : VQ X e (vC d) :=
  ⟨fun _ => tC v, fun _ _ => h, fun b σ H ε T Tv W N Q Q' I q k _ => k d v ε H Sub.refl (I.push fun G => r G H) q⟩
theorem vq_int {i j pos} : VQ X (.Constant (.int i) j pos) (vC (.int i)) := vq_of pe_int fun _ _ => ⟨rfl, rfl⟩
theorem vq_str {s : Cs} {x : Str} {j pos} (h : x.cps.toList = s) : VQ X (.Constant (.str x) j pos) (vC (.str s)) := vq_of pe_str fun _ _ => ⟨by rw [← h, toS_cps], rfl⟩
theorem vaq_nil : VAQ X [] vaNil := ⟨fun _ => tNil, fun _ _ => pa_nil, fun b σ H ε T Tv W N Q Q' I h k _ => k [] [] ε H Sub.refl (by simpa using I) rfl h⟩
theorem vaq_cons {e : Expr} {es : List Expr} {t : VTE} {u : VTA} (h : VQ X e t) (k : VAQ X es u) (hs : starEach (e :: es) X.env = (false, eval e X.env) :: starEach es X.env := by rfl) : VAQ X (e :: es) (vaCons t u) := by
  obtain ⟨t', h1, h2⟩ := h.ex
  obtain ⟨u', k1, k2⟩ := k.ex
  refine ⟨fun W => tCons (t' W) (u' W), fun W tk => pa_cons (h1 W tk) (k1 W tk) hs, fun b σ H ε T Tv W N Q Q' I q z x => ?_⟩
  refine h2 b σ H ε T Tv W N _ _ I q (fun d v ε1 H1 s1 J q1 => ?_) x
  refine k2 b σ H1 ε1 (T ++ [d]) (Tv ++ [v]) W N _ _ J q1 (fun ds vs ε2 H2 s2 J2 l q2 => ?_) (x.more I.lenT rfl)
  exact z (d :: ds) (v :: vs) ε2 H2 (s1.trans s2) (by simpa only [List.append_assoc, List.cons_append, List.nil_append] using J2) (by simp [l]) q2
theorem vq_tup {es : List Expr} {t : VTA} {x1 : Nat} {pos : Pos} (h : VAQ X es t) : VQ X (.Tuple es x1 pos) (vTup t) := by
  obtain ⟨t', h1, h2⟩ := h.ex
  refine ⟨fun W => tTup (t' W), fun W tk => pe_tup (h1 W tk), fun b σ H ε T Tv W N Q Q' I q k x => ?_⟩
  refine h2 b σ H ε T Tv W N _ _ I q (fun ds vs ε1 H1 s1 J l z => ?_) x
  obtain ⟨z1, z⟩ := z
  exact ⟨k1000 (by rw [← l]; exact z1), fun p hp => k _ _ ε1 _ (s1.trans (Sub.laid hp)) (J.tup I.lenT hp) z⟩
theorem vq_lst {es : List Expr} {t : VTA} {pos : Pos} (h : VAQ X es t) : VQ X (.List es pos) (vLst t) := by
  obtain ⟨t', h1, h2⟩ := h.ex
  refine ⟨fun W => tLst (t' W), fun W tk => pe_lst (h1 W tk), fun b σ H ε T Tv W N Q Q' I q k x => ?_⟩
  refine h2 b σ H ε T Tv W N _ _ I q (fun ds vs ε1 H1 s1 J l z => ?_) x
  obtain ⟨z1, z⟩ := z
  exact ⟨k1000 (by rw [← l]; exact z1), fun p hp => k (.lst true ds) _ ε1 _ (s1.trans (Sub.laid hp)) (J.laid I.lenT hp (.lst vs) fun G H' F e r => ⟨p, vs, F, rfl, e, rfl, r⟩) z⟩
theorem OpN.runQ {K : PySem.W.Frag} {r : List V → Hp → VK → Prop} {op : List D → (D → Prop) → Prop} (h : OpN K r op) {b : Bs} {σ : L2.St} {H0 H : Hp} {ε : Ep} {T : List D} {Tv : List V} {ds : List D} {vs : List V} {Q : D → Ep → Prop} {Q' : VK}
    (hl : T.length = Tv.length) (hd : ds.length = vs.length) (s : Sub H0 H) (I : SI K b σ H ε (T ++ ds) (Tv ++ vs)) (q : op ds fun d => Q d ε) (k : ∀ d v ε' H', Sub H0 H' → SI K b σ H' ε' (T ++ [d]) (Tv ++ [v]) → Q d ε' → Q' v H') : r vs H Q' :=
  h b σ H ε T Tv ds vs _ Q' hl hd I q fun d v H' s' J z => k d v _ H' (s.trans s') (SI.midDrops J hl hd) z
def vOpQ (op : List D → (D → Prop) → Prop) (t : VTA) : VTE := fun N ε Q => t N ε fun ds ε1 => op ds fun d => Q d ε1
theorem vq_bin {e1 e2 : Expr} {o : Operator} {ta tb : VTE} {r : R2} {op : List D → (D → Prop) → Prop} {pos : Pos} (ho : OpR X.toCx (binaryOp o) r) (hp : OpN X.K (r2N r) op) (ha : VQ X e1 ta) (hb : VQ X e2 tb) :
    VQ X (.BinOp e1 o e2 pos) (vOpQ op (va2 ta tb)) := by
  obtain ⟨ta', a1, a2⟩ := ha.ex
  obtain ⟨tb', b1, b2⟩ := hb.ex
  refine ⟨fun W => tOp r (ta' W) (tb' W), fun W tk => pe_op ho (a1 W tk) (b1 W tk), fun b σ H ε T Tv W N Q Q' I q k x => ?_⟩
  refine a2 b σ H ε T Tv W N _ _ I q (fun d v ε1 H1 s1 J q1 => ?_) x
  refine b2 b σ H1 ε1 (T ++ [d]) (Tv ++ [v]) W N _ _ J q1 (fun d2 w ε2 H2 s2 J2 q2 => ?_) (x.more I.lenT rfl)
  obtain ⟨v', w', e, z⟩ := hp.runQ (ds := [d, d2]) (vs := [v, w]) I.lenT rfl (s1.trans s2) (by simpa only [List.append_assoc, List.cons_append, List.nil_append] using J2) q2 k
  obtain ⟨rfl, e2⟩ := List.cons.inj e
  obtain ⟨rfl, _⟩ := List.cons.inj e2
  exact z
theorem vq_un {e1 : Expr} {o : UnaryOp} {ta : VTE} {r : V → Hp → VK → Prop} {op : List D → (D → Prop) → Prop} {pos : Pos} (ho : UnR X.toCx (unaryOp o) r) (hp : OpN X.K (r1N r) op) (ha : VQ X e1 ta) : VQ X (.UnaryOp o e1 pos) (vOpQ op (va1 ta)) := by
  obtain ⟨ta', a1, a2⟩ := ha.ex
  refine ⟨fun W => tUn r (ta' W), fun W tk => pe_un ho (a1 W tk), fun b σ H ε T Tv W N Q Q' I q k x => ?_⟩
  refine a2 b σ H ε T Tv W N _ _ I q (fun d v ε1 H1 s1 J q1 => ?_) x
  obtain ⟨v', e, z⟩ := hp.runQ (ds := [d]) (vs := [v]) I.lenT rfl s1 J q1 k
  obtain ⟨rfl, _⟩ := List.cons.inj e
  exact z
abbrev VTP := WV → Ep → (List Stp → Prop) → Prop
structure VP (X : Cv) (e : Expr) (i : Nat) (t : VTP) : Prop where
  ex : ∃ t' : WX → TE, (∀ W, Takes X.toCx W → PE X.toCx e (t' W)) ∧ ∀ (b : Bx X) σ H ε T Tv W N (Q : List Stp → Prop) (Q' : VK), SI X.K b.1 σ H ε T Tv → t N ε Q →
    (∀ p d0 d v0 v H', Sub H H' → SI X.K b.1 σ H' ε T Tv → ε[i]? = some (some d0) → getP d0 p = some d → σ[i]? = some (some v0) → AtP H' d0 v0 p v → Q p → Q' v H') → XL X.K b.1 T Tv W N → t' W σ H Q'
def vpName (i : Nat) : VTP := fun _ ε Q => (∃ d0, ε[i]? = some (some d0)) ∧ Q []
theorem getP_nil (d : D) : getP d [] = some d := by cases d <;> rfl
theorem vp_name {i : Nat} {x : Str} {pos : Pos} (hN : X.N[i]? = some x) (hv : Vis X.env.scope x) (hd : (x == ("__debug__" : Str)) = false := by decide) (hcd : (x == ("__classdict__" : Str)) = false := by decide) : VP X (.Name x pos) i (vpName i) := by
  refine ⟨fun _ => tVar i, fun _ _ => pe_var hN hv hd hcd, fun b σ H ε T Tv W N Q Q' I h k _ => ?_⟩
  obtain ⟨⟨d0, e⟩, q⟩ := h
  obtain ⟨v, hs, J⟩ := I.mov e
  exact ⟨v, hs, k [] d0 d0 v v H Sub.refl I e (getP_nil _) hs .nil q⟩
theorem getP_ix : ∀ {p : List Stp} {d0 : D} {ds : List D} {j : Nat}, getP d0 p = some (.lst true ds) → getP d0 (p ++ [.ix j]) = ds[j]?
  | [], d0, ds, j, h => by
    rw [getP_nil] at h
    cases h
    show (match ds[j]? with | some d => getP d [] | none => none) = ds[j]?
    cases ds[j]? with
    | none => rfl
    | some d => exact getP_nil d
  | .ix k :: p, .lst true es, ds, j, h => by
    have h : (match es[k]? with | some d => getP d p | none => none) = some (.lst true ds) := h
    show (match es[k]? with | some d => getP d (p ++ [.ix j]) | none => none) = ds[j]?
    cases e : es[k]? with
    | none => rw [e] at h; cases h
    | some c => rw [e] at h; exact getP_ix h
  | .fd f :: p, .ins true C fs es, ds, j, h => by
    have h : (match fdIx fs f with | some j => (match es[j]? with | some d => getP d p | none => none) | none => none) = some (.lst true ds) := h
    show (match fdIx fs f with | some k => (match es[k]? with | some d => getP d (p ++ [.ix j]) | none => none) | none => none) = ds[j]?
    cases e : fdIx fs f with
    | none => rw [e] at h; cases h
    | some c =>
      rw [e] at h
      have h : (match es[c]? with | some d => getP d p | none => none) = some (.lst true ds) := h
      show (match es[c]? with | some d => getP d (p ++ [.ix j]) | none => none) = ds[j]?
      cases e2 : es[c]? with
      | none => rw [e2] at h; cases h
      | some c => rw [e2] at h; exact getP_ix h
  | .fd _ :: p, .lst true es, ds, j, h => by cases h
  | .ix _ :: p, .ins true C fs es, ds, j, h => by cases h
  | s :: p, .lst false es, ds, j, h => by cases s <;> cases h
  | s :: p, .ins false C fs es, ds, j, h => by cases s <;> cases h
  | .ix k :: p, .tup es, ds, j, h => by
    have h : (match es[k]? with | some d => getP d p | none => none) = some (.lst true ds) := h
    show (match es[k]? with | some d => getP d (p ++ [.ix j]) | none => none) = ds[j]?
    cases e : es[k]? with
    | none => rw [e] at h; cases h
    | some c => rw [e] at h; exact getP_ix h
  | .fd _ :: p, .tup es, ds, j, h => by cases h
  | s :: p, .hole, ds, j, h => by cases s <;> cases h
  | s :: p, .val _, ds, j, h => by cases s <;> cases h
  | s :: p, .non, ds, j, h => by cases s <;> cases h
  | s :: p, .bl _, ds, j, h => by cases s <;> cases h
  | s :: p, .int _, ds, j, h => by cases s <;> cases h
  | s :: p, .str _, ds, j, h => by cases s <;> cases h
  | s :: p, .ty _, ds, j, h => by cases s <;> cases h
  | s :: p, .pin _ _, ds, j, h => by cases s <;> cases h
  | s :: p, .exn _ _ _ _, ds, j, h => by cases s <;> cases h
  | s :: p, .dK _ _ _, ds, j, h => by cases s <;> cases h
  | s :: p, .dT _ _ _, ds, j, h => by cases s <;> cases h
theorem AtP.ix {H : Hp} {d0 v0 p a ds vs w} {j : Nat} : AtP H d0 v0 p (.ref a) → getP d0 p = some (.lst true ds) → H a = some (.lst vs) → ds.length = vs.length → vs[j]? = some w → AtP H d0 v0 (p ++ [.ix j]) w := by
  intro at_ g ha hl hw
  generalize hv : V.ref a = v at at_
  induction at_ with
  | nil =>
    subst hv
    rw [getP_nil] at g
    cases g
    have hj : j < ds.length := by rw [hl]; exact (List.getElem?_eq_some_iff.mp hw).1
    exact .lst ha (List.getElem?_eq_getElem hj) hl hw .nil
  | lst e1 e2 e3 e4 _ ih =>
    refine .lst e1 e2 e3 e4 (ih ?_ hv)
    rename_i es c a' us k p' w' v' at'
    have g : (match es[k]? with | some d => getP d p' | none => none) = some (.lst true ds) := g
    rw [e2] at g
    exact g
  | tup e1 e2 e3 e4 _ ih =>
    refine .tup e1 e2 e3 e4 (ih ?_ hv)
    rename_i es c a' us k p' w' v' at'
    have g : (match es[k]? with | some d => getP d p' | none => none) = some (.lst true ds) := g
    rw [e2] at g
    exact g
  | ins e1 e2 e3 e4 e5 _ ih =>
    refine .ins e1 e2 e3 e4 e5 (ih ?_ hv)
    rename_i C fs es c a' dx us k f p' w' v' at'
    have g : (match fdIx fs f with | some j => (match es[j]? with | some d => getP d p' | none => none) | none => none) = some (.lst true ds) := g
    rw [e2] at g
    have g : (match es[k]? with | some d => getP d p' | none => none) = some (.lst true ds) := g
    rw [e3] at g
    exact g
end
end VL
namespace VL
open PySem PySem.Spec PyProof.Rows L2 VL
theorem getP_fd : ∀ {p : List Stp} {d0 : D} {C : Addr} {fs : List Cs} {ds : List D} {f : Cs} {j : Nat}, getP d0 p = some (.ins true C fs ds) → fdIx fs f = some j → getP d0 (p ++ [.fd f]) = ds[j]?
  | [], d0, C, fs, ds, f, j, h, hf => by
    rw [getP_nil] at h
    cases h
    show (match fdIx fs f with | some j => (match ds[j]? with | some d => getP d [] | none => none) | none => none) = ds[j]?
    rw [hf]
    show (match ds[j]? with | some d => getP d [] | none => none) = ds[j]?
    cases ds[j]? with
    | none => rfl
    | some d => exact getP_nil d
  | .ix k :: p, .lst true es, C, fs, ds, f, j, h, hf => by
    have h : (match es[k]? with | some d => getP d p | none => none) = some (.ins true C fs ds) := h
    show (match es[k]? with | some d => getP d (p ++ [.fd f]) | none => none) = ds[j]?
    cases e : es[k]? with
    | none => rw [e] at h; cases h
    | some c => rw [e] at h; exact getP_fd h hf
  | .fd g :: p, .ins true C' gs es, C, fs, ds, f, j, h, hf => by
    have h : (match fdIx gs g with | some j => (match es[j]? with | some d => getP d p | none => none) | none => none) = some (.ins true C fs ds) := h
    show (match fdIx gs g with | some k => (match es[k]? with | some d => getP d (p ++ [.fd f]) | none => none) | none => none) = ds[j]?
    cases e : fdIx gs g with
    | none => rw [e] at h; cases h
    | some c =>
      rw [e] at h
      have h : (match es[c]? with | some d => getP d p | none => none) = some (.ins true C fs ds) := h
      show (match es[c]? with | some d => getP d (p ++ [.fd f]) | none => none) = ds[j]?
      cases e2 : es[c]? with
      | none => rw [e2] at h; cases h
      | some c => rw [e2] at h; exact getP_fd h hf
  | .fd _ :: p, .lst true es, C, fs, ds, f, j, h, hf => by cases h
  | .ix _ :: p, .ins true C' gs es, C, fs, ds, f, j, h, hf => by cases h
  | s :: p, .lst false es, C, fs, ds, f, j, h, hf => by cases s <;> cases h
  | s :: p, .ins false _ _ _, C, fs, ds, f, j, h, hf => by cases s <;> cases h
  | .ix k :: p, .tup es, C, fs, ds, f, j, h, hf => by
    have h : (match es[k]? with | some d => getP d p | none => none) = some (.ins true C fs ds) := h
    show (match es[k]? with | some d => getP d (p ++ [.fd f]) | none => none) = ds[j]?
    cases e : es[k]? with
    | none => rw [e] at h; cases h
    | some c => rw [e] at h; exact getP_fd h hf
  | .fd _ :: p, .tup es, C, fs, ds, f, j, h, hf => by cases h
  | s :: p, .hole, C, fs, ds, f, j, h, hf => by cases s <;> cases h
  | s :: p, .val _, C, fs, ds, f, j, h, hf => by cases s <;> cases h
  | s :: p, .non, C, fs, ds, f, j, h, hf => by cases s <;> cases h
  | s :: p, .bl _, C, fs, ds, f, j, h, hf => by cases s <;> cases h
  | s :: p, .int _, C, fs, ds, f, j, h, hf => by cases s <;> cases h
  | s :: p, .str _, C, fs, ds, f, j, h, hf => by cases s <;> cases h
  | s :: p, .ty _, C, fs, ds, f, j, h, hf => by cases s <;> cases h
  | s :: p, .pin _ _, C, fs, ds, f, j, h, hf => by cases s <;> cases h
  | s :: p, .exn _ _ _ _, C, fs, ds, f, j, h, hf => by cases s <;> cases h
  | s :: p, .dK _ _ _, C, fs, ds, f, j, h, hf => by cases s <;> cases h
  | s :: p, .dT _ _ _, C, fs, ds, f, j, h, hf => by cases s <;> cases h
theorem AtP.fd {H : Hp} {d0 v0 p a dx C C2 fs ds vs w f} {j : Nat} : AtP H d0 v0 p (.ref a) → getP d0 p = some (.ins true C fs ds) → H a = some (.ins C2 dx (fzip fs vs)) → fdIx fs f = some j → fs.length = vs.length → ds.length = vs.length → vs[j]? = some w → AtP H d0 v0 (p ++ [.fd f]) w := by
  intro at_ g ha hf hl hd hw
  generalize hv : V.ref a = v at at_
  induction at_ with
  | nil =>
    subst hv
    rw [getP_nil] at g
    cases g
    have hj : j < ds.length := by rw [hd]; exact (List.getElem?_eq_some_iff.mp hw).1
    exact .ins ha hf (List.getElem?_eq_getElem hj) hl hw .nil
  | lst e1 e2 e3 e4 _ ih =>
    refine .lst e1 e2 e3 e4 (ih ?_ hv)
    rename_i es c a' us k p' w' v' at'
    have g : (match es[k]? with | some d => getP d p' | none => none) = some (.ins true C fs ds) := g
    rw [e2] at g
    exact g
  | tup e1 e2 e3 e4 _ ih =>
    refine .tup e1 e2 e3 e4 (ih ?_ hv)
    rename_i es c a' us k p' w' v' at'
    have g : (match es[k]? with | some d => getP d p' | none => none) = some (.ins true C fs ds) := g
    rw [e2] at g
    exact g
  | ins e1 e2 e3 e4 e5 _ ih =>
    refine .ins e1 e2 e3 e4 e5 (ih ?_ hv)
    rename_i C' C3 gs es c a' dx' us k f' p' w' v' at'
    have g : (match fdIx gs f' with | some j => (match es[j]? with | some d => getP d p' | none => none) | none => none) = some (.ins true C fs ds) := g
    rw [e2] at g
    have g : (match es[k]? with | some d => getP d p' | none => none) = some (.ins true C fs ds) := g
    rw [e3] at g
    exact g
section
variable {K : PySem.W.Frag} {b : Bs} {σ : L2.St} {H : Hp} {ε : Ep} {T R : List D} {Tv Rv : List V}
/-- the node at a place, where its address is known -/
theorem SI.focusAt (I : SI K b σ H ε (T ++ R) (Tv ++ Rv)) (hl : T.length = Tv.length) {i : Nat} {d0 d : D} {p : List Stp} {v0 v : V} (e : ε[i]? = some (some d0)) (g : getP d0 p = some d) (hs : σ[i]? = some (some v0)) (at_ : AtP H d0 v0 p v) :
    ∃ G B FR, Sub G H ∧ Rp K G H d v B ∧ RpL K G H R Rv FR ∧ (B ++ FR).Nodup ∧ (∀ a ∈ B ++ FR, G a = none) ∧
      ∀ H' d' B' res w Fr, (∀ a, a ∉ B → H' a = H a) → Rp K G H' d' v B' → Rp K G H' res w Fr → (B ≠ [] ∨ B' = []) → (∃ L, (B' ++ (Fr ++ L)).Perm (B ++ FR)) → SI K b σ H' (ε.set i (some (setP d0 p d'))) (T ++ [res]) (Tv ++ [w]) := by
  obtain ⟨v0', v', G, B, FR, hs', at', su, r, rr, nd, fr, back⟩ := I.focus hl e g
  rw [hs] at hs'
  cases hs'
  have := at_.uniq at'
  subst this
  exact ⟨G, B, FR, su, r, rr, nd, fr, back⟩
theorem SI.nil0 (I : SI K b σ H ε T Tv) : SI K b σ H ε (T ++ []) (Tv ++ []) := by simpa using I
end
theorem ixN_lt {n : Nat} {i : Int} {j : Nat} (h : ixN n i = some j) : j < n := (ixN_seq h).2.1
section
variable {X : Cv}
/-- a step into a list that is ours -/
def vpIx (i : Nat) (t : VTP) (ti : VTE) : VTP := fun N ε Q => t N ε fun p => ti N ε fun k ε2 => ε2 = ε ∧ ∃ d0 ds z j, ε[i]? = some (some d0) ∧ getP d0 p = some (.lst true ds) ∧ k = .int z ∧ ixN ds.length z = some j ∧ Q (p ++ [.ix j])
theorem vp_ix {e idx : Expr} {i : Nat} {t : VTP} {ti : VTE} {pos : Pos} (h : VP X e i t) (hi : VQ X idx ti) (hs : PlainIx idx) : VP X (.Subscript e idx pos) i (vpIx i t ti) := by
  obtain ⟨t', a1, a2⟩ := h.ex
  obtain ⟨u', b1, b2⟩ := hi.ex
  refine ⟨fun W => tOp (rIxL X.K) (t' W) (u' W), fun W tk => pe_ix ix_list (a1 W tk) (b1 W tk) hs, fun b σ H ε T Tv W N Q Q' I q k x => ?_⟩
  refine a2 b σ H ε T Tv W N _ _ I q (fun p d0 d v0 v H1 s1 I1 e g hs at_ q1 => ?_) x
  refine b2 b σ H1 ε T Tv W N _ _ I1 q1 (fun dk vk ε2 H2 s2 I2 q2 => ?_) x
  obtain ⟨rfl, d0', ds, z, j, e', g', rfl, hj, q2⟩ := q2
  rw [e] at e'
  cases e'
  obtain ⟨_, _, _, rfl, _⟩ := I2.last I.lenT
  have I3 := I2.pop I.lenT
  have at2 := at_.grow s2
  obtain ⟨G, B, FR, su, r, _⟩ := I3.nil0.focusAt I.lenT e g' hs at2
  obtain ⟨a, vs, F', rfl, ha, rfl, rl⟩ := r
  have hl := rl.len
  have hj2 := ixN_lt hj
  obtain ⟨w, hw⟩ : ∃ w, vs[j]? = some w := ⟨vs[j]'(by omega), List.getElem?_eq_getElem (by omega)⟩
  refine ⟨a, vs, z, w, rfl, rfl, SqL.of ha, ?_, ?_⟩
  · unfold atI
    rw [← hl, hj]
    exact hw
  · exact k (p ++ [.ix j]) d0 (ds[j]'hj2) v0 w H2 (s1.trans s2) I3 e (by rw [getP_ix g']; exact List.getElem?_eq_getElem hj2) hs (at2.ix g' ha hl hw) q2
/-- what stands at a place, taken out of it -/
def vTake (i : Nat) (t : VTP) : VTE := fun N ε Q => t N ε fun p => ∃ d0 d, ε[i]? = some (some d0) ∧ getP d0 p = some d ∧ Q d (ε.set i (some (setP d0 p .hole)))
theorem ve_take {e : Expr} {i : Nat} {t : VTP} (h : VP X e i t) : VE X e (vTake i t) := by
  obtain ⟨t', a1, a2⟩ := h.ex
  refine ⟨t', a1, fun b σ H ε T Tv W N Q Q' I q k x => ?_⟩
  refine a2 b σ H ε T Tv W N _ _ I q (fun p d0 d v0 v H1 s1 I1 e g hs at_ q1 => ?_) x
  obtain ⟨d0', d', e', g', q1⟩ := q1
  rw [e] at e'
  cases e'
  rw [g] at g'
  cases g'
  obtain ⟨G, B, FR, su, r, rr, nd, fr, back⟩ := I1.nil0.focusAt I.lenT e g hs at_
  obtain ⟨_, rfl⟩ := rr
  exact k d v _ H1 (back H1 .hole [] d v B (fun _ _ => rfl) rfl r (.inr rfl) ⟨[], by simp⟩) q1
/-- a step into a field of an instance that is ours -/
def vpFd (i : Nat) (C : Addr) (f : Cs) (t : VTP) : VTP := fun N ε Q => t N ε fun p => ∃ d0 fs ds j, ε[i]? = some (some d0) ∧ getP d0 p = some (.ins true C fs ds) ∧ fdIx fs f = some j ∧ j < ds.length ∧ Q (p ++ [.fd f])
theorem vp_fd {e : Expr} {i : Nat} {t : VTP} {x : Str} {f : Cs} {C : Addr} {pos : Pos} (h : VP X e i t) (cl : Cls X.K (cA X.K C)) (na : NoAttr X.K (cA X.K C) x) (hx : x = toS f) (hb : attributeBase e x X.env (eval e X.env) = eval e X.env := by rfl) : VP X (.Attribute e x pos) i (vpFd i C f t) := by
  obtain ⟨t', a1, a2⟩ := h.ex
  refine ⟨fun W => tFld X.K (t' W) x, fun W tk => pe_fld (a1 W tk) hb, fun b σ H ε T Tv W N Q Q' I q k xx => ?_⟩
  refine a2 b σ H ε T Tv W N _ _ I q (fun p d0 d v0 v H1 s1 I1 e g hs at_ q1 => ?_) xx
  obtain ⟨d0', fs, ds, j, e', g', hf, hj, q1⟩ := q1
  rw [e] at e'
  cases e'
  obtain ⟨G, B, FR, su, r, _⟩ := I1.nil0.focusAt I.lenT e g' hs at_
  obtain ⟨a, dx, vs, F', rfl, ha, rfl, hl, rl⟩ := r
  have hl2 := rl.len
  obtain ⟨w, hw⟩ : ∃ w, vs[j]? = some w := ⟨vs[j]'(by omega), List.getElem?_eq_getElem (by omega)⟩
  refine ⟨a, cA X.K C, dx, _, w, rfl, ha, cl, na, ?_, ?_⟩
  · rw [hx]
    exact fzip_look hf hw (hl.trans hl2)
  · exact k (p ++ [.fd f]) d0 (ds[j]'hj) v0 w H1 s1 I1 e (by rw [getP_fd g' hf]; exact List.getElem?_eq_getElem hj) hs (at_.fd g' ha hf (hl.trans hl2) hl2 hw) q1
/-- what stands at a place and stands still, read -/
def vAt (i : Nat) (t : VTP) : VTE := fun N ε Q => t N ε fun p => ∃ d0 d, ε[i]? = some (some d0) ∧ getP d0 p = some d ∧ isFz d = true ∧ Q d ε
theorem vq_at {e : Expr} {i : Nat} {t : VTP} (h : VP X e i t) : VQ X e (vAt i t) := by
  obtain ⟨t', a1, a2⟩ := h.ex
  refine ⟨t', a1, fun b σ H ε T Tv W N Q Q' I q k x => ?_⟩
  refine a2 b σ H ε T Tv W N _ _ I q (fun p d0 d v0 v H1 s1 I1 e g hs at_ q1 => ?_) x
  obtain ⟨d0', d', e', g', hz, q1⟩ := q1
  rw [e] at e'
  cases e'
  rw [g] at g'
  cases g'
  obtain ⟨v0', v', G, B, FR, hs', at', su, r, _⟩ := I1.nil0.focus I.lenT e g
  rw [hs] at hs'
  cases hs'
  have := at_.uniq at'
  subst this
  refine k d v ε H1 s1 ?_ q1
  obtain ⟨G, F, Ft, J⟩ := I1
  obtain ⟨ov, A0, B0, C0, hs2, eF, ro, _⟩ := J.slots.focus e
  obtain ⟨v0', rfl, r0⟩ := ro
  rw [hs] at hs2
  cases hs2
  obtain ⟨v2, A, B2, C, eB, rv, at2, _⟩ := r0.focusP J.sub g
  have := at_.uniq at2
  subst this
  have e2 := rv.fz hz
  subst e2
  exact ⟨G, F, Ft, J.push rv⟩
theorem pa_list : PlainAttrs "list" := PySem.F.plainAttrs_list
theorem k1m {n : Nat} (h : n < 1000000) : n < sizeLine := Nat.lt_trans h (by decide)
/-- a method that changes a list: the items and the arguments give the new items and the answer -/
def MutOk (K : PySem.W.Frag) (r : V → List V → Hp → VK → Prop) (mu : List D → List D → Option (List D × D)) : Prop :=
  ∀ (G H : Hp) (a : Addr) (ds : List D) (vs : List V) (F : List Addr) (R : List D) (Rv : List V) (FR : List Addr) (ds' : List D) (res : D) (Q : VK), Sub G H → H a = some (.lst vs) → RpL K G H ds vs F → RpL K G H R Rv FR → (a :: (F ++ FR)).Nodup → G a = none → mu ds R = some (ds', res) →
    (∀ vs' w F' Fr, RpL K G H ds' vs' F' → Rp K G H res w Fr → (∃ L, (F' ++ (Fr ++ L)).Perm (F ++ FR)) → Q w (upd H a (.lst vs'))) → r (.ref a) Rv H Q
def vMut (mu : List D → List D → Option (List D × D)) (i : Nat) (t : VTP) (te : VTA) : VTE := fun N ε Q => t N ε fun p => ∃ d0 ds, ε[i]? = some (some d0) ∧ getP d0 p = some (.lst true ds) ∧ te N ε fun es ε1 => ∃ ds' res, ε1[i]? = some (some d0) ∧ mu ds es = some (ds', res) ∧ Q res (ε1.set i (some (setP d0 p (.lst true ds'))))
theorem mut_run {K : PySem.W.Frag} {b : Bs} {σ : L2.St} {H : Hp} {ε : Ep} {T R : List D} {Tv Rv : List V} {r : V → List V → Hp → VK → Prop} {mu : List D → List D → Option (List D × D)} (m : MutOk K r mu) (I : SI K b σ H ε (T ++ R) (Tv ++ Rv)) (hl : T.length = Tv.length) {i : Nat} {d0 : D} {p : List Stp} {v0 v : V} {ds ds' : List D} {res : D} {Q : VK}
    (e : ε[i]? = some (some d0)) (g : getP d0 p = some (.lst true ds)) (hs : σ[i]? = some (some v0)) (at_ : AtP H d0 v0 p v) (hm : mu ds R = some (ds', res))
    (k : ∀ w H', SI K b σ H' (ε.set i (some (setP d0 p (.lst true ds')))) (T ++ [res]) (Tv ++ [w]) → Q w H') : r v Rv H Q := by
  obtain ⟨G, B, FR, su, rr, rR, nd, fr, back⟩ := I.focusAt hl e g hs at_
  obtain ⟨a, vs, F', rfl, ha, rfl, rl⟩ := rr
  have nd2 : (a :: (F' ++ FR)).Nodup := nd
  refine m G H a ds vs F' R Rv FR ds' res Q su ha rl rR nd2 (fr a (by simp)) hm fun vs' w F2 Fr q1 q2 sp => ?_
  obtain ⟨L, sp⟩ := sp
  have na : ∀ c ∈ F2 ++ (Fr ++ L), c ≠ a := fun c hc z => (List.nodup_cons.mp nd2).1 (z ▸ sp.mem_iff.mp hc)
  have mv : ∀ c ∈ F2 ++ (Fr ++ L), upd H a (.lst vs') c = H c := fun c hc => upd_ne (na c hc)
  refine k w _ (back (upd H a (.lst vs')) (.lst true ds') (a :: F2) res w Fr (fun c hc => upd_ne fun z => hc (by rw [z]; simp)) ⟨a, vs', F2, rfl, upd_same, rfl, q1.mono Sub.refl fun c hc => mv c (List.mem_append_left _ hc)⟩ (q2.mono Sub.refl fun c hc => mv c (List.mem_append_right _ (List.mem_append_left _ hc))) (.inl (by simp)) ⟨L, ?_⟩)
  exact List.Perm.cons a sp
theorem tyV_list {K : PySem.W.Frag} {b : Bs} {σ : L2.St} {H : Hp} {ε : Ep} {T : List D} {Tv : List V} (I : SI K b σ H ε T Tv) {i : Nat} {d0 : D} {p : List Stp} {v0 v : V} {ds : List D} (e : ε[i]? = some (some d0)) (g : getP d0 p = some (.lst true ds)) (hs : σ[i]? = some (some v0)) (at_ : AtP H d0 v0 p v) : tyV K "list" v H := by
  obtain ⟨G, B, FR, su, rr, _⟩ := I.nil0.focusAt I.lenT e g hs at_
  obtain ⟨a, vs, F', rfl, ha, _⟩ := rr
  exact Or.inl ⟨rfl, vs, SqL.of ha⟩
theorem ve_mut {o e : Expr} {es : List Expr} {i : Nat} {t : VTP} {te : VTA} {name : Str} {id : String} {r : V → List V → Hp → VK → Prop} {mu : List D → List D → Option (List D × D)} {apos cpos : Pos} (h : VP X o i t) (he : VAQ X (e :: es) te) (m : MutOk X.K r mu) (sl : Slot "list" name id) (ty : typeOf (.builtin id) = pure (.type "method_descriptor")) (mt : MtR X.toCx id r)
    (hbase : attributeBase o name X.env (eval o X.env) = eval o X.env := by rfl)
    (hfew : ((backTo cpos (starEach (e :: es) X.env)).all (fun x => !x.1) && (backToKw cpos (keywordEach [] X.env)).all (fun x => x.1.isSome) && decide ((e :: es).length + ([] : List Keyword).length + (if ([] : List Keyword).isEmpty then 0 else 1) < 30)) = true := by rfl)
    (hline : (apos.endLine == cpos.line) = true := by rfl) (hs : starEach (e :: es) X.env = (false, eval e X.env) :: starEach es X.env := by rfl) (hplain : (backTo cpos (starEach es X.env)).any (·.1) = false := by rfl) :
    VE X (.Call (.Attribute o name apos) (e :: es) [] cpos) (vMut mu i t te) := by
  obtain ⟨t', a1, a2⟩ := h.ex
  obtain ⟨u', b1, b2⟩ := he.ex
  refine ⟨fun W => tBM X.K "list" r (t' W) (u' W), fun W tk => pe_bm pa_list sl ty mt (a1 W tk) (b1 W tk) hbase hfew hline hs hplain, fun b σ H ε T Tv W N Q Q' I q k x => ?_⟩
  refine a2 b σ H ε T Tv W N _ _ I q (fun p d0 d v0 v H1 s1 I1 e0 g hs at_ q1 => ?_) x
  obtain ⟨d0', ds, e1, g', q1⟩ := q1
  rw [e0] at e1
  cases e1
  refine ⟨tyV_list I1 e0 g' hs at_, b2 b σ H1 ε T Tv W N _ _ I1 q1 (fun ys ws ε2 H2 s2 I2 l q2 => ?_) x⟩
  obtain ⟨ds', res, e2, hm, q2⟩ := q2
  exact mut_run m I2 I.lenT e2 g' hs (at_.grow s2) hm fun w H' J => k res w _ H' J q2
/-- without arguments -/
theorem ve_mut0 {o : Expr} {i : Nat} {t : VTP} {name : Str} {id : String} {r : V → List V → Hp → VK → Prop} {mu : List D → List D → Option (List D × D)} {apos cpos : Pos} (h : VP X o i t) (m : MutOk X.K r mu) (sl : Slot "list" name id) (ty : typeOf (.builtin id) = pure (.type "method_descriptor")) (mt : MtR X.toCx id r)
    (hbase : attributeBase o name X.env (eval o X.env) = eval o X.env := by rfl) (hline : (apos.endLine == cpos.line) = true := by rfl) :
    VE X (.Call (.Attribute o name apos) [] [] cpos) (vMut mu i t vaNil) := by
  obtain ⟨t', a1, a2⟩ := h.ex
  refine ⟨fun W => tBM0 X.K "list" r (t' W), fun W tk => pe_bm0 pa_list sl ty mt (a1 W tk) hbase hline, fun b σ H ε T Tv W N Q Q' I q k x => ?_⟩
  refine a2 b σ H ε T Tv W N _ _ I q (fun p d0 d v0 v H1 s1 I1 e0 g hs at_ q1 => ?_) x
  obtain ⟨d0', ds, e1, g', ds', res, e2, hm, q2⟩ := q1
  rw [e0] at e1
  cases e1
  exact ⟨tyV_list I1 e0 g' hs at_, mut_run m I1.nil0 I.lenT e0 g' hs at_ hm fun w H' J => k res w _ H' J q2⟩
/-- x.append(e) and its like, x a name, e anything -/
def vMutN (mu : List D → List D → Option (List D × D)) (i : Nat) (te : VTA) : VTE := fun N ε Q => (∃ ds, ε[i]? = some (some (.lst true ds))) ∧ te N ε fun es ε1 => ∃ ds ds' res, ε1[i]? = some (some (.lst true ds)) ∧ mu ds es = some (ds', res) ∧ Q res (ε1.set i (some (.lst true ds')))
theorem ve_mutN {y : Str} {opos : Pos} {e : Expr} {es : List Expr} {i : Nat} {rs : List (Option Nat)} {te : VTA} {name : Str} {id : String} {r : V → List V → Hp → VK → Prop} {mu : List D → List D → Option (List D × D)} {apos cpos : Pos} (hN : X.N[i]? = some y) (hv : Vis X.env.scope y) (he : VA X (e :: es) rs te) (hrs : rs.all (· == none) = true) (m : MutOk X.K r mu) (sl : Slot "list" name id) (ty : typeOf (.builtin id) = pure (.type "method_descriptor")) (mt : MtR X.toCx id r)
    (hd : (y == ("__debug__" : Str)) = false := by decide) (hcd : (y == ("__classdict__" : Str)) = false := by decide)
    (hbase : attributeBase (.Name y opos) name X.env (eval (.Name y opos) X.env) = eval (.Name y opos) X.env := by rfl)
    (hfew : ((backTo cpos (starEach (e :: es) X.env)).all (fun x => !x.1) && (backToKw cpos (keywordEach [] X.env)).all (fun x => x.1.isSome) && decide ((e :: es).length + ([] : List Keyword).length + (if ([] : List Keyword).isEmpty then 0 else 1) < 30)) = true := by rfl)
    (hline : (apos.endLine == cpos.line) = true := by rfl) (hs : starEach (e :: es) X.env = (false, eval e X.env) :: starEach es X.env := by rfl) (hplain : (backTo cpos (starEach es X.env)).any (·.1) = false := by rfl) :
    VE X (.Call (.Attribute (.Name y opos) name apos) (e :: es) [] cpos) (vMutN mu i te) := by
  obtain ⟨u', b1, b2⟩ := he.ex
  refine ⟨fun W => tBM X.K "list" r (tVar i) (u' W), fun W tk => pe_bm pa_list sl ty mt (pe_var hN hv hd hcd) (b1 W tk) hbase hfew hline hs hplain, fun b σ H ε T Tv W N Q Q' I q k x => ?_⟩
  obtain ⟨⟨ds0, e0⟩, q⟩ := q
  obtain ⟨v, hs, _⟩ := I.mov e0
  refine ⟨v, hs, tyV_list I e0 (getP_nil _) hs .nil, b2 b σ H ε T Tv W N _ _ I q (fun ys ws ε2 H2 I2 l hh q2 => ?_) x⟩
  obtain ⟨ds, ds', res, e2, hm, q2⟩ := q2
  exact mut_run m I2 I.lenT e2 (getP_nil _) hs .nil hm fun w H' J => k res w _ H' J q2
def muAppend : List D → List D → Option (List D × D) := fun ds es => match es with | [y] => if ds.length < 1000000 then some (ds ++ [y], .non) else none | _ => none
def muPop : List D → List D → Option (List D × D) := fun ds es => match es with | [] => (ds[ds.length - 1]?).map fun y => (ds.dropLast, y) | _ => none
def muClear : List D → List D → Option (List D × D) := fun _ es => match es with | [] => some ([], .non) | _ => none
theorem mu_append {K : PySem.W.Frag} : MutOk K rAppend muAppend := by
  intro G H a ds vs F R Rv FR ds' res Q su ha rl rR nd ga hm k
  match R, hm with
  | [y], hm =>
    have hm : (if ds.length < 1000000 then some (ds ++ [y], D.non) else none) = some (ds', res) := hm
    by_cases hz : ds.length < 1000000
    · rw [if_pos hz] at hm
      cases hm
      obtain ⟨w, rfl, rw_⟩ := rR.one'
      exact ⟨a, vs, w, rfl, rfl, ha, k1m (by rw [← rl.len]; exact hz), k _ _ _ [] (rl.append rR) ⟨rfl, rfl⟩ ⟨[], by simp⟩⟩
    · rw [if_neg hz] at hm; cases hm
theorem mu_clear {K : PySem.W.Frag} : MutOk K rClear muClear := by
  intro G H a ds vs F R Rv FR ds' res Q su ha rl rR nd ga hm k
  match R, hm with
  | [], hm =>
    cases hm
    obtain ⟨rfl, rfl⟩ := rR
    exact ⟨a, vs, rfl, rfl, ha, k [] .non [] [] ⟨rfl, rfl⟩ ⟨rfl, rfl⟩ ⟨F, by simp⟩⟩
theorem mu_pop {K : PySem.W.Frag} : MutOk K rPop muPop := by
  intro G H a ds vs F R Rv FR ds' res Q su ha rl rR nd ga hm k
  match R, hm with
  | [], hm =>
    have hm : (ds[ds.length - 1]?).map (fun y => (ds.dropLast, y)) = some (ds', res) := hm
    obtain ⟨rfl, rfl⟩ := rR
    cases e : ds[ds.length - 1]? with
    | none => rw [e] at hm; cases hm
    | some y =>
      rw [e] at hm
      cases hm
      have hne : ds ≠ [] := fun z => by subst z; cases e
      have e2 : ds = ds.dropLast ++ [res] := by
        have h1 := List.dropLast_concat_getLast hne
        have h2 : ds.getLast hne = res := by
          rw [List.getLast_eq_getElem]
          have := List.getElem?_eq_some_iff.mp e
          exact this.2
        rw [h2] at h1
        exact h1.symm
      have rl2 := rl
      rw [e2] at rl2
      obtain ⟨us, ws, F1, F2, rfl, rfl, r1, r2⟩ := RpL.split rl2
      obtain ⟨w, rfl, rw_⟩ := r2.one'
      refine ⟨a, us ++ [w], w, rfl, rfl, ha, by simp, ?_⟩
      rw [List.dropLast_concat]
      have e3 : (ds.dropLast ++ [res]).dropLast = ds.dropLast := List.dropLast_concat
      exact k us w F1 F2 r1 rw_ ⟨[], by simp⟩
end
end VL
namespace VL
open PySem PySem.Spec PyProof.Rows L2 VL
/-- a[i] = v, of a list or a dict -/
def rSetAny : V → V → V → Hp → (Hp → Prop) → Prop := fun o i v H Q => rSetL o i v H Q ∨ ∃ a H4, o = .ref a ∧ DPut H a i v H4 ∧ Q H4
theorem pset_any {X : Cx} (hu : X.A.units + 1 < cLine) : PSet X rSetAny := by
  intro pins s σ H o i v ov iv u Q I ro ri rv h
  rcases h with h | ⟨a, H4, rfl, g, q⟩
  · exact set_list pins s σ H o i v ov iv u Q I ro ri rv h
  · obtain rfl : ov = Value.ref a := ro
    exact d_setItem hu I g ri rv fun s4 I4 => ⟨H4, I4, q⟩
theorem RpL.setAt {K : PySem.W.Frag} {G H : Hp} {ds : List D} {vs : List V} {F : List Addr} {j : Nat} {y : D} {w : V} {Fy : List Addr} (r : RpL K G H ds vs F) (hj : j < ds.length) (ry : Rp K G H y w Fy) : ∃ F', RpL K G H (ds.set j y) (vs.set j w) F' ∧ ∃ L, (F' ++ L).Perm (F ++ Fy) := by
  obtain ⟨v, A, B, C, hv, rfl, rv, back⟩ := r.focus (i := j) (List.getElem?_eq_getElem hj)
  refine ⟨A ++ Fy ++ C, back G H y w Fy Sub.refl (fun _ _ => rfl) ry, B, ?_⟩
  apply List.perm_iff_count.mpr
  intro a
  simp only [List.count_append]
  omega
section
variable {K : PySem.W.Frag} {b : Bs} {σ : L2.St} {H : Hp} {ε : Ep} {T : List D} {Tv : List V} {y k : D} {w kv : V}
theorem idx_nodup {α : Type} [DecidableEq α] : ∀ {ks : List α} {k : α}, kIx ks k = none → ks.Nodup → (ks ++ [k]).Nodup
  | ks, k, h, n => by
    have : ∀ {ks : List α}, kIx ks k = none → k ∉ ks := by
      intro ks
      induction ks with
      | nil => intro _; simp
      | cons a ks ih =>
        intro h
        unfold kIx at h
        split at h
        · cases h
        · rename_i na
          cases e : kIx ks k with
          | some i => rw [e] at h; cases h
          | none =>
            intro hm
            rcases List.mem_cons.mp hm with z | z
            · exact na z.symm
            · exact ih e z
    refine List.nodup_append.mpr ⟨n, by simp, fun a ha c hc e => ?_⟩
    have hc : c = k := by simpa using hc
    subst hc e
    exact this h ha
/-- a store runs -/
theorem put_run (I : SI K b σ H ε (T ++ [y, k]) (Tv ++ [w, kv])) (hl : T.length = Tv.length) {i : Nat} {d0 c c' : D} {p : List Stp} {v0 v : V} {Q : Hp → Prop}
    (e : ε[i]? = some (some d0)) (g : getP d0 p = some c) (hs : σ[i]? = some (some v0)) (at_ : AtP H d0 v0 p v) (hm : putD c k y = some c')
    (q : ∀ H', SI K b σ H' (ε.set i (some (setP d0 p c'))) T Tv → Q H') : rSetAny v kv w H Q := by
  obtain ⟨G, B, FR, su, rr, rR, nd, fr, back⟩ := I.focusAt hl e g hs at_
  obtain ⟨w', vs1, Fy, A2, e1, rfl, ry, k', vs2, Fk, A3, e2, rfl, rk, rfl, rfl⟩ := rR
  cases e1
  cases e2
  -- the new node at a
  have fin : ∀ (a : Addr) (F' : List Addr) (o : HO) (F2 : List Addr), B = a :: F' → (∀ H', H' a = some o → (∀ z ∈ F2, H' z = H z) → Rp K G H' c' v (a :: F2)) → (∃ L, (F2 ++ L).Perm (F' ++ Fy)) → SI K b σ (upd H a o) (ε.set i (some (setP d0 p c'))) T Tv := by
    intro a F' o F2 eB mk sp
    subst eB
    obtain ⟨L, sp⟩ := sp
    have nd2 : (a :: (F' ++ (Fy ++ (Fk ++ [])))).Nodup := nd
    have na : ∀ z ∈ F2, z ≠ a := fun z hz e => by
      have h1 : z ∈ F' ++ Fy := sp.mem_iff.mp (List.mem_append_left _ hz)
      refine (List.nodup_cons.mp nd2).1 (e ▸ ?_)
      simp only [List.mem_append] at h1 ⊢
      grind
    have J := back (upd H a o) c' (a :: F2) .non .non [] (fun z hz => upd_ne fun e => hz (by rw [e]; simp)) (mk _ upd_same fun z hz => upd_ne (na z hz)) ⟨rfl, rfl⟩ (.inl (by simp)) ⟨L ++ Fk, ?_⟩
    · exact J.drop hl
    · apply List.perm_iff_count.mpr
      intro z
      have := sp.count_eq z
      simp only [List.count_append, List.count_cons, List.cons_append, List.nil_append, List.count_nil] at this ⊢
      omega
  have growF : ∀ {A L Fy' : List Addr}, (A ++ L).Perm (Fy' ++ Fy) → ∃ L, (A ++ L).Perm (Fy' ++ Fy) := fun h => ⟨_, h⟩
  cases c with
  | lst m ds =>
    cases m with
    | false => cases hm
    | true =>
      cases k with
      | int kk =>
        obtain ⟨rfl, rfl⟩ := rk
        have hm : (ixN ds.length kk).map (fun j => D.lst true (ds.set j y)) = some c' := hm
        cases hj : ixN ds.length kk with
        | none => rw [hj] at hm; cases hm
        | some j =>
          rw [hj] at hm
          cases hm
          obtain ⟨a, vs, F', rfl, ha, rfl, rl⟩ := rr
          have hlt := ixN_lt hj
          obtain ⟨F2, r2, sp⟩ := rl.setAt hlt ry
          exact .inl ⟨a, vs, kk, j, rfl, rfl, ha, by rw [← rl.len]; exact hj, q _ (fin a F' _ F2 rfl (fun H' h1 h2 => ⟨a, _, F2, rfl, h1, rfl, r2.mono Sub.refl h2⟩) sp)⟩
      | _ => cases hm
  | pin u c1 =>
    cases c1 with
    | lst m ds =>
      cases m with
      | false => cases hm
      | true =>
        cases k with
        | int kk =>
          obtain ⟨rfl, rfl⟩ := rk
          have hm : (ixN ds.length kk).map (fun j => D.pin u (.lst true (ds.set j y))) = some c' := hm
          cases hj : ixN ds.length kk with
          | none => rw [hj] at hm; cases hm
          | some j =>
            rw [hj] at hm
            cases hm
            obtain ⟨rfl, a, vs, F', rfl, ha, rfl, rl⟩ := rr
            have hlt := ixN_lt hj
            obtain ⟨F2, r2, sp⟩ := rl.setAt hlt ry
            exact .inl ⟨a, vs, kk, j, rfl, rfl, ha, by rw [← rl.len]; exact hj, q _ (fin a F' _ F2 rfl (fun H' h1 h2 => ⟨rfl, a, _, F2, rfl, h1, rfl, r2.mono Sub.refl h2⟩) sp)⟩
        | _ => cases hm
    | _ => cases hm
  | dK m ks ds =>
    cases m with
    | false => cases hm
    | true =>
      have hm : (if ds.length < 1000000 then (keyD k).map fun k => (match kIx ks k with | some j => D.dK true ks (ds.set j y) | none => D.dK true (ks ++ [k]) (ds ++ [y])) else none) = some c' := hm
      by_cases hz : ds.length < 1000000
      · rw [if_pos hz] at hm
        cases hk : keyD k with
        | none => rw [hk] at hm; cases hm
        | some kc0 =>
          rw [hk] at hm
          obtain ⟨a, vs, F', rfl, ha, rfl, l1, n1, rl⟩ := rr
          obtain ⟨rfl, rfl⟩ := rk.keyD hk
          have l2 : ks.length = vs.length := l1.trans rl.len
          refine .inr ⟨a, _, rfl, DPut.k ha (k1m (by unfold kzip; rw [List.length_zip, List.length_map, l2, Nat.min_self, ← rl.len]; exact hz)), ?_⟩
          rw [kzip_put n1 l2]
          cases hi : kIx ks kc0 with
          | some j =>
            have hm : some (D.dK true ks (ds.set j y)) = some c' := by rw [← hm, Option.map_some, hi]
            cases hm
            have hlt : j < ds.length := by rw [← l1]; exact kIx_lt hi
            obtain ⟨F2, r2, sp⟩ := rl.setAt hlt ry
            exact q _ (fin a F' _ F2 rfl (fun H' h1 h2 => ⟨a, _, F2, rfl, h1, rfl, by simpa using l1, n1, r2.mono Sub.refl h2⟩) sp)
          | none =>
            have hm : some (D.dK true (ks ++ [kc0]) (ds ++ [y])) = some c' := by rw [← hm, Option.map_some, hi]
            cases hm
            exact q _ (fin a F' _ (F' ++ Fy) rfl (fun H' h1 h2 => ⟨a, _, F' ++ Fy, rfl, h1, rfl, by simp [l1], idx_nodup hi n1, (rl.append (RpL.one.mpr ry)).mono Sub.refl h2⟩) ⟨[], by simp⟩)
      · rw [if_neg hz] at hm; cases hm
  | dT m ks ds =>
    cases m with
    | false => cases hm
    | true =>
      have hm : (if ds.length < 1000000 then (keyT k).map fun k => (match kIx ks k with | some j => D.dT true ks (ds.set j y) | none => D.dT true (ks ++ [k]) (ds ++ [y])) else none) = some c' := hm
      by_cases hz : ds.length < 1000000
      · rw [if_pos hz] at hm
        cases hk : keyT k with
        | none => rw [hk] at hm; cases hm
        | some kc0 =>
          rw [hk] at hm
          obtain ⟨a, vs, F', rfl, ha, rfl, l1, n1, rl⟩ := rr
          obtain ⟨kb, rfl, hkb, rfl⟩ := rk.keyT su hk
          have l2 : ks.length = vs.length := l1.trans rl.len
          refine .inr ⟨a, _, rfl, DPut.t ha hkb (k1m (by unfold tzip; rw [List.length_zip, List.length_map, l2, Nat.min_self, ← rl.len]; exact hz)), ?_⟩
          rw [tzip_put n1 l2]
          cases hi : kIx ks kc0 with
          | some j =>
            have hm : some (D.dT true ks (ds.set j y)) = some c' := by rw [← hm, Option.map_some, hi]
            cases hm
            have hlt : j < ds.length := by rw [← l1]; exact kIx_lt hi
            obtain ⟨F2, r2, sp⟩ := rl.setAt hlt ry
            exact q _ (fin a F' _ F2 rfl (fun H' h1 h2 => ⟨a, _, F2, rfl, h1, rfl, by simpa using l1, n1, r2.mono Sub.refl h2⟩) sp)
          | none =>
            have hm : some (D.dT true (ks ++ [kc0]) (ds ++ [y])) = some c' := by rw [← hm, Option.map_some, hi]
            cases hm
            exact q _ (fin a F' _ (F' ++ Fy) rfl (fun H' h1 h2 => ⟨a, _, F' ++ Fy, rfl, h1, rfl, by simp [l1], idx_nodup hi n1, (rl.append (RpL.one.mpr ry)).mono Sub.refl h2⟩) ⟨[], by simp⟩)
      · rw [if_neg hz] at hm; cases hm
  | _ => cases hm
end
section
variable {X : Cv}
/-- place[k] = e -/
def vSet (i : Nat) (te : VTE) (tp : VTP) (tk : VTE) : VTS := fun N ε => te N.rx ε fun d ε1 => tp N.rx ε1 fun p => tk N.rx ε1 fun k ε2 => ∃ d0 c c', ε2[i]? = some (some d0) ∧ ε1[i]? = some (some d0) ∧ getP d0 p = some c ∧ putD c k d = some c' ∧ N.nx (ε2.set i (some (setP d0 p c')))
theorem vs_set {o ie e : Expr} {i : Nat} {te tk : VTE} {tp : VTP} {pos tpos : Pos} {k : Nat} (hr : Room k X.A) (he : VE X e te) (hp : VP X o i tp) (hk : VQ X ie tk)
    (hsw : swapsWithSole [.Subscript o ie tpos] e pos.line X.env = pure false := by rfl) (hw : swappedStores [.Subscript o ie tpos] e X.env = pure none := by rfl)
    (h1 : (assignEach [.Subscript o ie tpos] X.env).map (·.2) = [assign (.Subscript o ie tpos) X.env] := by rfl)
    (ha : ∀ v, assign (.Subscript o ie tpos) X.env v = (do
      let ov ← holding [v] (eval o X.env)
      let iv ← holding [v, ov] (eval ie X.env)
      standAt tpos
      holding [v, ov, iv] (setItem ov iv v)
      release [v, ov, iv] []) := by intro _; rfl) : VS X (.Assign [.Subscript o ie tpos] e pos) (vSet i te tp tk) := by
  obtain ⟨te', e1, e2⟩ := he.ex
  obtain ⟨tp', p1, p2⟩ := hp.ex
  obtain ⟨tk', k1, k2⟩ := hk.ex
  refine ⟨fun W => tAsg (te' W) (gSub (tp' W) (tk' W) rSetAny), fun W tk => ps_asg (e1 W tk) (pg_sub (p1 W tk) (k1 W tk) (pset_any (by have := hr.units; omega)) ha) hsw hw h1, fun b σ H ε T Tv W N E I q l x => ?_⟩
  refine e2 b σ H ε T Tv W N.rx _ _ I q (fun d v ε1 H1 I1 q1 => ?_) x
  have x1 : XL X.K b.1 (T ++ [d]) (Tv ++ [v]) W N.rx := x.more I.lenT rfl
  refine p2 b σ H1 ε1 (T ++ [d]) (Tv ++ [v]) W N.rx _ _ I1 q1 (fun p d0 c v0 vc H2 s2 I2 ei g hs at_ q2 => ?_) x1
  refine k2 b σ H2 ε1 (T ++ [d]) (Tv ++ [v]) W N.rx _ _ I2 q2 (fun kd kv ε2 H3 s3 I3 q3 => ?_) x1
  obtain ⟨d0', c0, c', ei2, ei1, g', hm, q3⟩ := q3
  rw [ei] at ei1
  cases ei1
  rw [g] at g'
  cases g'
  exact put_run (by simpa only [List.append_assoc, List.cons_append, List.nil_append] using I3) I.lenT ei2 g hs (at_.grow s3) hm fun H' J => l.nx σ H' _ J q3
end
end VL
namespace VL
open PySem PySem.Spec PyProof.Rows L2 VL
section
variable {K : PySem.W.Frag} {b : Bs} {σ : L2.St} {H : Hp} {ε : Ep} {T : List D} {Tv : List V}
theorem SIx.pushL {G F Ft} : ∀ {ds : List D} {vs : List V} {T : List D} {Tv : List V}, SIx K b G F Ft σ H ε T Tv → RpL K G H ds vs [] → SIx K b G F Ft σ H ε (T ++ ds) (Tv ++ vs)
  | [], vs, T, Tv, I, r => by
    obtain ⟨rfl, _⟩ := r
    simpa using I
  | d :: ds, vs, T, Tv, I, r => by
    obtain ⟨v, vs', F1, F2, rfl, f, rd, rs⟩ := r
    obtain ⟨rfl, rfl⟩ := List.append_eq_nil_iff.mp f.symm
    have := SIx.pushL (I.push rd) rs
    simpa only [List.append_assoc, List.cons_append, List.nil_append] using this
end
/-- the answer of an operation: a value, or a new object of things that stand still -/
inductive Nw (K : PySem.W.Frag) (G H : Hp) : D → V → Hp → Prop where
  | val {d v} : (∀ G' H', Sub G G' → Rp K G' H' d v []) → Nw K G H d v H
  | lst {ys : List D} {ws : List V} {p : Addr} : RpL K G H ys ws [] → H p = none → Nw K G H (.lst true ys) (.ref p) (upd H p (.lst ws))
  | tup {ys : List D} {ws : List V} {p : Addr} : RpL K G H ys ws [] → H p = none → Nw K G H (.tup ys) (.ref p) (upd H p (.tup ws))
  | dK {ks : List Kc} {ys : List D} {ws : List V} {p : Addr} : RpL K G H ys ws [] → H p = none → ks.length = ys.length → ks.Nodup → Nw K G H (.dK true ks ys) (.ref p) (upd H p (.dK (kzip ks ws)))
  | dT {ks : List (List Kc)} {ys : List D} {ws : List V} {p : Addr} : RpL K G H ys ws [] → H p = none → ks.length = ys.length → ks.Nodup → Nw K G H (.dT true ks ys) (.ref p) (upd H p (.dT (tzip ks ws)))
theorem OpN.mk {K : PySem.W.Frag} {r : List V → Hp → VK → Prop} {op : List D → (D → Prop) → Prop}
    (h : ∀ (G H : Hp) (ds : List D) (vs : List V) (F : List Addr) (Q : D → Prop) (Q' : VK), Sub G H → RpL K G H ds vs F → op ds Q → (∀ d v H', Nw K G H d v H' → Q d → Q' v H') → r vs H Q') : OpN K r op :=
  fun b σ H ε T Tv ds vs Q Q' hl hd I q k => by
    obtain ⟨G, F, Ft, J⟩ := I
    obtain ⟨F1, F2, rfl, r1, r2⟩ := J.temps.split2 hl
    have hl2 : (T ++ ds).length = (Tv ++ vs).length := by simp [hl, hd]
    refine h G H ds vs F2 Q Q' J.sub r2 q fun d v H' nw z => ?_
    cases nw with
    | val rd =>
      refine k d v H Sub.refl ⟨G, F, F1 ++ F2, ?_⟩ z
      have := J.push (d := d) (v := v) (rd G H Sub.refl)
      simpa only [List.append_assoc] using this
    | lst ry hp =>
      refine k _ _ _ (Sub.laid hp) ?_ z
      have := SI.laid (ds := _) (vs := _) ⟨G, F, F1 ++ F2, J.pushL ry⟩ hl2 hp (.lst _) (fun G H' F e r => (show Rp K G H' (.lst true _) _ _ from ⟨_, _, F, rfl, e, rfl, r⟩))
      simpa only [List.append_assoc] using this
    | tup ry hp =>
      refine k _ _ _ (Sub.laid hp) ?_ z
      have := SI.tup (ds := _) (vs := _) ⟨G, F, F1 ++ F2, J.pushL ry⟩ hl2 hp
      simpa only [List.append_assoc] using this
    | dK ry hp l n =>
      refine k _ _ _ (Sub.laid hp) ?_ z
      have := SI.laid (ds := _) (vs := _) ⟨G, F, F1 ++ F2, J.pushL ry⟩ hl2 hp (.dK _) (fun G H' F e r => (show Rp K G H' (.dK true _ _) _ _ from ⟨_, _, F, rfl, e, rfl, l, n, r⟩))
      simpa only [List.append_assoc] using this
    | dT ry hp l n =>
      refine k _ _ _ (Sub.laid hp) ?_ z
      have := SI.laid (ds := _) (vs := _) ⟨G, F, F1 ++ F2, J.pushL ry⟩ hl2 hp (.dT _) (fun G H' F e r => (show Rp K G H' (.dT true _ _) _ _ from ⟨_, _, F, rfl, e, rfl, l, n, r⟩))
      simpa only [List.append_assoc] using this
theorem kzip_len {ks : List Kc} {vs : List V} (h : ks.length = vs.length) : (kzip ks vs).length = vs.length := by
  unfold kzip; rw [List.length_zip, List.length_map, h, Nat.min_self]
theorem tzip_len {ks : List (List Kc)} {vs : List V} (h : ks.length = vs.length) : (tzip ks vs).length = vs.length := by
  unfold tzip; rw [List.length_zip, List.length_map, h, Nat.min_self]
def seqD : D → Option (List D)
  | .lst _ ds => some ds
  | .tup ds => some ds
  | _ => none
theorem Rp.seqD {K : PySem.W.Frag} {G H : Hp} (hs : Sub G H) {d : D} {v : V} {F : List Addr} {ds : List D} (r : Rp K G H d v F) (h : VL.seqD d = some ds) : ∃ p vs F', v = .ref p ∧ (SqL K H p vs ∨ SqT K H p vs) ∧ RpL K G H ds vs F' := by
  cases d with
  | lst m xs =>
    cases h
    cases m with
    | false => obtain ⟨a, vs, rfl, s, rfl, r⟩ := r; exact ⟨a, vs, _, rfl, .inl (hs.sqL s), r⟩
    | true => obtain ⟨a, vs, F', rfl, s, rfl, r⟩ := r; exact ⟨a, vs, _, rfl, .inl (SqL.of s), r⟩
  | tup xs =>
    cases h
    obtain ⟨a, vs, rfl, s, r⟩ := r
    exact ⟨a, vs, _, rfl, .inr (SqT.of (hs _ _ s)), r⟩
  | _ => cases h
def seqP : D → Option (List D)
  | .pin _ (.lst m ds) => some ds
  | d => seqD d
theorem Rp.seqP {K : PySem.W.Frag} {G H : Hp} (hs : Sub G H) {d : D} {v : V} {F : List Addr} {ds : List D} (r : Rp K G H d v F) (h : VL.seqP d = some ds) : ∃ p vs F', v = .ref p ∧ (SqL K H p vs ∨ SqT K H p vs) ∧ RpL K G H ds vs F' := by
  cases d with
  | pin u c =>
    obtain ⟨rfl, r⟩ := r
    cases c with
    | lst m xs =>
      cases h
      exact r.seqD hs rfl
    | _ => cases h
  | lst m xs => exact r.seqD hs h
  | tup xs => exact r.seqD hs h
  | _ => cases h
def lenD : D → Option Nat
  | .str s => if s.length < 1000000 then some s.length else none
  | .lst _ ds => some ds.length
  | .tup ds => some ds.length
  | .dK _ _ ds => some ds.length
  | .dT _ _ ds => some ds.length
  | _ => none
def sLen : List D → (D → Prop) → Prop := fun ds Q => ∃ x n, ds = [x] ∧ lenD x = some n ∧ Q (.int n)
def rLenA (K : PySem.W.Frag) : List V → Hp → VK → Prop := fun xs H Q => (∃ x n, xs = [x] ∧ LenV K x H n ∧ Q (.int n) H) ∨ (∃ a kvs, xs = [V.ref a] ∧ Rd H a (.dK kvs) ∧ Q (.int kvs.length) H) ∨ rLenT xs H Q
theorem call_lenR {X : Cx} : CallR X (.builtin "len") (fun xs H Q => ∃ a kvs, xs = [V.ref a] ∧ Rd H a (.dK kvs) ∧ Q (.int kvs.length) H) := by
  intro pins s σ H xs us Q I r h
  obtain ⟨a, kvs, rfl, e, q⟩ := h
  obtain ⟨u, rfl, ru⟩ := vals1 r
  cases ru
  exact d_len I e fun t s' J => ⟨.int kvs.length, H, J, ⟨t, rfl⟩, q⟩
theorem call_lenA {X : Cx} : CallR X (.builtin "len") (rLenA X.K) := CallR.or call_len (CallR.or call_lenR call_len_dT)
theorem toS_len (s : Cs) : (toS s).length = s.length := by
  show (toS s).cps.size = s.length
  simp [toS]
theorem opn_len {K : PySem.W.Frag} : OpN K (rLenA K) sLen := OpN.pure fun G H ds vs F Q Q' hs r q k => by
  obtain ⟨x, n, rfl, hn, q⟩ := q
  obtain ⟨v, rfl, rx⟩ := r.one'
  have fin : Q' (.int n) H := k (.int n) _ (fun _ _ _ => ⟨rfl, rfl⟩) q
  cases x with
  | str s =>
    obtain ⟨rfl, _⟩ := rx
    by_cases hz : s.length < 1000000
    · have hn : (if s.length < 1000000 then some s.length else none) = some n := hn
      rw [if_pos hz] at hn
      cases hn
      exact .inl ⟨_, s.length, rfl, ⟨by rw [toS_len]; exact Nat.le_of_lt (k1m hz), (toS_len s).symm⟩, fin⟩
    · have hn : (if s.length < 1000000 then some s.length else none) = some n := hn
      rw [if_neg hz] at hn
      cases hn
  | lst m xs =>
    cases hn
    obtain ⟨p, us, F', rfl, hq, rl⟩ := rx.seqD hs rfl
    rw [rl.len] at fin
    refine .inl ⟨_, us.length, rfl, ?_, fin⟩
    rcases hq with hq | hq
    · exact .inl ⟨us, hq, rfl⟩
    · exact .inr ⟨us, hq, rfl⟩
  | tup xs =>
    cases hn
    obtain ⟨p, us, F', rfl, hq, rl⟩ := rx.seqD hs rfl
    rw [rl.len] at fin
    refine .inl ⟨_, us.length, rfl, ?_, fin⟩
    rcases hq with hq | hq
    · exact .inl ⟨us, hq, rfl⟩
    · exact .inr ⟨us, hq, rfl⟩
  | dK m ks xs =>
    cases hn
    have : ∃ a us F', v = .ref a ∧ Rd H a (.dK (kzip ks us)) ∧ ks.length = xs.length ∧ RpL K G H xs us F' := by
      cases m with
      | false => obtain ⟨a, us, e, s, _, l, _, r⟩ := rx; exact ⟨a, us, _, e, hs.rd s, l, r⟩
      | true => obtain ⟨a, us, F', e, s, _, l, _, r⟩ := rx; exact ⟨a, us, _, e, .inl s, l, r⟩
    obtain ⟨a, us, F', rfl, e, l, rl⟩ := this
    refine .inr (.inl ⟨a, _, rfl, e, ?_⟩)
    rw [kzip_len (l.trans rl.len), ← rl.len]
    exact fin
  | dT m ks xs =>
    cases hn
    have : ∃ a us F', v = .ref a ∧ H a = some (.dT (tzip ks us)) ∧ ks.length = xs.length ∧ RpL K G H xs us F' := by
      cases m with
      | false => obtain ⟨a, us, e, s, _, l, _, r⟩ := rx; exact ⟨a, us, _, e, hs _ _ s, l, r⟩
      | true => obtain ⟨a, us, F', e, s, _, l, _, r⟩ := rx; exact ⟨a, us, _, e, s, l, r⟩
    obtain ⟨a, us, F', rfl, e, l, rl⟩ := this
    refine .inr (.inr ⟨a, _, rfl, e, ?_⟩)
    rw [tzip_len (l.trans rl.len), ← rl.len]
    exact fin
  | _ => cases hn
def rIxD : R2 := fun x y H Q => ∃ a v, x = .ref a ∧ DGet H a y (some v) ∧ Q v H
theorem ix_dict {X : Cx} (hu : X.A.units + 1 < cLine) : IxR X rIxD := by
  intro value slice pins s σ H x y v u Q I rx ry h hs
  obtain ⟨a, z, rfl, g, q⟩ := h
  obtain rfl : v = Value.ref a := rx
  exact tail_any (dict_typeIs I g) slot_dict_getitem.lookup (d_getItem hu I g ry fun w' s' I' rw' => ⟨z, H, I', rw', q⟩) hs
def rIxA (K : PySem.W.Frag) : R2 := fun x y H Q => rIx K x y H Q ∨ rIxD x y H Q
theorem ix_any {X : Cx} {k : Nat} (hr : Room k X.A) : IxR X (rIxA X.K) := ix_seq.or (ix_dict (by have := hr.units; omega))
/-- a subscript: the item, which stands still -/
def ixD : D → D → Option D
  | .str s, .int i => if s.length < 1000000 then (ixN s.length i).bind fun j => (s[j]?).map fun c => .str [c] else none
  | c, k => getD c k
def sIx : List D → (D → Prop) → Prop := fun ds Q => ∃ c k d, ds = [c, k] ∧ ixD c k = some d ∧ isFz d = true ∧ Q d
theorem RpL.at {K : PySem.W.Frag} {G H : Hp} {ds : List D} {vs : List V} {F : List Addr} {j : Nat} {d : D} (r : RpL K G H ds vs F) (h : ds[j]? = some d) (z : isFz d = true) : ∃ v, vs[j]? = some v ∧ Rp K G H d v [] := by
  obtain ⟨v, A, B, C, hv, rfl, rv, _⟩ := r.focus h
  have := rv.fz z
  subst this
  exact ⟨v, hv, rv⟩
theorem Rp.fzUp {K : PySem.W.Frag} {G H G' H' : Hp} {d : D} {v : V} (r : Rp K G H d v []) (s : Sub G G') : Rp K G' H' d v [] := r.mono s fun _ z => nomatch z
theorem getD_run {K : PySem.W.Frag} {G H : Hp} (hs : Sub G H) {c k d : D} {v w : V} {F1 F2 : List Addr} (rc : Rp K G H c v F1) (rk : Rp K G H k w F2) (h : getD c k = some d) (z : isFz d = true) :
    ∃ u, Rp K G H d u [] ∧ ∀ Q : VK, Q u H → rIxA K v w H Q := by
  have seq : ∀ (ds : List D) (i : Int), VL.seqP c = some ds → k = .int i → ((ixN ds.length i).bind fun j => ds[j]?) = some d → ∃ u, Rp K G H d u [] ∧ ∀ Q : VK, Q u H → rIxA K v w H Q := by
    intro ds i e1 e2 e3
    subst e2
    obtain ⟨p, vs, F', rfl, hq, rl⟩ := rc.seqP hs e1
    obtain ⟨rfl, _⟩ := rk
    cases hj : ixN ds.length i with
    | none => rw [hj] at e3; cases e3
    | some j =>
      rw [hj] at e3
      have e3 : ds[j]? = some d := e3
      obtain ⟨u, hu, ru⟩ := rl.at e3 z
      have ha : atI vs i = some u := by
        unfold atI
        rw [← rl.len, hj]
        exact hu
      refine ⟨u, ru, fun Q q => ?_⟩
      rcases hq with hq | hq
      · exact .inl (.inl ⟨p, vs, i, u, rfl, rfl, hq, ha, q⟩)
      · exact .inl (.inr (.inl ⟨p, vs, i, u, rfl, rfl, hq, ha, q⟩))
  cases c with
  | lst m ds => cases k <;> first | exact seq ds _ rfl rfl h | cases h
  | pin u c1 =>
    cases c1 with
    | lst m ds => cases k <;> first | exact seq ds _ rfl rfl h | cases h
    | _ => cases h
  | tup ds => cases k <;> first | exact seq ds _ rfl rfl h | cases h
  | dK m ks xs =>
    have : ∃ a us F', v = .ref a ∧ Rd H a (.dK (kzip ks us)) ∧ ks.length = xs.length ∧ RpL K G H xs us F' := by
      cases m with
      | false => obtain ⟨a, us, e, s, _, l, _, r⟩ := rc; exact ⟨a, us, _, e, hs.rd s, l, r⟩
      | true => obtain ⟨a, us, F', e, s, _, l, _, r⟩ := rc; exact ⟨a, us, _, e, .inl s, l, r⟩
    obtain ⟨a, us, F', rfl, e, l, rl⟩ := this
    have h : ((keyD k).bind fun k => (kIx ks k).bind fun j => xs[j]?) = some d := h
    cases hk : keyD k with
    | none => rw [hk] at h; cases h
    | some k0 =>
      rw [hk] at h
      have h : ((kIx ks k0).bind fun j => xs[j]?) = some d := h
      cases hj : kIx ks k0 with
      | none => rw [hj] at h; cases h
      | some j =>
        rw [hj] at h
        obtain ⟨u, hu, ru⟩ := rl.at h z
        obtain ⟨rfl, _⟩ := rk.keyD hk
        refine ⟨u, ru, fun Q q => .inr ⟨a, u, rfl, ?_, q⟩⟩
        have : DGet H a (kV (kc k0)) (valV (kzip ks us) (kc k0)) := .inl ⟨_, _, e, rfl, rfl⟩
        rw [kzip_val (l.trans rl.len), hj] at this
        have e5 : ((some j).bind fun j => us[j]?) = some u := hu
        rw [e5] at this
        exact this
  | dT m ks xs =>
    have : ∃ a us F', v = .ref a ∧ H a = some (.dT (tzip ks us)) ∧ ks.length = xs.length ∧ RpL K G H xs us F' := by
      cases m with
      | false => obtain ⟨a, us, e, s, _, l, _, r⟩ := rc; exact ⟨a, us, _, e, hs _ _ s, l, r⟩
      | true => obtain ⟨a, us, F', e, s, _, l, _, r⟩ := rc; exact ⟨a, us, _, e, s, l, r⟩
    obtain ⟨a, us, F', rfl, e, l, rl⟩ := this
    have h : ((keyT k).bind fun k => (kIx ks k).bind fun j => xs[j]?) = some d := h
    cases hk : keyT k with
    | none => rw [hk] at h; cases h
    | some k0 =>
      rw [hk] at h
      have h : ((kIx ks k0).bind fun j => xs[j]?) = some d := h
      cases hj : kIx ks k0 with
      | none => rw [hj] at h; cases h
      | some j =>
        rw [hj] at h
        obtain ⟨u, hu, ru⟩ := rl.at h z
        obtain ⟨kb, rfl, hkb, _⟩ := rk.keyT hs hk
        refine ⟨u, ru, fun Q q => .inr ⟨a, u, rfl, ?_, q⟩⟩
        have := DGet.t (k := tkc k0) e hkb
        rw [tzip_val (l.trans rl.len), hj] at this
        have e5 : ((some j).bind fun j => us[j]?) = some u := hu
        rw [e5] at this
        exact this
  | _ => cases h
theorem opn_ix {K : PySem.W.Frag} : OpN K (r2N (rIxA K)) sIx := OpN.pure fun G H ds vs F Q Q' hs r q k => by
  obtain ⟨c, kk, d, rfl, hd, hz, q⟩ := q
  obtain ⟨v, w, F1, F2, rfl, rc, rk⟩ := r.two
  refine ⟨v, w, rfl, ?_⟩
  have gen : getD c kk = some d → rIxA K v w H Q' := fun h => by
    obtain ⟨u, ru, go⟩ := getD_run hs rc rk h hz
    exact go Q' (k d u (fun G' H' s => ru.fzUp s) q)
  cases c with
  | str s =>
    cases kk with
    | int i =>
      have hd : (if s.length < 1000000 then (ixN s.length i).bind fun j => (s[j]?).map fun c => D.str [c] else none) = some d := hd
      by_cases hl : s.length < 1000000
      · rw [if_pos hl] at hd
        cases hj : ixN s.length i with
        | none => rw [hj] at hd; cases hd
        | some j =>
          rw [hj] at hd
          have hd : (s[j]?).map (fun c => D.str [c]) = some d := hd
          cases hc : s[j]? with
          | none => rw [hc] at hd; cases hd
          | some c =>
            rw [hc] at hd
            cases hd
            obtain ⟨rfl, _⟩ := rc
            obtain ⟨rfl, _⟩ := rk
            refine .inl (.inr (.inr ⟨toS s, i, c, rfl, rfl, by rw [toS_len]; exact Nat.le_of_lt (k1m hl), ?_, k (.str [c]) _ (fun _ _ _ => ⟨rfl, rfl⟩) q⟩))
            unfold atI
            have e1 : (toS s).cps.toList = s := by simp [toS]
            rw [e1, hj]
            exact hc
      · rw [if_neg hl] at hd; cases hd
    | _ => cases hd
  | _ => exact gen hd
section
variable {X : Cv}
theorem ve_ix {a bb : Expr} {ra rb : Option Nat} {ta tb : VTE} {pos : Pos} {k : Nat} (hr : Room k X.A) (ha : VG X a ra ta) (hb : VG X bb rb tb) (hs : PlainIx bb) : VE X (.Subscript a bb pos) (vOp sIx [ra, rb] (va2 ta tb)) := by
  obtain ⟨ta', tb', h1, h2, h3⟩ := two_args ha hb
  refine ⟨fun W => tOp (rIxA X.K) (ta' W) (tb' W), fun W tk => pe_ix (ix_any hr) (h1 W tk) (h2 W tk) hs, fun b σ H ε T Tv W N Q Q' I q k x => ?_⟩
  exact h3 b σ H ε T Tv W N _ _ I q (fun x y v w ε' H' J hv hw z => two_run opn_ix I.lenT J hv hw z k) x
end
end VL
namespace VL
open PySem PySem.Spec PyProof.Rows L2 VL
def flatD : D → Bool
  | .non => true
  | .bl _ => true
  | .int _ => true
  | .str _ => true
  | _ => false
/-- whether x is in c, where it can be told -/
def memD (x : D) : D → Option Bool
  | .lst m ys => if flatD x && ys.all flatD then some (ys.any fun y => deq y x) else if okD 64 x && okD 64 (.lst m ys) then some (ys.any fun y => deq y x) else none
  | .tup ys => if flatD x && ys.all flatD then some (ys.any fun y => deq y x) else none
  | .dK _ ks _ => (keyD x).map fun k => (kIx ks k).isSome
  | .dT _ ks _ => (keyT x).map fun k => (kIx ks k).isSome
  | .str s => match x with | .str [c] => some (decide (c ∈ s)) | _ => none
  | _ => none
section
variable {K : PySem.W.Frag} {G H : Hp}
theorem Rp.flat {x : D} {v : V} {F : List Addr} (h : flatD x = true) (r : Rp K G H x v F) : flatV v = true := by
  cases x <;> first | (exfalso; revert h; simp [flatD]; done) | (obtain ⟨rfl, _⟩ := r; rfl)
theorem Rp.flatEq {x y : D} {v w : V} {F F' : List Addr} (hx : flatD x = true) (hy : flatD y = true) (r : Rp K G H x v F) (q : Rp K G H y w F') : eqV v w = deq x y := by
  cases x <;> cases y <;> first
    | (exfalso; revert hx; simp [flatD]; done)
    | (exfalso; revert hy; simp [flatD]; done)
    | (obtain ⟨rfl, _⟩ := r
       obtain ⟨rfl, _⟩ := q
       first | rfl | exact toS_beq _ _)
theorem RpL.flat : ∀ {ds : List D} {vs : List V} {F : List Addr}, ds.all flatD = true → RpL K G H ds vs F → vs.all flatV = true ∧ ∀ {x : D} {v : V} {F' : List Addr}, flatD x = true → Rp K G H x v F' → inV v vs = ds.any fun y => deq y x
  | [], vs, F, h, r => by
    obtain ⟨rfl, _⟩ := r
    exact ⟨rfl, fun _ _ => rfl⟩
  | d :: ds, vs, F, h, r => by
    obtain ⟨v, vs', F1, F2, rfl, rfl, rd, rs⟩ := r
    rw [List.all_cons, Bool.and_eq_true] at h
    obtain ⟨i1, i2⟩ := RpL.flat h.2 rs
    refine ⟨by rw [List.all_cons, rd.flat h.1, i1]; rfl, fun hx rx => ?_⟩
    show (eqV v _ || inV _ vs') = _
    rw [List.any_cons, rd.flatEq h.1 hx rx, i2 hx rx]
theorem any_pd {x : D} (hx : okD 64 x = true) : ∀ {n : Nat} {ys : List D}, okDL n ys = true → ((pdL ys).any fun z => PyData.eqv z (pd x)) = ys.any fun y => deq y x
  | n, [], _ => rfl
  | n, y :: ys, h => by
    obtain ⟨a1, a2⟩ := Bool.and_eq_true_iff.mp (show (okD n y && okDL n ys) = true by simpa [okDL] using h)
    show (PyData.eqv (pd y) (pd x) || _) = _
    rw [List.any_cons, deq_pd a1 hx, any_pd hx a2]
def rInX (K : PySem.W.Frag) (neg : Bool) : R2 := fun x y H Q => rIn K neg x y H Q ∨ (if neg then rNotInD K x y H Q else rInD K x y H Q) ∨ (∃ (c : Nat) (z : Str), x = .str ⟨#[c]⟩ ∧ y = .str z ∧ Q (.bl (if neg then !decide (c ∈ z.cps.toList) else decide (c ∈ z.cps.toList))) H) ∨
  ∃ a o, y = .ref a ∧ DGet H a x o ∧ Q (.bl (if neg then !o.isSome else o.isSome)) H
theorem opr_in {X : Cx} {k : Nat} (hr : Room k X.A) : OpR X (compareOp .In) (rInX X.K false) := by
  refine OpR.or op_in_seq (OpR.or (op_inD (by have := hr.un; omega)) (OpR.or op_in_sign ?_))
  intro pins s σ H x y v u Q I rx ry h
  obtain ⟨a, o, rfl, g, q⟩ := h
  obtain rfl : u = Value.ref a := ry
  exact d_in (by have := hr.units; omega) I g rx fun s' I' => ⟨.bl o.isSome, H, I', rfl, q⟩
theorem opr_notIn {X : Cx} {k : Nat} (hr : Room k X.A) : OpR X (compareOp .NotIn) (rInX X.K true) := by
  refine OpR.or op_notIn_seq (OpR.or (op_notInD (by have := hr.un; omega)) (OpR.or op_notIn_sign ?_))
  intro pins s σ H x y v u Q I rx ry h
  obtain ⟨a, o, rfl, g, q⟩ := h
  obtain rfl : u = Value.ref a := ry
  exact d_notIn (by have := hr.units; omega) I g rx fun s' I' => ⟨.bl (!o.isSome), H, I', rfl, q⟩
def sIn (neg : Bool) : List D → (D → Prop) → Prop := fun ds Q => ∃ x c r, ds = [x, c] ∧ memD x c = some r ∧ Q (.bl (if neg then !r else r))
theorem mem_run (hs : Sub G H) {neg : Bool} {x c : D} {v w : V} {F1 F2 : List Addr} {r : Bool} {Q' : VK} (rx : Rp K G H x v F1) (rc : Rp K G H c w F2) (h : memD x c = some r) (q : Q' (.bl (if neg then !r else r)) H) : rInX K neg v w H Q' := by
  have flatS : ∀ ys, VL.seqD c = some ys → flatD x = true → ys.all flatD = true → (ys.any fun y => deq y x) = r → rInX K neg v w H Q' := by
    intro ys e hx hy e2
    obtain ⟨p, vs, F', rfl, hq, rl⟩ := rc.seqD hs e
    obtain ⟨i1, i2⟩ := rl.flat hy
    refine .inl ⟨p, vs, rfl, hq, rx.flat hx, i1, ?_⟩
    rw [i2 hx rx, e2]
    exact q
  cases c with
  | lst m ys =>
    have h : (if (flatD x && ys.all flatD) = true then some (ys.any fun y => deq y x) else if (okD 64 x && okD 64 (.lst m ys)) = true then some (ys.any fun y => deq y x) else none) = some r := h
    by_cases h1 : (flatD x && ys.all flatD) = true
    · rw [if_pos h1] at h
      obtain ⟨a1, a2⟩ := Bool.and_eq_true_iff.mp h1
      exact flatS ys rfl a1 a2 (Option.some.inj h)
    · rw [if_neg h1] at h
      by_cases h2 : (okD 64 x && okD 64 (.lst m ys)) = true
      · rw [if_pos h2] at h
        cases h
        obtain ⟨a1, a2⟩ := Bool.and_eq_true_iff.mp h2
        refine .inr (.inl ?_)
        have e3 : ((pdL ys).any fun z => PyData.eqv z (pd x)) = ys.any fun y => deq y x := any_pd a1 (n := 63) (by simpa [okD] using a2)
        cases neg with
        | true => exact ⟨pd x, pdL ys, rx.dp hs a1, rc.dp hs a2, shp a1, shp a2, by rw [e3]; exact q⟩
        | false => exact ⟨pd x, pdL ys, rx.dp hs a1, rc.dp hs a2, shp a1, shp a2, by rw [e3]; exact q⟩
      · rw [if_neg h2] at h; cases h
  | tup ys =>
    have h : (if (flatD x && ys.all flatD) = true then some (ys.any fun y => deq y x) else none) = some r := h
    by_cases h1 : (flatD x && ys.all flatD) = true
    · rw [if_pos h1] at h
      obtain ⟨a1, a2⟩ := Bool.and_eq_true_iff.mp h1
      exact flatS ys rfl a1 a2 (Option.some.inj h)
    · rw [if_neg h1] at h; cases h
  | str s =>
    cases x with
    | str cs =>
      match cs, h with
      | [c], h =>
        have h : some (decide (c ∈ s)) = some r := h
        cases h
        obtain ⟨rfl, _⟩ := rx
        obtain ⟨rfl, _⟩ := rc
        refine .inr (.inr (.inl ⟨c, toS s, rfl, rfl, ?_⟩))
        have e1 : (toS s).cps.toList = s := by simp [toS]
        rw [e1]
        exact q
    | _ => cases h
  | dK m ks xs =>
    have : ∃ a us F', w = .ref a ∧ Rd H a (.dK (kzip ks us)) ∧ ks.length = xs.length ∧ RpL K G H xs us F' := by
      cases m with
      | false => obtain ⟨a, us, e, s, _, l, _, r⟩ := rc; exact ⟨a, us, _, e, hs.rd s, l, r⟩
      | true => obtain ⟨a, us, F', e, s, _, l, _, r⟩ := rc; exact ⟨a, us, _, e, .inl s, l, r⟩
    obtain ⟨a, us, F', rfl, e, l, rl⟩ := this
    have h : ((keyD x).map fun k => (kIx ks k).isSome) = some r := h
    cases hk : keyD x with
    | none => rw [hk] at h; cases h
    | some k0 =>
      rw [hk] at h
      cases h
      obtain ⟨rfl, _⟩ := rx.keyD hk
      refine .inr (.inr (.inr ⟨a, _, rfl, (.inl ⟨_, kc k0, e, rfl, rfl⟩ : DGet H a (kV (kc k0)) _), ?_⟩))
      rw [kzip_val (l.trans rl.len)]
      have e5 : ((kIx ks k0).bind fun j => us[j]?).isSome = (kIx ks k0).isSome := by
        cases hj : kIx ks k0 with
        | none => rfl
        | some j =>
          have := kIx_lt hj
          have : j < us.length := by rw [← rl.len, ← l]; exact this
          simp [this]
      rw [e5]
      exact q
  | dT m ks xs =>
    have : ∃ a us F', w = .ref a ∧ H a = some (.dT (tzip ks us)) ∧ ks.length = xs.length ∧ RpL K G H xs us F' := by
      cases m with
      | false => obtain ⟨a, us, e, s, _, l, _, r⟩ := rc; exact ⟨a, us, _, e, hs _ _ s, l, r⟩
      | true => obtain ⟨a, us, F', e, s, _, l, _, r⟩ := rc; exact ⟨a, us, _, e, s, l, r⟩
    obtain ⟨a, us, F', rfl, e, l, rl⟩ := this
    have h : ((keyT x).map fun k => (kIx ks k).isSome) = some r := h
    cases hk : keyT x with
    | none => rw [hk] at h; cases h
    | some k0 =>
      rw [hk] at h
      cases h
      obtain ⟨kb, rfl, hkb, _⟩ := rx.keyT hs hk
      refine .inr (.inr (.inr ⟨a, _, rfl, DGet.t (k := tkc k0) e hkb, ?_⟩))
      rw [tzip_val (l.trans rl.len)]
      have e5 : ((kIx ks k0).bind fun j => us[j]?).isSome = (kIx ks k0).isSome := by
        cases hj : kIx ks k0 with
        | none => rfl
        | some j =>
          have := kIx_lt hj
          have : j < us.length := by rw [← rl.len, ← l]; exact this
          simp [this]
      rw [e5]
      exact q
  | _ => cases h
theorem opn_in {neg : Bool} : OpN K (r2N (rInX K neg)) (sIn neg) := OpN.pure fun G H ds vs F Q Q' hs r q k => by
  obtain ⟨x, c, z, rfl, hz, q⟩ := q
  obtain ⟨v, w, F1, F2, rfl, rx, rc⟩ := r.two
  exact ⟨v, w, rfl, mem_run hs rx rc hz (k (.bl _) _ (fun _ _ _ => ⟨rfl, rfl⟩) q)⟩
end
/-- list + list, any two that are read -/
def rCatR (K : PySem.W.Frag) : R2 := fun x y H Q => ∃ l c xs zs, x = .ref l ∧ y = .ref c ∧ SqL K H l xs ∧ SqL K H c zs ∧ xs.length + zs.length ≤ sizeLine ∧ ∀ p, H p = none → Q (.ref p) (upd H p (.lst (xs ++ zs)))
theorem op_catR {X : Cx} : OpR X (binaryOp .Add) (rCatR X.K) := by
  intro pins s σ H x y v u Q I rx ry h
  obtain ⟨l, c, xs, zs, rfl, rfl, hx, hy, hz, q⟩ := h
  cases rx
  cases ry
  obtain ⟨its, r, pl, hl⟩ := I.list hx
  obtain ⟨its2, r2, pl2, hl2⟩ := I.list hy
  obtain ⟨⟨cls, dd, data, sl⟩, ho, hc, n, hd⟩ := pl.isList
  obtain ⟨⟨cls2, dd2, data2, sl2⟩, ho2, hc2, n2, hd2⟩ := pl2.isList
  simp only at hc hd hc2 hd2
  subst hc hd hc2 hd2
  have e : its.toArray ++ its2.toArray = (its ++ its2).toArray := by simp
  refine concat_meets ⟨_, ho, rfl⟩ ⟨_, ho2, rfl⟩ noFill_list_add seq_list_add PySem.F.slot_list_add PySem.F.entry_list_add (PySem.F.args_list_add_2 _ _) (list_addW l c its.toArray its2.toArray n n2 dd dd2 sl sl2 (by have := r.length; have := r2.length; simp only [List.size_toArray]; omega)) ⟨ho, ho2, ?_⟩
  rw [e]
  refine ⟨.ref s.heap.objs.size, _, I.laid (t' := s.toks) (o := .lst (xs ++ zs)) (fun b ob q => Heap.get?_push_of_some _ q) (Nat.le_refl _) ?_, rfl, q _ (I.hok.fresh (Nat.le_refl _))⟩
  exact ⟨by rw [List.length_append]; exact hz, its ++ its2, 0, r.append r2, Heap.get?_push_size _ rfl⟩
end VL
namespace VL
open PySem PySem.Spec PyProof.Rows L2 VL
section
variable {K : PySem.W.Frag} {G H : Hp}
theorem toS_app (s t : Cs) : toS s ++ toS t = toS (s ++ t) := by
  show (⟨(toS s).cps ++ (toS t).cps⟩ : Str) = _
  simp [toS]
theorem nwI (i : Int) : Nw K G H (.int i) (.int i) H := .val fun _ _ _ => ⟨rfl, rfl⟩
theorem nwB (c : Bool) : Nw K G H (.bl c) (.bl c) H := .val fun _ _ _ => ⟨rfl, rfl⟩
theorem nwS (s : Cs) : Nw K G H (.str s) (.str (toS s)) H := .val fun _ _ _ => ⟨rfl, rfl⟩
/-- x + y -/
def addD : D → D → Option D
  | .int i, .int j => some (.int (i + j))
  | .str s, .str t => if s.length + t.length < 1000000 then some (.str (s ++ t)) else none
  | .lst _ xs, .lst _ ys => if (isFzL xs && isFzL ys) = true then (if xs.length + ys.length < 1000000 then some (.lst true (xs ++ ys)) else none) else none
  | .tup xs, .tup ys => if (isFzL xs && isFzL ys) = true then (if xs.length + ys.length < 1000000 then some (.tup (xs ++ ys)) else none) else none
  | _, _ => none
def rAddA (K : PySem.W.Frag) : R2 := fun x y H Q => rI0 (fun i j => .int (i + j)) x y H Q ∨ (∃ i j, x = .str i ∧ y = .str j ∧ i.length + j.length ≤ sizeLine ∧ Q (.str (i ++ j)) H) ∨ rCatR K x y H Q ∨ rCatA K x y H Q
theorem opr_add {X : Cx} : OpR X (binaryOp .Add) (rAddA X.K) := OpR.or op_add (OpR.or op_add_str (OpR.or op_catR op_catA))
def sAdd : List D → (D → Prop) → Prop := fun ds Q => ∃ x y d, ds = [x, y] ∧ addD x y = some d ∧ Q d
theorem opn_add : OpN K (r2N (rAddA K)) sAdd := OpN.mk fun G H ds vs F Q Q' hs r q k => by
  obtain ⟨x, y, d, rfl, h, q⟩ := q
  obtain ⟨v, w, F1, F2, rfl, rx, ry⟩ := r.two
  refine ⟨v, w, rfl, ?_⟩
  cases x with
  | int i =>
    cases y with
    | int j =>
      cases h
      obtain ⟨rfl, _⟩ := rx
      obtain ⟨rfl, _⟩ := ry
      exact .inl ⟨i, j, rfl, rfl, k _ _ _ (nwI _) q⟩
    | _ => cases h
  | str s =>
    cases y with
    | str t =>
      have h : (if s.length + t.length < 1000000 then some (D.str (s ++ t)) else none) = some d := h
      by_cases hz : s.length + t.length < 1000000
      · rw [if_pos hz] at h
        cases h
        obtain ⟨rfl, _⟩ := rx
        obtain ⟨rfl, _⟩ := ry
        refine .inr (.inl ⟨_, _, rfl, rfl, by rw [toS_len, toS_len]; exact Nat.le_of_lt (k1m hz), ?_⟩)
        rw [toS_app]
        exact k _ _ _ (nwS _) q
      · rw [if_neg hz] at h; cases h
    | _ => cases h
  | lst m xs =>
    cases y with
    | lst m2 ys =>
      have h : (if (isFzL xs && isFzL ys) = true then (if xs.length + ys.length < 1000000 then some (D.lst true (xs ++ ys)) else none) else none) = some d := h
      by_cases hf : (isFzL xs && isFzL ys) = true
      · rw [if_pos hf] at h
        by_cases hz : xs.length + ys.length < 1000000
        · rw [if_pos hz] at h
          cases h
          obtain ⟨f1, f2⟩ := Bool.and_eq_true_iff.mp hf
          have hx : ∃ a us, v = .ref a ∧ SqL K H a us ∧ RpL K G H xs us [] := by
            cases m with
            | false => obtain ⟨a, us, e, s, _, r⟩ := rx; exact ⟨a, us, e, hs.sqL s, r⟩
            | true => obtain ⟨a, us, F', e, s, _, r⟩ := rx; have := r.fz f1; subst this; exact ⟨a, us, e, SqL.of s, r⟩
          have hy : ∃ a us, w = .ref a ∧ SqL K H a us ∧ RpL K G H ys us [] := by
            cases m2 with
            | false => obtain ⟨a, us, e, s, _, r⟩ := ry; exact ⟨a, us, e, hs.sqL s, r⟩
            | true => obtain ⟨a, us, F', e, s, _, r⟩ := ry; have := r.fz f2; subst this; exact ⟨a, us, e, SqL.of s, r⟩
          obtain ⟨a, us, rfl, s1, r1⟩ := hx
          obtain ⟨a2, us2, rfl, s2, r2⟩ := hy
          refine .inr (.inr (.inl ⟨a, a2, us, us2, rfl, rfl, s1, s2, by rw [← r1.len, ← r2.len]; exact Nat.le_of_lt (k1m hz), fun p hp => k _ _ _ (.lst (by simpa using r1.append r2) hp) q⟩))
        · rw [if_neg hz] at h; cases h
      · rw [if_neg hf] at h; cases h
    | _ => cases h
  | tup xs =>
    cases y with
    | tup ys =>
      have h : (if (isFzL xs && isFzL ys) = true then (if xs.length + ys.length < 1000000 then some (D.tup (xs ++ ys)) else none) else none) = some d := h
      by_cases hf : (isFzL xs && isFzL ys) = true
      · rw [if_pos hf] at h
        by_cases hz : xs.length + ys.length < 1000000
        · rw [if_pos hz] at h
          cases h
          obtain ⟨f1, f2⟩ := Bool.and_eq_true_iff.mp hf
          obtain ⟨a, us, rfl, s1, r1⟩ := rx
          obtain ⟨a2, us2, rfl, s2, r2⟩ := ry
          have := r1.fz f1; subst this
          have := r2.fz f2; subst this
          have n1 : us = [] → xs = [] := fun z => by have := r1.len; subst z; simpa using this
          have n2 : us2 = [] → ys = [] := fun z => by have := r2.len; subst z; simpa using this
          refine .inr (.inr (.inr ⟨a, a2, us, us2, rfl, rfl, SqT.of (hs _ _ s1), SqT.of (hs _ _ s2), by rw [← r1.len, ← r2.len]; exact Nat.le_of_lt (k1m hz), fun z => ?_, fun z z2 => ?_, fun _ _ p hp => k _ _ _ (.tup (by simpa using r1.append r2) hp) q⟩))
          · have := n1 z
            subst this
            exact k (.tup ys) _ _ (.val fun G' H' s => ⟨a2, us2, rfl, s _ _ s2, r2.mono s fun _ z => nomatch z⟩) q
          · have := n2 z2
            subst this
            refine k _ _ _ (.val fun G' H' s => ?_) q
            rw [List.append_nil]
            exact ⟨a, us, rfl, s _ _ s1, r1.mono s fun _ z => nomatch z⟩
        · rw [if_neg hz] at h; cases h
      · rw [if_neg hf] at h; cases h
    | _ => cases h
  | _ => cases h
def rMulA : R2 := fun x y H Q => rI CMl (fun i j => .int (i * j)) x y H Q ∨ rRep x y H Q
theorem opr_mulA {X : Cx} : OpR X (binaryOp .Mult) rMulA := OpR.or opr_mul op_rep
/-- x * y: ints, or a list of our own that is repeated -/
def sMul : List D → (D → Prop) → Prop := fun ds Q => (∃ i j, ds = [.int i, .int j] ∧ CMl i j ∧ Q (.int (i * j))) ∨
  ∃ xs n, ds = [.lst true xs, .int n] ∧ isFzL xs = true ∧ n < 1000000 ∧ xs.length * n.toNat < 1000000 ∧ -1000000 < n ∧ Q (.lst true (List.replicate n.toNat xs).flatten)
theorem RpL.rep {xs : List D} {us : List V} (r : RpL K G H xs us []) : ∀ n : Nat, RpL K G H (List.replicate n xs).flatten (List.replicate n us).flatten []
  | 0 => ⟨rfl, rfl⟩
  | n + 1 => by
    rw [List.replicate_succ, List.replicate_succ, List.flatten_cons, List.flatten_cons]
    have := r.append (RpL.rep r n)
    simpa using this
theorem opn_mul : OpN K (r2N rMulA) sMul := OpN.mk fun G H ds vs F Q Q' hs r q k => by
  rcases q with ⟨i, j, rfl, hc, q⟩ | ⟨xs, n, rfl, f1, h1, h2, h3, q⟩
  · obtain ⟨v, w, F1, F2, rfl, ⟨rfl, _⟩, ⟨rfl, _⟩⟩ := r.two
    exact ⟨_, _, rfl, .inl ⟨i, j, rfl, rfl, hc, k _ _ _ (nwI _) q⟩⟩
  · obtain ⟨v, w, F1, F2, rfl, rx, ⟨rfl, _⟩⟩ := r.two
    obtain ⟨a, us, F', rfl, s, rfl, r⟩ := rx
    have := r.fz f1; subst this
    refine ⟨_, _, rfl, .inr ⟨a, n, us, rfl, rfl, s, by omega, by omega, by rw [← r.len]; exact Nat.le_of_lt (k1m h2), fun p hp => k _ _ _ (.lst (r.rep _) hp) q⟩⟩
def sDivmod : List D → (D → Prop) → Prop := fun ds Q => ∃ i j, ds = [.int i, .int j] ∧ CDv i j ∧ Q (.tup [.int (pdiv i j), .int (pmod i j)])
def tyNm : D → Option String
  | .non => some "NoneType"
  | .bl _ => some "bool"
  | .int _ => some "int"
  | .str _ => some "str"
  | .tup _ => some "tuple"
  | .lst _ _ => some "list"
  | .dK _ _ _ => some "dict"
  | .dT _ _ _ => some "dict"
  | _ => none
def tys : List String := ["int", "bool", "str", "list", "tuple", "dict"]
/-- the type t is T, or bool as an int -/
def isT (t T : String) : Bool := t == T || (t == "bool" && T == "int")
theorem kit_tab : (("NoneType" :: tys).all fun t => tys.all fun T => decide (kitB t T = some (isT t T))) = true := by decide +kernel
theorem kit_isT {t T : String} (ht : t ∈ "NoneType" :: tys) (hT : T ∈ tys) : kitB t T = some (isT t T) :=
  of_decide_eq_true (List.all_eq_true.mp (List.all_eq_true.mp kit_tab t ht) T hT)
theorem tyNm_mem {d : D} {t : String} (h : tyNm d = some t) : t ∈ "NoneType" :: tys := by
  cases d <;> simp only [tyNm, reduceCtorEq, Option.some.injEq] at h <;> subst h <;> decide
theorem Rp.tyX (hs : Sub G H) {d : D} {v : V} {F : List Addr} {t : String} (r : Rp K G H d v F) (h : tyNm d = some t) : TyX K H v (.type t) := by
  cases d with
  | non => cases h; obtain ⟨rfl, _⟩ := r; exact .base .non
  | bl b => cases h; obtain ⟨rfl, _⟩ := r; exact .base (.bl b)
  | int i => cases h; obtain ⟨rfl, _⟩ := r; exact .base (.int i)
  | str s => cases h; obtain ⟨rfl, _⟩ := r; exact .base (.str _)
  | tup xs => cases h; obtain ⟨a, vs, rfl, s, _⟩ := r; exact .base (.tup (hs _ _ s))
  | lst m xs =>
    cases h
    cases m with
    | true => obtain ⟨a, vs, F', rfl, s, _⟩ := r; exact .base (.lst s)
    | false =>
      obtain ⟨a, vs, rfl, s, _⟩ := r
      rcases hs.sqL s with (s | ⟨o, s⟩) | ⟨o, its, n, hk, hc, _⟩
      · exact .base (.lst s)
      · exact .base (.frz s)
      · exact .kList hk hc
  | dK m ks xs =>
    cases h
    cases m with
    | true => obtain ⟨a, vs, F', rfl, s, _⟩ := r; exact .base (.dK s)
    | false =>
      obtain ⟨a, vs, rfl, s, _⟩ := r
      rcases hs.rd s with s | ⟨o, s⟩
      · exact .base (.dK s)
      · exact .fDict s
  | dT m ks xs =>
    cases h
    cases m with
    | true => obtain ⟨a, vs, F', rfl, s, _⟩ := r; exact .base (.dT s)
    | false => obtain ⟨a, vs, rfl, s, _⟩ := r; exact .base (.dT (hs _ _ s))
  | _ => cases h
def sIsi : List D → (D → Prop) → Prop := fun ds Q => ∃ x t T, ds = [x, .ty T] ∧ tyNm x = some t ∧ T ∈ tys ∧ Q (.bl (isT t T))
theorem opn_isi : OpN K (rIsi K) sIsi := OpN.mk fun G H ds vs F Q Q' hs r q k => by
  obtain ⟨x, t, T, rfl, ht, hT, q⟩ := q
  obtain ⟨v, w, F1, F2, rfl, rx, ⟨rfl, _⟩⟩ := r.two
  exact ⟨v, .ty T, .type t, .type T, isT t T, rfl, .ty T, rx.tyX hs ht, kit_ty (kit_isT (tyNm_mem ht) hT), k _ _ _ (nwB _) q⟩
def listD : D → Option (List D)
  | .dK _ ks _ => some (ks.map fun | .inl i => .int i | .inr s => .str s)
  | d => seqD d
def sList : List D → (D → Prop) → Prop := fun ds Q => ∃ x ys, ds = [x] ∧ listD x = some ys ∧ isFzL ys = true ∧ Q (.lst true ys)
def sTuple : List D → (D → Prop) → Prop := fun ds Q => ∃ x ys, ds = [x] ∧ seqD x = some ys ∧ isFzL ys = true ∧ Q (.tup ys)
def sDict : List D → (D → Prop) → Prop := fun ds Q => ∃ m ks ys, ds = [.dK m ks ys] ∧ isFzL ys = true ∧ Q (.dK true ks ys)
def sMin : List D → (D → Prop) → Prop := fun ds Q => ∃ i j : Int, ds = [.int i, .int j] ∧ Q (.int (min i j))
def sMax : List D → (D → Prop) → Prop := fun ds Q => ∃ i j : Int, ds = [.int i, .int j] ∧ Q (.int (max i j))
theorem opn_min : OpN K (fun xs H Q => ∃ i j, xs = [.int i, .int j] ∧ Q (.int (if j < i then j else i)) H) sMin := OpN.mk fun G H ds vs F Q Q' hs r q k => by
  obtain ⟨i, j, rfl, q⟩ := q
  obtain ⟨v, w, F1, F2, rfl, ⟨rfl, _⟩, ⟨rfl, _⟩⟩ := r.two
  refine ⟨i, j, rfl, ?_⟩
  have e : (if j < i then j else i) = min i j := by split <;> omega
  rw [e]
  exact k _ _ _ (nwI _) q
theorem opn_max : OpN K (fun xs H Q => ∃ i j, xs = [.int i, .int j] ∧ Q (.int (if j > i then j else i)) H) sMax := OpN.mk fun G H ds vs F Q Q' hs r q k => by
  obtain ⟨i, j, rfl, q⟩ := q
  obtain ⟨v, w, F1, F2, rfl, ⟨rfl, _⟩, ⟨rfl, _⟩⟩ := r.two
  refine ⟨i, j, rfl, ?_⟩
  have e : (if j > i then j else i) = max i j := by split <;> omega
  rw [e]
  exact k _ _ _ (nwI _) q
def sInt : List D → (D → Prop) → Prop := fun ds Q => (∃ i, ds = [.int i] ∧ Q (.int i)) ∨ ∃ b, ds = [.bl b] ∧ Q (.int (if b then 1 else 0))
theorem opn_int : OpN K (fun xs H Q => (∃ i, xs = [.int i] ∧ Q (.int i) H) ∨ ∃ k, xs = [.bl k] ∧ Q (.int (if k then 1 else 0)) H) sInt := OpN.mk fun G H ds vs F Q Q' hs r q k => by
  rcases q with ⟨i, rfl, q⟩ | ⟨b, rfl, q⟩
  · obtain ⟨v, rfl, rfl, _⟩ := r.one'
    exact .inl ⟨i, rfl, k _ _ _ (nwI _) q⟩
  · obtain ⟨v, rfl, rfl, _⟩ := r.one'
    exact .inr ⟨b, rfl, k _ _ _ (nwI _) q⟩
end
section
variable {X : Cv}
/-- a built-in type by its name -/
theorem ve_ty {x : Str} {T : String} {pos : Pos} (hg : Gl X.toCx x) (hm : X.mg x = none) (hv : bootBuiltins x = some (.type T)) (hn : x ≠ "__name__" := by decide) (hd : (x == ("__debug__" : Str)) = false := by decide) : VE X (.Name x pos) (vC (.ty T)) :=
  vc_of (pe_bltn hg hm hv (v := .ty T) rfl hn hd) fun _ _ => ⟨rfl, rfl⟩
end
end VL
namespace VL
open PySem PySem.Spec PyProof.Rows L2 VL
def forgetE : List Nat → Ep → Ep
  | [], ε => ε
  | i :: is, ε => forgetE is (ε.set i none)
def pull : List Nat → Ep → List (Option Nat) × List D × Ep
  | [], ε => ([], [], ε)
  | i :: is, ε => match ε[i]? with
    | some (some d) => let r := pull is (ε.set i none); (some i :: r.1, d :: r.2.1, r.2.2)
    | _ => pull is ε
theorem wipe_get {σ : L2.St} {j : Nat} : ∀ {vs : List Nat}, (wipe σ vs)[j]? = if j ∈ vs then (σ[j]?).map fun _ => none else σ[j]?
  | [] => by simp [wipe]
  | v :: vs => by
    unfold wipe
    by_cases h : v = j
    · subst h
      rw [List.getElem?_set_self', wipe_get]
      simp only [List.mem_cons, true_or, if_true]
      split <;> cases σ[v]? <;> rfl
    · rw [List.getElem?_set_ne h, wipe_get]
      have : j ≠ v := fun e => h e.symm
      simp [this]
theorem wipe_set {σ : L2.St} {i : Nat} {x : Option V} {vs : List Nat} (h : i ∈ vs) : wipe (σ.set i x) vs = wipe σ vs := by
  apply List.ext_getElem?
  intro j
  rw [wipe_get, wipe_get]
  by_cases e : i = j
  · subst e
    rw [if_pos h, if_pos h, List.getElem?_set_self']
    cases σ[i]? <;> rfl
  · rw [List.getElem?_set_ne e]
theorem wipe_wipe {σ : L2.St} {vs : List Nat} : wipe (wipe σ vs) vs = wipe σ vs := by
  apply List.ext_getElem?
  intro j
  rw [wipe_get, wipe_get]
  split
  · cases σ[j]? <;> rfl
  · rfl
section
variable {K : PySem.W.Frag} {b : Bs} {σ : L2.St} {H H' : Hp} {ε : Ep} {T : List D} {Tv : List V}
/-- a slot is told no more -/
theorem SI.forget1 (I : SI K b σ H ε T Tv) (i : Nat) : SI K b σ H (ε.set i none) T Tv := by
  by_cases hi : i < ε.length
  · obtain ⟨G, F, Ft, J⟩ := I
    obtain ⟨ov, A, B, C, hs, rfl, r, back⟩ := J.slots.focus (i := i) (List.getElem?_eq_getElem hi)
    have s2 := back G H none ov [] Sub.refl (fun _ _ => rfl) rfl
    rw [setSelf hs, List.append_nil] at s2
    have sb : ∀ a, a ∈ A ++ C ++ Ft → a ∈ A ++ B ++ C ++ Ft := fun a z => by
      simp only [List.mem_append] at z ⊢
      grind
    have nd : (A ++ C ++ Ft).Nodup := by
      have h1 : (A ++ B ++ C ++ Ft).Perm (B ++ (A ++ C ++ Ft)) := by
        apply List.perm_iff_count.mpr
        intro a
        simp only [List.count_append]
        omega
      exact (List.nodup_append.mp (h1.nodup_iff.mp J.nd)).2.1
    exact ⟨G, _, Ft, J.s0, J.sub, s2, J.temps, nd, fun a z => J.fr a (sb a z), fun a z => J.own a (sb a z), J.gn, J.keep, J.kept⟩
  · rw [List.set_eq_of_length_le (by omega)]
    exact I
theorem SI.forget : ∀ {is : List Nat} {ε : Ep}, SI K b σ H ε T Tv → SI K b σ H (forgetE is ε) T Tv
  | [], ε, I => I
  | i :: is, ε, I => SI.forget (is := is) (I.forget1 i)
theorem forgetE_get {j : Nat} : ∀ {is : List Nat} {ε : Ep}, (forgetE is ε)[j]? = if j ∈ is then (ε[j]?).map fun _ => none else ε[j]?
  | [], ε => by simp [forgetE]
  | i :: is, ε => by
    unfold forgetE
    rw [forgetE_get]
    by_cases h : i = j
    · subst h
      simp only [List.mem_cons, true_or, if_true, List.getElem?_set_self']
      split <;> cases ε[i]? <;> rfl
    · rw [List.getElem?_set_ne h]
      have : j ≠ i := fun e => h e.symm
      simp [this]
theorem SI.pull (hl : T.length = Tv.length) : ∀ {is : List Nat} {ε : Ep} {R : List D} {Rv : List V}, R.length = Rv.length → SI K b σ H ε (T ++ R) (Tv ++ Rv) →
    ∃ vs, SI K b σ H (VL.pull is ε).2.2 (T ++ (R ++ (VL.pull is ε).2.1)) (Tv ++ (Rv ++ vs)) ∧ Held σ (VL.pull is ε).1 vs ∧ (VL.pull is ε).2.1.length = vs.length ∧ (∀ j, (VL.pull is ε).2.2[j]? = if j ∈ is then (ε[j]?).map fun _ => none else ε[j]?)
  | [], ε, R, Rv, hr, I => ⟨[], by simpa [VL.pull] using I, trivial, rfl, fun j => by simp [VL.pull]⟩
  | i :: is, ε, R, Rv, hr, I => by
    unfold VL.pull
    cases e : ε[i]? with
    | none =>
      obtain ⟨vs, J, hh, hl2, hg⟩ := SI.pull hl (is := is) hr I
      refine ⟨vs, J, hh, hl2, fun j => ?_⟩
      show (VL.pull is ε).2.2[j]? = _
      rw [hg]
      by_cases h : j = i
      · subst h
        rw [e]
        simp
      · simp [h]
    | some od =>
      cases od with
      | none =>
        obtain ⟨vs, J, hh, hl2, hg⟩ := SI.pull hl (is := is) hr I
        refine ⟨vs, J, hh, hl2, fun j => ?_⟩
        show (VL.pull is ε).2.2[j]? = _
        rw [hg]
        by_cases h : j = i
        · subst h
          rw [e]
          simp
        · simp [h]
      | some d =>
        obtain ⟨v, hs, J⟩ := I.mov e
        obtain ⟨vs, J2, hh, hl2, hg⟩ := SI.pull hl (is := is) (R := R ++ [d]) (Rv := Rv ++ [v]) (by simp [hr]) (by simpa only [List.append_assoc] using J)
        refine ⟨v :: vs, ?_, ⟨hs, hh⟩, by simp [hl2], fun j => ?_⟩
        · simpa only [List.append_assoc, List.cons_append, List.nil_append] using J2
        · show (VL.pull is (ε.set i none)).2.2[j]? = _
          rw [hg]
          by_cases h : i = j
          · subst h
            simp only [List.mem_cons, true_or, if_true, List.getElem?_set_self']
            split <;> cases ε[i]? <;> rfl
          · rw [List.getElem?_set_ne h]
            have : j ≠ i := fun e => h e.symm
            simp [this]
/-- slots that are not told may hold anything -/
theorem RpS.reslot {G : Hp} : ∀ {ε : Ep} {σ σ' : L2.St} {F : List Addr}, RpS K G H ε σ F → σ'.length = σ.length → (∀ (j : Nat) d, ε[j]? = some (some d) → σ'[j]? = σ[j]?) → RpS K G H ε σ' F
  | [], σ, σ', F, h, hl, _ => by
    obtain ⟨rfl, rfl⟩ := h
    exact ⟨List.length_eq_zero_iff.mp hl, rfl⟩
  | od :: ε, σ, σ', F, h, hl, k => by
    obtain ⟨ov, σ1, F1, F2, rfl, rfl, r, rs⟩ := h
    cases σ' with
    | nil => cases hl
    | cons ov' σ'' =>
      refine ⟨ov', σ'', F1, F2, rfl, rfl, ?_, RpS.reslot rs (Nat.succ.inj hl) fun j d e => by simpa using k (j + 1) d (by simpa using e)⟩
      cases od with
      | none => exact r
      | some d =>
        have := k 0 d rfl
        simp at this
        rw [this]
        exact r
theorem SI.reslot {σ' : L2.St} (I : SI K b σ H ε T Tv) (hl : σ'.length = σ.length) (h : ∀ (j : Nat) d, ε[j]? = some (some d) → σ'[j]? = σ[j]?) (hk : ∀ (j : Nat) v, b.kv[j]? = some (some v) → σ'[j]? = σ[j]?) : SI K b σ' H ε T Tv := by
  obtain ⟨G, F, Ft, J⟩ := I
  exact ⟨G, F, Ft, J.s0, J.sub, J.slots.reslot hl h, J.temps, J.nd, J.fr, J.own, J.gn, J.keep, fun j v e => (hk j v e).trans (J.kept j v e)⟩
/-- held things change places -/
theorem SI.swap {A B C : List D} {Av Bv Cv : List V} (I : SI K b σ H ε (T ++ (A ++ (B ++ C))) (Tv ++ (Av ++ (Bv ++ Cv)))) (hl : T.length = Tv.length) (ha : A.length = Av.length) (hb : B.length = Bv.length) : SI K b σ H ε (T ++ (B ++ (A ++ C))) (Tv ++ (Bv ++ (Av ++ Cv))) := by
  obtain ⟨G, F, Ft, J⟩ := I
  obtain ⟨F1, F2, rfl, r1, r2⟩ := J.temps.split2 hl
  obtain ⟨F3, F4, rfl, r3, r4⟩ := r2.split2 ha
  obtain ⟨F5, F6, rfl, r5, r6⟩ := r4.split2 hb
  have pm : (F ++ (F1 ++ (F3 ++ (F5 ++ F6)))).Perm (F ++ (F1 ++ (F5 ++ (F3 ++ F6)))) := by
    apply List.perm_iff_count.mpr
    intro z
    simp only [List.count_append]
    omega
  exact ⟨G, F, _, J.s0, J.sub, J.slots, r1.append (r5.append (r3.append r6)), pm.nodup_iff.mp J.nd, fun z hz => J.fr z (pm.mem_iff.mpr hz), fun z hz => J.own z (pm.mem_iff.mpr hz), J.gn, J.keep, J.kept⟩
/-- a thing is put behind the others in a held list of our own -/
theorem SI.accPush {acc : List D} {y : D} {p : Addr} {v : V} (I : SI K b σ H ε (T ++ [.lst true acc, y]) (Tv ++ [.ref p, v])) (hl : T.length = Tv.length) : ∃ vs, H p = some (.lst vs) ∧ vs.length = acc.length ∧ SI K b σ (upd H p (.lst (vs ++ [v]))) ε (T ++ [.lst true (acc ++ [y])]) (Tv ++ [.ref p]) := by
  obtain ⟨G, F, Ft, J⟩ := I
  obtain ⟨F1, F2, rfl, r1, r2⟩ := J.temps.split2 hl
  obtain ⟨v', vs1, A, B, e1, rfl, ra, v2, vs2, A2, B2, e2, rfl, rb, rfl, rfl⟩ := r2
  cases e1
  cases e2
  obtain ⟨a, us, A', ea, ha, rfl, rl⟩ := ra
  cases ea
  have nd := J.nd
  have pm : (F ++ (F1 ++ (p :: A' ++ (A2 ++ [])))).Perm (p :: (F ++ (F1 ++ (A' ++ A2)))) := by
    apply List.perm_iff_count.mpr
    intro z
    simp only [List.count_append, List.count_cons, List.cons_append, List.count_nil]
    omega
  have nd2 := pm.nodup_iff.mp nd
  have np := (List.nodup_cons.mp nd2).1
  have ev : ∀ z, z ∈ F ++ (F1 ++ (A' ++ A2)) → upd H p (.lst (us ++ [v])) z = H z := fun z hz => upd_ne fun e => np (e ▸ hz)
  have gp : G p = none := J.fr p (pm.mem_iff.mpr List.mem_cons_self)
  have pm2 : (F ++ (F1 ++ (p :: (A' ++ A2)))).Perm (p :: (F ++ (F1 ++ (A' ++ A2)))) := by
    apply List.perm_iff_count.mpr
    intro z
    simp only [List.count_append, List.count_cons]
    omega
  refine ⟨us, ha, rl.len.symm, G, F, F1 ++ (p :: (A' ++ A2)), J.s0, fun z o q => ?_, J.slots.mono Sub.refl fun z hz => ev z (List.mem_append_left _ hz), ?_, pm2.nodup_iff.mpr nd2, fun z hz => J.fr z (pm.mem_iff.mpr (pm2.mem_iff.mp hz)), fun z hz => J.own z (pm.mem_iff.mpr (pm2.mem_iff.mp hz)), J.gn, fun z o q n => ?_, J.kept⟩
  · rw [upd_ne fun e => by rw [e, gp] at q; cases q]
    exact J.sub z o q
  · refine (r1.mono Sub.refl fun z hz => ev z (List.mem_append_right _ (List.mem_append_left _ hz))).append (RpL.one.mpr ⟨p, us ++ [v], A' ++ A2, rfl, upd_same, rfl, ?_⟩)
    exact (rl.append (RpL.one.mpr rb)).mono Sub.refl fun z hz => ev z (List.mem_append_right _ (List.mem_append_right _ hz))
  · rw [upd_ne fun e => ?_]
    · exact J.keep z o q n
    · subst e
      rcases J.own z (pm.mem_iff.mpr List.mem_cons_self) with h | h
      · exact n h
      · rw [q] at h; cases h
end
section
variable {X : Cv}
structure VTo (X : Cv) (own : List Nat) (tg : Expr) (t : VTG) : Prop where
  ex : ∃ g : TG, PG X.toCx tg g ∧ ∀ (b : Bx X) σ H ε T Tv d v Q Q', SI X.K b.1 σ H ε (T ++ [d]) (Tv ++ [v]) → T.length = Tv.length → t d ε Q →
    (∀ ε' σ' H', wipe σ' own = wipe σ own → SI X.K b.1 σ' H' ε' T Tv → Q ε' → Q' σ' H') → g v σ H Q'
theorem vto_name {own : List Nat} {i : Nat} {x : Str} {pos : Pos} (ho : i ∈ own) (hN : X.N.Nodup) (hi : X.N[i]? = some x) (hx : Loc X.env.scope x) (hk : X.κ[i]? ≠ some true)
    (hf : X.fn x = true ∨ X.env.scope.names.lookup x = some .local := by first | exact .inl rfl | exact .inr rfl | assumption) : VTo X own (.Name x pos) (vName i) :=
  ⟨gName i, pg_name hN hi hx hf, fun b σ H ε T Tv d v Q Q' I l q k => k _ _ H (wipe_set ho) (I.store l q.1 (b.free hk)) q.2⟩
structure VTs (X : Cv) (ifs : List Expr) (t : VTT) : Prop where
  ex : ∃ t' : WX → TT, (∀ W, Takes X.toCx W → PTs X.toCx ifs (t' W)) ∧ ∀ (b : Bx X) σ H ε T Tv W N Q Q', SI X.K b.1 σ H ε T Tv → t N ε Q →
    (∀ c ε' H', SI X.K b.1 σ H' ε' T Tv → Q c ε' → Q' c H') → XL X.K b.1 T Tv W N → t' W σ H Q'
def vYes : VTT := fun _ ε Q => Q true ε
theorem vts_nil : VTs X [] vYes := ⟨fun _ => tYes, fun _ _ => pts_nil, fun b σ H ε T Tv W N Q Q' I q k x => k true ε H I q⟩
theorem vts_one {c : Expr} {t : VTT} (h : VT X c t) : VTs X [c] t := by
  obtain ⟨t', h1, h2⟩ := h.ex
  exact ⟨t', fun W tk => pts_one (h1 W tk), h2⟩
def noX : WV := fun _ _ _ => False
def vLcL (own : List Nat) (g : VTG) (tt : VTT) (te : VTE) : List D → List D → Ep → (List D → Ep → Prop) → Prop
  | [], acc, ε, Q => Q acc ε
  | d :: ds, acc, ε, Q => g d ε fun ε1 => tt noX ε1 fun c ε2 => if c = true then te noX ε2 fun y ε3 => acc.length < 1000000 ∧ vLcL own g tt te ds (acc ++ [y]) (forgetE own ε3) Q else vLcL own g tt te ds acc (forgetE own ε2) Q
def vLc (own : List Nat) (wi : VTA) (g : VTG) (tt : VTT) (te : VTE) : VTE := fun N ε Q => wi N ε fun ds ε1 => vLcL own g tt te ds [] (pull own ε1).2.2 fun acc ε' => Q (.lst true acc) (restore (pull own ε1).1 (pull own ε1).2.1 ε')
/-- a block's context -/
abbrev Cv.blk (X : Cv) (s : Shared) (H : Hp) (scope : Scope) (C : Addr) (cl : List (Str × Addr)) (fp : List Addr) : Cv := { X.toCx.blk s H scope (compEnvC scope cl C X.env) fp with κ := X.κ }
theorem takes_no {Y : Cx} : Takes Y (fun _ _ _ _ => False) := fun _ _ ⟨_, _, _, _, _, _, _, _, _, _, _, _, _, _, _, _, w⟩ => w.elim
abbrev BI : Type := Shared × Hp × Addr × List (Str × Addr) × List Addr
theorem lc_run {own : List Nat} {g : VTG} {tt : VTT} {te : VTE} {tgE elt : Expr} {ifs : List Expr} {scope : Scope}
    (hk : ∀ i ∈ own, X.κ[i]? ≠ some true)
    (hg : ∀ c : BI, VTo (X.blk c.1 c.2.1 scope c.2.2.1 c.2.2.2.1 c.2.2.2.2) own tgE g) (ht : ∀ c : BI, VTs (X.blk c.1 c.2.1 scope c.2.2.1 c.2.2.2.1 c.2.2.2.2) ifs tt) (he : ∀ c : BI, VE (X.blk c.1 c.2.1 scope c.2.2.1 c.2.2.2.1 c.2.2.2.2) elt te) :
    ∃ (g' : TG) (tt' : TT) (te' : TE), (∀ c : BI, PG (X.blk c.1 c.2.1 scope c.2.2.1 c.2.2.2.1 c.2.2.2.2).toCx tgE g') ∧ (∀ c : BI, PTs (X.blk c.1 c.2.1 scope c.2.2.1 c.2.2.2.1 c.2.2.2.2).toCx ifs tt') ∧ (∀ c : BI, PE (X.blk c.1 c.2.1 scope c.2.2.1 c.2.2.2.1 c.2.2.2.2).toCx elt te') ∧
      ∀ (b : Bx X) σ H ε T Tv R Rv ds J (Q : List D → Ep → Prop) (Q' : VK), SI X.K b.1 σ H ε (T ++ R) (Tv ++ Rv) → T.length = Tv.length → R.length = Rv.length → Wk X.K J ds R Rv → vLcL own g tt te ds [] (pull own ε).2.2 (fun acc ε' => Q acc (restore (pull own ε).1 (pull own ε).2.1 ε')) →
        (∀ acc v ε' H', SI X.K b.1 σ H' ε' (T ++ [.lst true acc]) (Tv ++ [v]) → Q acc ε' → Q' v H') →
        ∀ D, H D = none → ∃ W : Nat → Nat → Hp → Prop, (∃ m, W 0 m (upd H D (.lst []))) ∧ ∀ i m H, W i m H →
          (J.stop i H ∧ Q' (.ref D) H) ∨ (J.go i H ∧ ∃ Nx : Hp → Prop, (∀ H', Nx H' → ∃ m', m' < m ∧ W (i + 1) m' H') ∧ ∀ x H', J.yld i H x H' → g' x (wipe σ own) H' fun σ2 H2 => wipe σ2 own = wipe σ own ∧ tt' σ2 H2 fun b H3 =>
            if b = true then te' σ2 H3 fun y H4 => ∃ acc, H4 D = some (.lst acc) ∧ acc.length < sizeLine ∧ Nx (upd H4 D (.lst (acc ++ [y]))) else Nx H3) := by
  let gc : BI → TG := fun c => Classical.choose (hg c).ex
  have gs := fun c => Classical.choose_spec (hg c).ex
  let tc : BI → WX → TT := fun c => Classical.choose (ht c).ex
  have ts := fun c => Classical.choose_spec (ht c).ex
  let ec : BI → WX → TE := fun c => Classical.choose (he c).ex
  have es := fun c => Classical.choose_spec (he c).ex
  let Wn : WX := fun _ _ _ _ => False
  refine ⟨fun v σ H Q => ∀ c, gc c v σ H Q, fun σ H Q => ∀ c, tc c Wn σ H Q, fun σ H Q => ∀ c, ec c Wn σ H Q, fun c => ⟨fun pins s σ H v u Q I r w => (gs c).1.run pins s σ H v u Q I r (w c)⟩, fun c => ⟨fun pins s σ H Q I w => ((ts c).1 Wn takes_no).run pins s σ H Q I (w c)⟩, fun c => ⟨fun pins s σ H Q I w => ((es c).1 Wn takes_no).run pins s σ H Q I (w c)⟩, ?_⟩
  intro b σ H ε T Tv R Rv ds J Q Q' I hl hr wk q k D nD
  obtain ⟨pv, Ip, hh, lp, pg⟩ := SI.pull hl (is := own) hr I
  generalize hpr : pull own ε = pr at q Ip hh lp pg
  obtain ⟨rs, pd, ε0⟩ := pr
  simp only at q Ip hh lp pg
  have hlR : (T ++ (R ++ pd)).length = (Tv ++ (Rv ++ pv)).length := by simp [hl, hr, lp]
  -- the slots of the block's own names hold nothing
  have xl : ∀ {T : List VL.D} {Tv : List V}, XL X.K b.1 T Tv Wn noX := fun _ _ _ _ _ _ _ _ _ _ z => z.elim
  have wipeI : ∀ {H : Hp} {ε2 : Ep} {T : List VL.D} {Tv : List V} {σ2 : L2.St}, (∀ i ∈ own, ∀ d, ε2[i]? ≠ some (some d)) → wipe σ2 own = wipe σ own → SI X.K b.1 σ2 H ε2 T Tv → SI X.K b.1 (wipe σ own) H ε2 T Tv := by
    intro H ε2 T Tv σ2 hn hw I
    have key : ∀ j, j ∉ own → (wipe σ own)[j]? = σ2[j]? := fun j hj => by
      rw [← hw, wipe_get, if_neg hj]
    refine I.reslot (by rw [← hw, wipe_length]) (fun j d e => key j fun hj => hn j hj d e) fun j v e => key j fun hj => b.free (hk j hj) v e
  have unwipe : ∀ {H : Hp} {ε2 : Ep} {T : List VL.D} {Tv : List V}, (∀ i ∈ own, ∀ d, ε2[i]? ≠ some (some d)) → SI X.K b.1 (wipe σ own) H ε2 T Tv → SI X.K b.1 σ H ε2 T Tv := by
    intro H ε2 T Tv hn I
    have key : ∀ j, j ∉ own → σ[j]? = (wipe σ own)[j]? := fun j hj => by
      rw [wipe_get, if_neg hj]
    refine I.reslot (by rw [wipe_length]) (fun j d e => key j fun hj => hn j hj d e) fun j v e => key j fun hj => b.free (hk j hj) v e
  have fn : ∀ {ε : Ep}, ∀ i ∈ own, ∀ d, (forgetE own ε)[i]? ≠ some (some d) := fun {ε} i hi d e => by
    rw [forgetE_get, if_pos hi] at e
    cases h : ε[i]? <;> rw [h] at e <;> cases e
  have fn0 : ∀ i ∈ own, ∀ d, ε0[i]? ≠ some (some d) := fun i hi d e => by
    rw [pg, if_pos hi] at e
    cases h : ε[i]? <;> rw [h] at e <;> cases e
  let Iv := fun (i m : Nat) (H : Hp) => m = ds.length - i ∧ i ≤ ds.length ∧ ∃ ε2 acc, (∀ i ∈ own, ∀ d, ε2[i]? ≠ some (some d)) ∧ SI X.K b.1 (wipe σ own) H ε2 (T ++ (R ++ (pd ++ [.lst true acc]))) (Tv ++ (Rv ++ (pv ++ [.ref D]))) ∧ vLcL own g tt te (ds.drop i) acc ε2 fun acc ε' => Q acc (restore rs pd ε')
  refine ⟨Iv, ⟨ds.length, rfl, Nat.zero_le _, ε0, [], fn0, ?_, q⟩, ?_⟩
  · have I0 := wipeI fn0 rfl Ip
    have := SI.laid (ds := []) (vs := []) (T := T ++ (R ++ pd)) (Tv := Tv ++ (Rv ++ pv)) (by simpa using I0) hlR nD (.lst []) (d := .lst true []) fun G H' F e r => ⟨D, [], F, rfl, e, rfl, r⟩
    simpa only [List.append_assoc] using this
  rintro i m H2 ⟨rfl, hi, ε2, acc, hn2, I2, z2⟩
  have lpa : (pd ++ [VL.D.lst true acc]).length = (pv ++ [V.ref D]).length := by simp [lp]
  have IR : SI X.K b.1 (wipe σ own) H2 ε2 ((T ++ (pd ++ [.lst true acc])) ++ R) ((Tv ++ (pv ++ [.ref D])) ++ Rv) := by
    have := SI.swap (A := R) (B := pd ++ [.lst true acc]) (C := []) (Av := Rv) (Bv := pv ++ [.ref D]) (Cv := []) (by simpa using I2) hl hr lpa
    simpa using this
  have hl2 : (T ++ (pd ++ [VL.D.lst true acc])).length = (Tv ++ (pv ++ [V.ref D])).length := by simp [hl, lp]
  obtain ⟨go, stop⟩ := wk b.1 (wipe σ own) H2 ε2 _ _ i hl2 IR
  by_cases hlt : i < ds.length
  · right
    rw [List.drop_eq_getElem_cons hlt] at z2
    obtain ⟨g0, gy⟩ := go ds[i] (List.getElem?_eq_getElem hlt)
    refine ⟨g0, Iv (i + 1) (ds.length - (i + 1)), fun H' y => ⟨ds.length - (i + 1), by omega, y⟩, fun x H' y c => ?_⟩
    have I3 := gy x H' y
    have I4 : SI X.K b.1 (wipe σ own) H' ε2 (T ++ (R ++ ((pd ++ [.lst true acc]) ++ [ds[i]]))) (Tv ++ (Rv ++ ((pv ++ [.ref D]) ++ [x]))) :=
      SI.swap (A := pd ++ [.lst true acc]) (B := R) (C := [ds[i]]) (Av := pv ++ [.ref D]) (Bv := Rv) (Cv := [x]) (by simpa only [List.append_assoc] using I3) hl lpa hr
    have hl3 : (T ++ (R ++ (pd ++ [VL.D.lst true acc]))).length = (Tv ++ (Rv ++ (pv ++ [V.ref D]))).length := by simp [hl, hr, lp]
    refine (gs c).2 b _ H' ε2 (T ++ (R ++ (pd ++ [.lst true acc]))) (Tv ++ (Rv ++ (pv ++ [.ref D]))) ds[i] x _ _ (by simpa only [List.append_assoc] using I4) hl3 z2 fun ε3 σ3 H3 hw I5 z3 => ?_
    refine ⟨by rw [hw, wipe_wipe], fun c2 => ?_⟩
    refine (ts c2).2 b σ3 H3 ε3 _ _ Wn noX _ _ I5 z3 (fun k4 ε4 H4 I6 z4 => ?_) xl
    have hw3 : wipe σ3 own = wipe σ own := by rw [hw, wipe_wipe]
    cases k4 with
    | false => exact ⟨rfl, hlt, forgetE own ε4, acc, fn, wipeI fn hw3 I6.forget, z4⟩
    | true =>
      intro c3
      refine (es c3).2 b σ3 H4 ε4 _ _ Wn noX _ _ I6 z4 (fun yd yv ε5 H5 I7 z5 => ?_) xl
      have hl4 : (T ++ (R ++ pd)).length = (Tv ++ (Rv ++ pv)).length := hlR
      obtain ⟨vs, hv, lv, I8⟩ := SI.accPush (T := T ++ (R ++ pd)) (Tv := Tv ++ (Rv ++ pv)) (acc := acc) (y := yd) (p := D) (v := yv) (by simpa only [List.append_assoc, List.cons_append, List.nil_append] using I7) hl4
      refine ⟨vs, hv, by rw [lv]; exact k1m z5.1, rfl, hlt, forgetE own ε5, acc ++ [yd], fn, wipeI fn hw3 (SI.forget ?_), z5.2⟩
      simpa only [List.append_assoc, List.cons_append, List.nil_append] using I8
  · left
    have e : i = ds.length := by omega
    subst e
    rw [List.drop_length] at z2
    refine ⟨stop (Nat.le_refl _), ?_⟩
    have I9 := unwipe hn2 I2
    have I10 := SI.midDrops I9 hl hr
    exact k acc (.ref D) _ H2 (SI.restore hl hh lp I10) z2
theorem ve_lc {elt tg iter : Expr} {ifs : List Expr} {scope : Scope} {own : List (Str × Nat)} {pos : Pos} {wi : VTA} {g : VTG} {tt : VTT} {te : VTE} (hc : X.calm = true) (hN : X.N.Nodup) (ok : BlkOk X.N X.env.scope scope own) (hk : ∀ i ∈ own.map (·.2), X.κ[i]? ≠ some true) (hi : VI X tg iter wi)
    (hg : ∀ c : BI, VTo (X.blk c.1 c.2.1 scope c.2.2.1 c.2.2.2.1 c.2.2.2.2) (own.map (·.2)) tg g) (ht : ∀ c : BI, VTs (X.blk c.1 c.2.1 scope c.2.2.1 c.2.2.2.1 c.2.2.2.2) ifs tt) (he : ∀ c : BI, VE (X.blk c.1 c.2.1 scope c.2.2.1 c.2.2.2.1 c.2.2.2.2) elt te)
    (hs : ∀ x, foldedSetIterable iter X.env x = pure x := by intro _; rfl) : VE X (.ListComp elt [⟨tg, iter, ifs, 0⟩] scope pos) (vLc (own.map (·.2)) wi g tt te) := by
  obtain ⟨wi', w1, w2⟩ := hi.ex
  obtain ⟨g', tt', te', h1, h2, h3, run⟩ := lc_run hk hg ht he
  refine ⟨fun W => tLc (wi' W) g' tt' te' (own.map (·.2)), fun W tk => pe_lc hc hN (w1 W tk) ok (fun s H C cl fp => h1 ⟨s, H, C, cl, fp⟩) (fun s H C cl fp => h2 ⟨s, H, C, cl, fp⟩) (fun s H C cl fp => h3 ⟨s, H, C, cl, fp⟩) hs, fun b σ H ε T Tv W N Q Q' I q k x => ?_⟩
  exact w2 b σ H ε T Tv W N _ _ I q (fun ds R Rv J ε1 H1 I1 hr wk z => run b σ H1 ε1 T Tv R Rv ds J _ Q' I1 I.lenT hr wk z fun acc v ε' H' I' z' => k _ v ε' H' I' z') x
end
end VL
namespace VL
open PySem PySem.Spec PyProof.Rows L2 VL
def cutL {α : Type} (xs : List α) (lo hi : Option Int) : List α := (xs.drop (HT.sIx xs.length 0 lo)).take (HT.sIx xs.length xs.length hi - HT.sIx xs.length 0 lo)
section
variable {K : PySem.W.Frag} {G H : Hp}
theorem RpL.drop : ∀ {ds : List D} {vs : List V} (n : Nat), RpL K G H ds vs [] → RpL K G H (ds.drop n) (vs.drop n) []
  | _, _, 0, r => by simpa using r
  | [], vs, n + 1, r => by
    obtain ⟨rfl, _⟩ := r
    exact ⟨rfl, rfl⟩
  | d :: ds, vs, n + 1, r => by
    obtain ⟨v, vs', F1, F2, rfl, f, rd, rs⟩ := r
    obtain ⟨rfl, rfl⟩ := List.append_eq_nil_iff.mp f.symm
    simpa using RpL.drop n rs
theorem RpL.take : ∀ {ds : List D} {vs : List V} (n : Nat), RpL K G H ds vs [] → RpL K G H (ds.take n) (vs.take n) []
  | _, _, 0, r => by simp only [List.take_zero]; exact ⟨rfl, rfl⟩
  | [], vs, n + 1, r => by
    obtain ⟨rfl, _⟩ := r
    exact ⟨rfl, rfl⟩
  | d :: ds, vs, n + 1, r => by
    obtain ⟨v, vs', F1, F2, rfl, f, rd, rs⟩ := r
    obtain ⟨rfl, rfl⟩ := List.append_eq_nil_iff.mp f.symm
    exact ⟨v, vs'.take n, [], [], rfl, rfl, rd, RpL.take n rs⟩
theorem RpL.cut {ds : List D} {vs : List V} (r : RpL K G H ds vs []) (lo hi : Option Int) : RpL K G H (cutL ds lo hi) (cutV vs lo hi) [] := by
  unfold cutL cutV
  rw [r.len]
  exact (r.drop _).take _
theorem cutS_toS (s : Cs) (lo hi : Option Int) : cutS (toS s) lo hi = toS (cutL s lo hi) := by
  unfold cutS cutL
  rw [toS_len]
  have : (toS s).cps.toList = s := by simp [toS]
  rw [this]
  rfl
/-- a slice of a text, a list, a tuple, whose items stand still -/
def sliceD : D → Option Int → Option Int → Option D
  | .str s, lo, hi => if s.length < 1000000 then some (.str (cutL s lo hi)) else none
  | .lst _ ds, lo, hi => if isFzL ds = true then some (.lst true (cutL ds lo hi)) else none
  | .tup ds, lo, hi => if isFzL ds = true then some (.tup (cutL ds lo hi)) else none
  | _, _, _ => none
def rSlD (K : PySem.W.Frag) : V → Option Int → Option Int → Hp → VK → Prop := fun x lo hi H Q => rSlS x lo hi H Q ∨ rSlL K x lo hi H Q ∨ rSlA K x lo hi H Q
theorem sl_any {X : Cx} : SlR X (rSlD X.K) := SlR.or sl_str (SlR.or sl_list sl_tupA)
theorem sl_run (hs : Sub G H) {x d : D} {v : V} {F : List Addr} {lo hi : Option Int} {Q' : VK} (r : Rp K G H x v F) (h : sliceD x lo hi = some d) (k : ∀ v H', Nw K G H d v H' → Q' v H') : rSlD K v lo hi H Q' := by
  cases x with
  | str s =>
    have h : (if s.length < 1000000 then some (D.str (cutL s lo hi)) else none) = some d := h
    by_cases hz : s.length < 1000000
    · rw [if_pos hz] at h
      cases h
      obtain ⟨rfl, _⟩ := r
      refine .inl ⟨toS s, rfl, by rw [toS_len]; exact Nat.le_of_lt (k1m hz), ?_⟩
      rw [cutS_toS]
      exact k _ _ (nwS _)
    · rw [if_neg hz] at h; cases h
  | lst m xs =>
    have h : (if isFzL xs = true then some (D.lst true (cutL xs lo hi)) else none) = some d := h
    by_cases hf : isFzL xs = true
    · rw [if_pos hf] at h
      cases h
      have hx : ∃ a us, v = .ref a ∧ SqL K H a us ∧ RpL K G H xs us [] := by
        cases m with
        | false => obtain ⟨a, us, e, s, _, r⟩ := r; exact ⟨a, us, e, hs.sqL s, r⟩
        | true => obtain ⟨a, us, F', e, s, _, r⟩ := r; have := r.fz hf; subst this; exact ⟨a, us, e, SqL.of s, r⟩
      obtain ⟨a, us, rfl, s, r⟩ := hx
      exact .inr (.inl ⟨a, us, rfl, s, fun p hp => k _ _ (.lst (r.cut lo hi) hp)⟩)
    · rw [if_neg hf] at h; cases h
  | tup xs =>
    have h : (if isFzL xs = true then some (D.tup (cutL xs lo hi)) else none) = some d := h
    by_cases hf : isFzL xs = true
    · rw [if_pos hf] at h
      cases h
      obtain ⟨a, us, rfl, s, r⟩ := r
      have := r.fz hf; subst this
      refine .inr (.inr ⟨a, us, rfl, SqT.of (hs _ _ s), fun w => ?_, fun _ p hp => k _ _ (.tup (r.cut lo hi) hp)⟩)
      have e : cutL xs lo hi = xs := by
        unfold cutL
        rw [r.len, w.1, w.2, List.drop_zero, Nat.sub_zero, ← r.len, List.take_length]
      rw [e] at k
      exact k _ _ (.val fun G' H' s' => ⟨a, us, rfl, s' _ _ s, r.mono s' fun _ z => nomatch z⟩)
    · rw [if_neg hf] at h; cases h
  | _ => cases h
end
/-- a slice's part -/
abbrev VTO := WV → Ep → (Option Int → Ep → Prop) → Prop
section
variable {X : Cv}
structure VO (X : Cv) (e : Option Expr) (t : VTO) : Prop where
  ex : ∃ t' : WX → TO, (∀ W, Takes X.toCx W → PO X.toCx e (t' W)) ∧ ∀ (b : Bx X) σ H ε T Tv W N (Q : Option Int → Ep → Prop) (Q' : Option Int → Hp → Prop), SI X.K b.1 σ H ε T Tv → t N ε Q →
    (∀ o ε' H', SI X.K b.1 σ H' ε' T Tv → Q o ε' → Q' o H') → XL X.K b.1 T Tv W N → t' W σ H Q'
def vNoPart : VTO := fun _ ε Q => Q none ε
def vPart (t : VTE) : VTO := fun N ε Q => t N ε fun d ε1 => ∃ i, d = .int i ∧ Q (some i) ε1
theorem vo_none : VO X none vNoPart := ⟨fun _ => tNoPart, fun _ _ => po_none, fun b σ H ε T Tv W N Q Q' I q k x => k none ε H I q⟩
theorem vo_some {e : Expr} {t : VTE} (h : VE X e t) : VO X (some e) (vPart t) := by
  obtain ⟨t', h1, h2⟩ := h.ex
  refine ⟨fun W => tPart (t' W), fun W tk => po_some (h1 W tk), fun b σ H ε T Tv W N Q Q' I q k x => ?_⟩
  refine h2 b σ H ε T Tv W N _ _ I q (fun d v ε1 H1 J z => ?_) x
  obtain ⟨i, rfl, z⟩ := z
  obtain ⟨G, F, _, rv, _⟩ := J.last I.lenT
  exact ⟨i, rv, k (some i) ε1 H1 (J.pop I.lenT) z⟩
def vSl (r : Option Nat) (t : VTE) (tl th : VTO) : VTE := fun N ε Q => t N ε fun x ε1 => tl N ε1 fun lo ε2 => th N ε2 fun hi ε3 => ∃ d, sliceD x lo hi = some d ∧ Q d (restore [r] [x] ε3)
theorem ve_slice {e : Expr} {lo hi : Option Expr} {r : Option Nat} {t : VTE} {tl th : VTO} {pos p2 : Pos} (h : VG X e r t) (hl : VO X lo tl) (hh : VO X hi th) : VE X (.Subscript e (.Slice lo hi none p2) pos) (vSl r t tl th) := by
  obtain ⟨t', a1, a2⟩ := h.ex
  obtain ⟨l', b1, b2⟩ := hl.ex
  obtain ⟨h', c1, c2⟩ := hh.ex
  refine ⟨fun W => tSl (rSlD X.K) (t' W) (l' W) (h' W), fun W tk => pe_slice sl_any (a1 W tk) (b1 W tk) (c1 W tk), fun b σ H ε T Tv W N Q Q' I q k x => ?_⟩
  refine a2 b σ H ε T Tv W N _ _ I q (fun d v ε1 H1 J hd z => ?_) x
  refine b2 b σ H1 ε1 _ _ W N _ _ J z (fun o1 ε2 H2 J2 z2 => ?_) (x.more I.lenT rfl)
  refine c2 b σ H2 ε2 _ _ W N _ _ J2 z2 (fun o2 ε3 H3 J3 z3 => ?_) (x.more I.lenT rfl)
  obtain ⟨y, hy, z3⟩ := z3
  have op : OpN X.K (fun vs H Q => ∃ v, vs = [v] ∧ rSlD X.K v o1 o2 H Q) (fun ds Q => ∃ x d, ds = [x] ∧ sliceD x o1 o2 = some d ∧ Q d) := OpN.mk fun G H ds vs F Q Q' hs r q k => by
    obtain ⟨x, d, rfl, h, q⟩ := q
    obtain ⟨v, rfl, rx⟩ := r.one'
    exact ⟨v, rfl, sl_run hs rx h fun v H' nw => k d v H' nw q⟩
  obtain ⟨v', e', z'⟩ := op.run (ds := [d]) (vs := [v]) (rs := [r]) (Q := Q) (Q' := Q') I.lenT rfl J3 hd ⟨d, y, rfl, hy, z3⟩ k
  obtain ⟨rfl, _⟩ := List.cons.inj e'
  exact z'
/-- xs[::-1] -/
def sRev : List D → (D → Prop) → Prop := fun ds Q => ∃ m xs, ds = [.lst m xs] ∧ isFzL xs = true ∧ Q (.lst true xs.reverse)
/-- the value at a key, or x -/
def dget2D (c k x : D) : Option D := match c with
  | .dK _ ks ds => (keyD k).bind fun k => match kIx ks k with | some j => ds[j]? | none => some x
  | .dT _ ks ds => (keyT k).bind fun k => match kIx ks k with | some j => ds[j]? | none => some x
  | _ => none
def isDct : D → Bool
  | .dK _ _ _ => true
  | .dT _ _ _ => true
  | _ => false
def sDGet2 : List D → (D → Prop) → Prop := fun ds Q => ∃ c k x d, ds = [c, k, x] ∧ isFz x = true ∧ dget2D c k x = some d ∧ isFz d = true ∧ Q d
def vDGet2 (r : Option Nat) (tc tk tx : VTE) : VTE := fun N ε Q => tc N ε fun c ε1 => isDct c = true ∧ tk N ε1 fun k ε2 => tx N ε2 fun x ε3 => sDGet2 [c, k, x] fun d => Q d (restore [r] [c] ε3)
def likeD (ks : List Kc) (xs : List D) (ls : List Kc) (ys : List D) : Prop := xs.length = ys.length ∧ ∀ (j : Nat) k x, ks[j]? = some k → xs[j]? = some x → flatD x = true ∧ ∃ i, kIx ls k = some i ∧ ys[i]? = some x
def sEqD (c : Bool) : List D → (D → Prop) → Prop := fun ds Q => ∃ m ks xs n ls ys, ds = [.dK m ks xs, .dK n ls ys] ∧ likeD ks xs ls ys ∧ Q (.bl c)
end
end VL
namespace VL
open PySem PySem.Spec PyProof.Rows L2 VL
abbrev oSub := sI2 fun i j => .int (i - j)
abbrev oLt := sI2 fun i j => .bl (decide (i < j))
abbrev oGt := sI2 fun i j => .bl (decide (j < i))
abbrev oGe := sI2 fun i j => .bl (decide (j ≤ i))
abbrev oMod := sI2c (fun _ j => j ≠ 0) fun i j => .int (pmod i j)
abbrev oDiv := sI2c CDv fun i j => .int (pdiv i j)
abbrev oPow := sI2c CPow fun i j => .int (i ^ j.toNat)
def oNeg : List D → (D → Prop) → Prop := fun ds Q => ∃ i, ds = [.int i] ∧ Q (.int (-i))
theorem opn_neg {K : PySem.W.Frag} : OpN K (r1N (rU fun i => .int (-i))) oNeg := OpN.pure fun G H ds vs F Q Q' hs r q k => by
  obtain ⟨i, rfl, q⟩ := q
  obtain ⟨v, rfl, rfl, _⟩ := r.one'
  exact ⟨_, rfl, i, rfl, k (.int (-i)) _ (fun _ _ _ => ⟨rfl, rfl⟩) q⟩
section
variable {X : Cv}
theorem nv (i : Nat) {x : Str} {pos : Pos} (hN : X.N[i]? = some x := by rfl) (hv : Vis X.env.scope x := by first | exact Or.inl rfl | exact Or.inr (Or.inl rfl) | exact Or.inr (Or.inr rfl)) (hd : (x == ("__debug__" : Str)) = false := by decide) (hcd : (x == ("__classdict__" : Str)) = false := by decide) : VE X (.Name x pos) (vVar i) := ve_var hN hv hd hcd
theorem nm (i : Nat) {x : Str} {pos : Pos} (hN : X.N[i]? = some x := by rfl) (hv : Vis X.env.scope x := by first | exact Or.inl rfl | exact Or.inr (Or.inl rfl) | exact Or.inr (Or.inr rfl)) (hd : (x == ("__debug__" : Str)) = false := by decide) (hcd : (x == ("__classdict__" : Str)) = false := by decide) : VE X (.Name x pos) (vMov i) := ve_mov hN hv hd hcd
theorem nf (i : Nat) {x : Str} {pos : Pos} (hN : X.N[i]? = some x := by rfl) (hv : Vis X.env.scope x := by first | exact Or.inl rfl | exact Or.inr (Or.inl rfl) | exact Or.inr (Or.inr rfl)) (hd : (x == ("__debug__" : Str)) = false := by decide) (hcd : (x == ("__classdict__" : Str)) = false := by decide) : VE X (.Name x pos) (vFrz i) := ve_frz hN hv hd hcd
theorem nq (i : Nat) {x : Str} {pos : Pos} (hN : X.N[i]? = some x := by rfl) (hv : Vis X.env.scope x := by first | exact Or.inl rfl | exact Or.inr (Or.inl rfl) | exact Or.inr (Or.inr rfl)) (hd : (x == ("__debug__" : Str)) = false := by decide) (hcd : (x == ("__classdict__" : Str)) = false := by decide) : VQ X (.Name x pos) (vVar i) := vq_var hN hv hd hcd
theorem np (i : Nat) {x : Str} {pos : Pos} (hN : X.N[i]? = some x := by rfl) (hv : Vis X.env.scope x := by first | exact Or.inl rfl | exact Or.inr (Or.inl rfl) | exact Or.inr (Or.inr rfl)) (hd : (x == ("__debug__" : Str)) = false := by decide) (hcd : (x == ("__classdict__" : Str)) = false := by decide) : VP X (.Name x pos) i (vpName i) := vp_name hN hv hd hcd
theorem ng (i : Nat) {x : Str} {pos : Pos} (hN : X.N[i]? = some x := by rfl) (hv : Vis X.env.scope x := by first | exact Or.inl rfl | exact Or.inr (Or.inl rfl) | exact Or.inr (Or.inr rfl)) (hd : (x == ("__debug__" : Str)) = false := by decide) (hcd : (x == ("__classdict__" : Str)) = false := by decide) : VG X (.Name x pos) (some i) (vMov i) := vg_ref hN hv hd hcd
theorem sa (i : Nat) {x : Str} {e : Expr} {t : VTE} {pos pos' : Pos} (hN : X.N.Nodup) (h : VE X e t) (hi : X.N[i]? = some x := by rfl) (hx : Loc X.env.scope x := by first | exact Or.inl rfl | exact Or.inr rfl) (hk : X.κ[i]? ≠ some true := by exact ne_of_beq_false rfl) (hs : swapsWith e (some (.Name x pos')) pos.line X.env = pure false := by rfl)
    (hf : X.fn x = true ∨ X.env.scope.names.lookup x = some .local := by first | exact .inl rfl | exact .inr rfl) : VS X (.Assign [.Name x pos'] e pos) (vAsg i t) := vs_asg hN hi hx hk h hs hf
theorem tn (i : Nat) {x : Str} {pos : Pos} (hN : X.N.Nodup) (hi : X.N[i]? = some x := by rfl) (hx : Loc X.env.scope x := by first | exact Or.inl rfl | exact Or.inr rfl) (hk : X.κ[i]? ≠ some true := by exact ne_of_beq_false rfl)
    (hf : X.fn x = true ∨ X.env.scope.names.lookup x = some .local := by first | exact .inl rfl | exact .inr rfl) : VTa X (.Name x pos) (vName i) := vt_name hN hi hx hk hf
theorem m_app (i : Nat) {y : Str} {opos : Pos} {e : Expr} {es : List Expr} {rs : List (Option Nat)} {te : VTA} {apos cpos : Pos} (he : VA X (e :: es) rs te) (hrs : rs.all (· == none) = true := by rfl) (hN : X.N[i]? = some y := by rfl) (hv : Vis X.env.scope y := by first | exact Or.inl rfl | exact Or.inr (Or.inl rfl) | exact Or.inr (Or.inr rfl))
    (hd : (y == ("__debug__" : Str)) = false := by decide) (hcd : (y == ("__classdict__" : Str)) = false := by decide)
    (hbase : attributeBase (.Name y opos) "append" X.env (eval (.Name y opos) X.env) = eval (.Name y opos) X.env := by rfl)
    (hfew : ((backTo cpos (starEach (e :: es) X.env)).all (fun x => !x.1) && (backToKw cpos (keywordEach [] X.env)).all (fun x => x.1.isSome) && decide ((e :: es).length + ([] : List Keyword).length + (if ([] : List Keyword).isEmpty then 0 else 1) < 30)) = true := by rfl)
    (hline : (apos.endLine == cpos.line) = true := by rfl) (hs : starEach (e :: es) X.env = (false, eval e X.env) :: starEach es X.env := by rfl) (hplain : (backTo cpos (starEach es X.env)).any (·.1) = false := by rfl) :
    VE X (.Call (.Attribute (.Name y opos) "append" apos) (e :: es) [] cpos) (vMutN muAppend i te) := ve_mutN hN hv he hrs mu_append PySem.F.slot_list_append PySem.F.type_list_append mt_append hd hcd hbase hfew hline hs hplain
theorem mp_app {o e : Expr} {es : List Expr} {i : Nat} {t : VTP} {te : VTA} {apos cpos : Pos} (h : VP X o i t) (he : VAQ X (e :: es) te)
    (hbase : attributeBase o "append" X.env (eval o X.env) = eval o X.env := by rfl)
    (hfew : ((backTo cpos (starEach (e :: es) X.env)).all (fun x => !x.1) && (backToKw cpos (keywordEach [] X.env)).all (fun x => x.1.isSome) && decide ((e :: es).length + ([] : List Keyword).length + (if ([] : List Keyword).isEmpty then 0 else 1) < 30)) = true := by rfl)
    (hline : (apos.endLine == cpos.line) = true := by rfl) (hs : starEach (e :: es) X.env = (false, eval e X.env) :: starEach es X.env := by rfl) (hplain : (backTo cpos (starEach es X.env)).any (·.1) = false := by rfl) :
    VE X (.Call (.Attribute o "append" apos) (e :: es) [] cpos) (vMut muAppend i t te) := ve_mut h he mu_append PySem.F.slot_list_append PySem.F.type_list_append mt_append hbase hfew hline hs hplain
/-- a name as an argument: moved out behind the arguments that follow -/
def vaLate (i : Nat) (u : VTA) : VTA := fun N ε Q => (∃ d, ε[i]? = some (some d)) ∧ u N ε fun ds ε1 => ∃ d, ε1[i]? = some (some d) ∧ Q (d :: ds) (ε1.set i none)
theorem va_late {i : Nat} {x : Str} {pos : Pos} {es : List Expr} {rs : List (Option Nat)} {u : VTA} (k : VA X es rs u) (hN : X.N[i]? = some x) (hv : Vis X.env.scope x) (hd : (x == ("__debug__" : Str)) = false := by decide) (hcd : (x == ("__classdict__" : Str)) = false := by decide)
    (hs : starEach (.Name x pos :: es) X.env = (false, eval (.Name x pos) X.env) :: starEach es X.env := by rfl) : VA X (.Name x pos :: es) (some i :: rs) (vaLate i u) := by
  obtain ⟨u', k1, k2⟩ := k.ex
  refine ⟨fun W => tCons (tVar i) (u' W), fun W tk => pa_cons (pe_var hN hv hd hcd) (k1 W tk) hs, fun b σ H ε T Tv W N Q Q' I q z x => ?_⟩
  obtain ⟨⟨d0, e0⟩, q⟩ := q
  obtain ⟨v, hs, _⟩ := I.mov e0
  refine ⟨v, hs, k2 b σ H ε T Tv W N _ _ I q (fun ds vs ε2 H2 J l hh q2 => ?_) x⟩
  obtain ⟨d, e, q2⟩ := q2
  obtain ⟨v', hs', J2⟩ := J.mov e
  rw [hs] at hs'
  cases hs'
  have J3 := SI.swap (A := ds) (B := [d]) (C := []) (Av := vs) (Bv := [v]) (Cv := []) (by simpa only [List.append_assoc, List.append_nil] using J2) I.lenT l rfl
  exact z (d :: ds) (v :: vs) _ H2 (by simpa using J3) (by simp [l]) ⟨hs, hh⟩ q2
theorem al (i : Nat) {x : Str} {pos : Pos} {es : List Expr} {rs : List (Option Nat)} {u : VTA} (k : VA X es rs u) (hN : X.N[i]? = some x := by rfl) (hv : Vis X.env.scope x := by first | exact Or.inl rfl | exact Or.inr (Or.inl rfl) | exact Or.inr (Or.inr rfl)) (hd : (x == ("__debug__" : Str)) = false := by decide) (hcd : (x == ("__classdict__" : Str)) = false := by decide)
    (hs : starEach (.Name x pos :: es) X.env = (false, eval (.Name x pos) X.env) :: starEach es X.env := by rfl) : VA X (.Name x pos :: es) (some i :: rs) (vaLate i u) := va_late k hN hv hd hcd hs
/-- a module's constant -/
theorem ve_globI {x : Str} {i : Int} {pos : Pos} (hg : Gl X.toCx x) (hm : ∃ t, X.mg x = some (.int i t)) (hd : (x == ("__debug__" : Str)) = false := by decide) : VE X (.Name x pos) (vC (.int i)) :=
  let ⟨t, h⟩ := hm; ve_glob hg h (v := .int i) ⟨t, rfl⟩ (fun _ _ => ⟨rfl, rfl⟩) hd
theorem ve_globS {x z : Str} {s : Cs} {pos : Pos} (hg : Gl X.toCx x) (hm : ∃ t, X.mg x = some (.str z t)) (hz : z.cps.toList = s) (hd : (x == ("__debug__" : Str)) = false := by decide) : VE X (.Name x pos) (vC (.str s)) :=
  let ⟨t, h⟩ := hm; ve_glob hg h (v := .str z) ⟨t, rfl⟩ (fun _ _ => ⟨by rw [← hz, toS_cps], rfl⟩) hd
end
def FnAt (K : PySem.W.Frag) (mg : Str → Option Value) (x : Str) (st : Stmt) : Prop := ∃ f fd, mg x = some (.ref f) ∧ FunD K x x (defArgs st) (defBody st) (defScope st) [] [] f fd
theorem fnAt_of {K : PySem.W.Frag} {mg : Str → Option Value} {x : Str} {st : Stmt} {h : Heap} {a : Str × Option Str} (X : K.In h) (G : h.Ns mainGlobals mg) (c : (He.Fa.glo x).ok K = true) (ha : a = (x, none)) (d : ∃ fd, FunD K x x (defArgs st) (defBody st) (defScope st) [] [] (He.fAd K a) fd) : FnAt K mg x st := by
  subst ha
  obtain ⟨fd, d⟩ := d
  exact ⟨_, fd, He.glo_ok X G c, d⟩
/-- a body's reading keeps the promise -/
def Rd (n : Nat) (κ : List Bool) (m : Nat) (vsp : VSp) (t : VTS) : Prop := ∀ ds Q Ex, ds.length = n → vsp ds Q Ex → t { nx := fun ε => n ≤ ε.length ∧ Q .non (finalL κ ds ε), rt := fun r ε => n ≤ ε.length ∧ Q r (finalL κ ds ε), rx := fun cls row ε => n ≤ ε.length ∧ Ex cls row (finalL κ ds ε) } (startE m ds)
theorem Fv.mk2 {P : Program} {w : World} {K : PySem.W.Frag} {mg : Str → Option Value} {base : Heap} {x : Str} {st : Stmt} {N ps : List Str} {κ : List Bool} {k n : Nat} {vsp : VSp} {t : VTS} (F : FnAt K mg x st) (S : FnScope N ps (defScope st))
    (hb : ∀ {f fd}, FunD K x x (defArgs st) (defBody st) (defScope st) [] [] f fd → Binds K fd ps []) (hn : ps.length = n) (hN : n ≤ N.length)
    (hbody : ∀ (f : Addr) (cdv : Value) (A : Around) (outer : List Env) (s : Shared) (H : Hp) (E : XK), Room k (A.deeper (envOfC x (defScope st) s.heap.objs.size f cdv)) → VSs (bodyX P w K mg base N κ x (defScope st) f cdv A outer s H E) (defBody st) t)
    (hm : Mono vsp) (hsp : Rd n κ N.length vsp t) : Fv P w K mg base x (k + 1) n vsp := by
  obtain ⟨f, fd, h1, F⟩ := F
  exact ⟨f, fd, ps, h1, F.kp, hb F, fn_ok F S hn hN (hbody f) hm hsp⟩
theorem cx_no {P : Program} : ∀ (w : World) (H : Hp) (s : Shared) (e : Value) (s' : Shared), VL.CX P w [] H s (fun _ _ _ => False) e s' → False := fun _ _ _ _ _ h => by
  obtain ⟨_, _, _, _, _, _, _, _, _, _, _, _, z⟩ := h
  exact z
/-- the script as a tree -/
def scriptD (ns : List Int) : D := .lst false (ns.map D.int)
theorem ints_rp {K : PySem.W.Frag} {G H : Hp} : ∀ ns : List Int, RpL K G H (ns.map D.int) (ns.map V.int) []
  | [] => ⟨rfl, rfl⟩
  | n :: ns => ⟨.int n, ns.map V.int, [], [], rfl, rfl, ⟨rfl, rfl⟩, ints_rp ns⟩
theorem lawAt {l : PySem.W.OpenLaw} {w : World} {K : PySem.W.Frag} {k j : Nat} {p : Str} {mg : Str → Option Value} {fa : Addr} {h : Heap} {st : Stmt} {vsp : VSp}
    (hmg : mg ("law" : Str) = some (.ref fa)) (F : FnAt K mg "law" st)
    (hb : ∀ {f fd}, FunD K "law" "law" (defArgs st) (defBody st) (defScope st) [] [] f fd → ∀ (s : Shared) (u : Value), BindsTo s fd ⟨[u], []⟩ [(p, u)])
    (hp : ∀ {base : Heap} {f : Addr} {fd : FuncData}, FunD K "law" "law" (defArgs st) (defBody st) (defScope st) [] [] f fd → FnOk l.prog w K mg base (VL.CX l.prog w) k f fd [p] (Lift K 1 vsp))
    (hm : Mono vsp) (ht : ∀ ns : List Int, ns.length ≤ 63 → (∀ z ∈ ns, Builtin.Int.intBits z ≤ 1048576) → vsp [scriptD ns] (fun r _ => r = .bl true) (fun _ _ _ => False)) (hj : k + 300 ≤ 3 * j := by decide) :
    LamX.LawAtS l w K (VL.CX l.prog w) j 63 p mg fa h := by
  obtain ⟨f, fd, h1, F⟩ := F
  rw [hmg] at h1
  cases h1
  refine ⟨fd, [], Lift K 1 vsp, (fun _ z => nomatch z), (fun _ z => nomatch z), (fun _ z => nomatch z), hb F, fun H a ns hl hbits _ hS => ?_, fun base _ _ _ => (hp F).lib hj⟩
  refine ⟨H, [], [scriptD ns], ⟨Sub.refl, Sub.refl, ⟨rfl, rfl⟩, RpL.one.mpr ⟨a, ns.map V.int, rfl, hS, rfl, ints_rp ns⟩, List.nodup_nil, (fun _ z => nomatch z), (fun _ z => nomatch z), (fun a o e => .inl e), (fun a o e _ => e), fun j v e => by simp [callB] at e⟩, rfl, ?_⟩
  refine hm _ _ _ _ _ (fun r ds z v H' I => ?_) (fun _ _ _ z => z.elim) (ht ns hl hbits)
  subst z
  obtain ⟨G, F, su, rv, _⟩ := SI.last I (by
    have := I.lenT
    simpa using this)
  exact rv
end VL
namespace VL
open PySem PySem.Spec PyProof.Rows L2 VL
section
variable {Q : D → Prop} {x y c k : D} {i j : Int} {s t : Cs} {xs ys : List D} {m n : Bool}
theorem e_sI2 {f : Int → Int → D} : sI2 f [.int i, .int j] Q ↔ Q (f i j) := ⟨fun ⟨_, _, e, q⟩ => by cases e; exact q, fun q => ⟨_, _, rfl, q⟩⟩
theorem e_sI2c {cc : Int → Int → Prop} {f : Int → Int → D} : sI2c cc f [.int i, .int j] Q ↔ cc i j ∧ Q (f i j) := ⟨fun ⟨_, _, e, q⟩ => by cases e; exact q, fun q => ⟨_, _, rfl, q⟩⟩
theorem e_neg : oNeg [.int i] Q ↔ Q (.int (-i)) := ⟨fun ⟨_, e, q⟩ => by cases e; exact q, fun q => ⟨_, rfl, q⟩⟩
theorem e_addI : sAdd [.int i, .int j] Q ↔ Q (.int (i + j)) := ⟨fun ⟨_, _, _, e, h, q⟩ => by cases e; cases h; exact q, fun q => ⟨_, _, _, rfl, rfl, q⟩⟩
theorem e_addS : sAdd [.str s, .str t] Q ↔ s.length + t.length < 1000000 ∧ Q (.str (s ++ t)) := by
  constructor
  · rintro ⟨_, _, d, e, h, q⟩
    cases e
    have h : (if s.length + t.length < 1000000 then some (D.str (s ++ t)) else none) = some d := h
    by_cases z : s.length + t.length < 1000000
    · rw [if_pos z] at h; cases h; exact ⟨z, q⟩
    · rw [if_neg z] at h; cases h
  · rintro ⟨z, q⟩
    exact ⟨_, _, _, rfl, if_pos z, q⟩
theorem e_addT : sAdd [.tup xs, .tup ys] Q ↔ (isFzL xs = true ∧ isFzL ys = true ∧ xs.length + ys.length < 1000000) ∧ Q (.tup (xs ++ ys)) := by
  constructor
  · rintro ⟨_, _, d, e, h, q⟩
    cases e
    have h : (if (isFzL xs && isFzL ys) = true then (if xs.length + ys.length < 1000000 then some (D.tup (xs ++ ys)) else none) else none) = some d := h
    by_cases z : (isFzL xs && isFzL ys) = true
    · rw [if_pos z] at h
      by_cases z2 : xs.length + ys.length < 1000000
      · rw [if_pos z2] at h; cases h
        exact ⟨⟨(Bool.and_eq_true_iff.mp z).1, (Bool.and_eq_true_iff.mp z).2, z2⟩, q⟩
      · rw [if_neg z2] at h; cases h
    · rw [if_neg z] at h; cases h
  · rintro ⟨⟨a, b, z⟩, q⟩
    exact ⟨_, _, _, rfl, (if_pos (Bool.and_eq_true_iff.mpr ⟨a, b⟩)).trans (if_pos z), q⟩
theorem e_addL : sAdd [.lst m xs, .lst n ys] Q ↔ (isFzL xs = true ∧ isFzL ys = true ∧ xs.length + ys.length < 1000000) ∧ Q (.lst true (xs ++ ys)) := by
  constructor
  · rintro ⟨_, _, d, e, h, q⟩
    cases e
    have h : (if (isFzL xs && isFzL ys) = true then (if xs.length + ys.length < 1000000 then some (D.lst true (xs ++ ys)) else none) else none) = some d := h
    by_cases z : (isFzL xs && isFzL ys) = true
    · rw [if_pos z] at h
      by_cases z2 : xs.length + ys.length < 1000000
      · rw [if_pos z2] at h; cases h
        exact ⟨⟨(Bool.and_eq_true_iff.mp z).1, (Bool.and_eq_true_iff.mp z).2, z2⟩, q⟩
      · rw [if_neg z2] at h; cases h
    · rw [if_neg z] at h; cases h
  · rintro ⟨⟨a, b, z⟩, q⟩
    exact ⟨_, _, _, rfl, (if_pos (Bool.and_eq_true_iff.mpr ⟨a, b⟩)).trans (if_pos z), q⟩
theorem e_mulI : sMul [.int i, .int j] Q ↔ CMl i j ∧ Q (.int (i * j)) := by
  constructor
  · rintro (⟨_, _, e, h, q⟩ | ⟨_, _, e, _⟩)
    · cases e; exact ⟨h, q⟩
    · cases e
  · rintro ⟨h, q⟩
    exact .inl ⟨_, _, rfl, h, q⟩
theorem e_divmod : sDivmod [.int i, .int j] Q ↔ CDv i j ∧ Q (.tup [.int (pdiv i j), .int (pmod i j)]) := ⟨fun ⟨_, _, e, q⟩ => by cases e; exact q, fun q => ⟨_, _, rfl, q⟩⟩
/-- what == asks -/
def eqOk (x y : D) : Prop := scalD x y = true ∨ (okD 64 x = true ∧ okD 64 y = true)
theorem e_eq : sEq [x, y] Q ↔ eqOk x y ∧ Q (.bl (deq x y)) := ⟨fun ⟨_, _, e, h, q⟩ => by cases e; exact ⟨h, q⟩, fun ⟨h, q⟩ => ⟨_, _, rfl, h, q⟩⟩
theorem e_ne : sNe [x, y] Q ↔ eqOk x y ∧ Q (.bl (!deq x y)) := ⟨fun ⟨_, _, e, h, q⟩ => by cases e; exact ⟨h, q⟩, fun ⟨h, q⟩ => ⟨_, _, rfl, h, q⟩⟩
theorem eqOk_i : eqOk (.int i) (.int j) ↔ True := ⟨fun _ => trivial, fun _ => .inl rfl⟩
theorem eqOk_s : eqOk (.str s) (.str t) ↔ True := ⟨fun _ => trivial, fun _ => .inl rfl⟩
theorem eqOk_b {a b : Bool} : eqOk (.bl a) (.bl b) ↔ True := ⟨fun _ => trivial, fun _ => .inl rfl⟩
theorem eqOk_si : eqOk (.str s) (.int j) ↔ True := ⟨fun _ => trivial, fun _ => .inl rfl⟩
theorem eqOk_is : eqOk (.int i) (.str s) ↔ True := ⟨fun _ => trivial, fun _ => .inl rfl⟩
theorem deq_i : deq (.int i) (.int j) = decide (i = j) := by rw [deq, Bool.eq_iff_iff, beq_iff_eq, decide_eq_true_iff]
theorem deq_s : deq (.str s) (.str t) = decide (s = t) := by rw [deq, Bool.eq_iff_iff, beq_iff_eq, decide_eq_true_iff]
theorem deq_b {a b : Bool} : deq (.bl a) (.bl b) = decide (a = b) := by cases a <;> cases b <;> rfl
theorem deq_si : deq (.str s) (.int j) = false := rfl
theorem deq_is : deq (.int i) (.str s) = false := rfl
theorem e_isN : sIsN [x, .non] Q ↔ x ≠ .hole ∧ Q (.bl (isNon x)) := ⟨fun ⟨_, e, h, q⟩ => by cases e; exact ⟨h, q⟩, fun ⟨h, q⟩ => ⟨_, rfl, h, q⟩⟩
theorem e_notN : sNotN [x, .non] Q ↔ x ≠ .hole ∧ Q (.bl (!isNon x)) := ⟨fun ⟨_, e, h, q⟩ => by cases e; exact ⟨h, q⟩, fun ⟨h, q⟩ => ⟨_, rfl, h, q⟩⟩
theorem e_isi {T : String} : sIsi [x, .ty T] Q ↔ ∃ t, tyNm x = some t ∧ T ∈ tys ∧ Q (.bl (isT t T)) := ⟨fun ⟨_, t, _, e, h1, h2, q⟩ => by cases e; exact ⟨t, h1, h2, q⟩, fun ⟨t, h1, h2, q⟩ => ⟨_, t, _, rfl, h1, h2, q⟩⟩
theorem e_lenS : sLen [.str s] Q ↔ s.length < 1000000 ∧ Q (.int s.length) := by
  constructor
  · rintro ⟨_, l, e, h, q⟩
    cases e
    have h : (if s.length < 1000000 then some s.length else none) = some l := h
    by_cases z : s.length < 1000000
    · rw [if_pos z] at h; cases h; exact ⟨z, q⟩
    · rw [if_neg z] at h; cases h
  · rintro ⟨z, q⟩
    exact ⟨_, _, rfl, if_pos z, q⟩
theorem e_lenL : sLen [.lst m xs] Q ↔ Q (.int xs.length) := ⟨fun ⟨_, _, e, h, q⟩ => by cases e; cases h; exact q, fun q => ⟨_, _, rfl, rfl, q⟩⟩
theorem e_lenT : sLen [.tup xs] Q ↔ Q (.int xs.length) := ⟨fun ⟨_, _, e, h, q⟩ => by cases e; cases h; exact q, fun q => ⟨_, _, rfl, rfl, q⟩⟩
theorem e_lenK {ks : List Kc} : sLen [.dK m ks xs] Q ↔ Q (.int xs.length) := ⟨fun ⟨_, _, e, h, q⟩ => by cases e; cases h; exact q, fun q => ⟨_, _, rfl, rfl, q⟩⟩
theorem e_lenDT {ks : List (List Kc)} : sLen [.dT m ks xs] Q ↔ Q (.int xs.length) := ⟨fun ⟨_, _, e, h, q⟩ => by cases e; cases h; exact q, fun q => ⟨_, _, rfl, rfl, q⟩⟩
theorem e_ix : sIx [c, k] Q ↔ ∃ d, ixD c k = some d ∧ isFz d = true ∧ Q d := ⟨fun ⟨_, _, d, e, h, z, q⟩ => by cases e; exact ⟨d, h, z, q⟩, fun ⟨d, h, z, q⟩ => ⟨_, _, d, rfl, h, z, q⟩⟩
theorem ixD_l : ixD (.lst m xs) (.int i) = (ixN xs.length i).bind fun j => xs[j]? := rfl
theorem ixD_t : ixD (.tup xs) (.int i) = (ixN xs.length i).bind fun j => xs[j]? := rfl
theorem e_in {b : Bool} : sIn b [x, c] Q ↔ ∃ r, memD x c = some r ∧ Q (.bl (if b then !r else r)) := ⟨fun ⟨_, _, r, e, h, q⟩ => by cases e; exact ⟨r, h, q⟩, fun ⟨r, h, q⟩ => ⟨_, _, r, rfl, h, q⟩⟩
theorem e_min : sMin [.int i, .int j] Q ↔ Q (.int (min i j)) := ⟨fun ⟨_, _, e, q⟩ => by cases e; exact q, fun q => ⟨_, _, rfl, q⟩⟩
theorem e_max : sMax [.int i, .int j] Q ↔ Q (.int (max i j)) := ⟨fun ⟨_, _, e, q⟩ => by cases e; exact q, fun q => ⟨_, _, rfl, q⟩⟩
theorem e_list : sList [x] Q ↔ ∃ ys, listD x = some ys ∧ isFzL ys = true ∧ Q (.lst true ys) := ⟨fun ⟨_, ys, e, h, z, q⟩ => by cases e; exact ⟨ys, h, z, q⟩, fun ⟨ys, h, z, q⟩ => ⟨_, ys, rfl, h, z, q⟩⟩
theorem e_tuple : sTuple [x] Q ↔ ∃ ys, seqD x = some ys ∧ isFzL ys = true ∧ Q (.tup ys) := ⟨fun ⟨_, ys, e, h, z, q⟩ => by cases e; exact ⟨ys, h, z, q⟩, fun ⟨ys, h, z, q⟩ => ⟨_, ys, rfl, h, z, q⟩⟩
theorem e_dict {ks : List Kc} : sDict [.dK m ks xs] Q ↔ isFzL xs = true ∧ Q (.dK true ks xs) := ⟨fun ⟨_, _, _, e, z, q⟩ => by cases e; exact ⟨z, q⟩, fun ⟨z, q⟩ => ⟨_, _, _, rfl, z, q⟩⟩
theorem e_rev : sRev [.lst m xs] Q ↔ isFzL xs = true ∧ Q (.lst true xs.reverse) := ⟨fun ⟨_, _, e, z, q⟩ => by cases e; exact ⟨z, q⟩, fun ⟨z, q⟩ => ⟨_, _, rfl, z, q⟩⟩
theorem e_dget2 : sDGet2 [c, k, x] Q ↔ isFz x = true ∧ ∃ d, dget2D c k x = some d ∧ isFz d = true ∧ Q d := ⟨fun ⟨_, _, _, d, e, h1, h2, z, q⟩ => by cases e; exact ⟨h1, d, h2, z, q⟩, fun ⟨h1, d, h2, z, q⟩ => ⟨_, _, _, d, rfl, h1, h2, z, q⟩⟩
theorem e_eqD {b : Bool} {ks ls : List Kc} : sEqD b [.dK m ks xs, .dK n ls ys] Q ↔ likeD ks xs ls ys ∧ Q (.bl b) := ⟨fun ⟨_, _, _, _, _, _, e, h, q⟩ => by cases e; exact ⟨h, q⟩, fun ⟨h, q⟩ => ⟨_, _, _, _, _, _, rfl, h, q⟩⟩
theorem e_slS {lo hi : Option Int} {P : D → Prop} : (∃ d, sliceD (.str s) lo hi = some d ∧ P d) ↔ s.length < 1000000 ∧ P (.str (cutL s lo hi)) := by
  constructor
  · rintro ⟨d, h, q⟩
    have h : (if s.length < 1000000 then some (D.str (cutL s lo hi)) else none) = some d := h
    by_cases z : s.length < 1000000
    · rw [if_pos z] at h; cases h; exact ⟨z, q⟩
    · rw [if_neg z] at h; cases h
  · rintro ⟨z, q⟩
    exact ⟨_, if_pos z, q⟩
theorem e_slL {lo hi : Option Int} {P : D → Prop} : (∃ d, sliceD (.lst m xs) lo hi = some d ∧ P d) ↔ isFzL xs = true ∧ P (.lst true (cutL xs lo hi)) := by
  constructor
  · rintro ⟨d, h, q⟩
    have h : (if isFzL xs = true then some (D.lst true (cutL xs lo hi)) else none) = some d := h
    by_cases z : isFzL xs = true
    · rw [if_pos z] at h; cases h; exact ⟨z, q⟩
    · rw [if_neg z] at h; cases h
  · rintro ⟨z, q⟩
    exact ⟨_, if_pos z, q⟩
theorem e_slT {lo hi : Option Int} {P : D → Prop} : (∃ d, sliceD (.tup xs) lo hi = some d ∧ P d) ↔ isFzL xs = true ∧ P (.tup (cutL xs lo hi)) := by
  constructor
  · rintro ⟨d, h, q⟩
    have h : (if isFzL xs = true then some (D.tup (cutL xs lo hi)) else none) = some d := h
    by_cases z : isFzL xs = true
    · rw [if_pos z] at h; cases h; exact ⟨z, q⟩
    · rw [if_neg z] at h; cases h
  · rintro ⟨z, q⟩
    exact ⟨_, if_pos z, q⟩
end
theorem isDct_K {m : Bool} {ks : List Kc} {xs : List D} : isDct (.dK m ks xs) = true := rfl
theorem isDct_T {m : Bool} {ks : List (List Kc)} {xs : List D} : isDct (.dT m ks xs) = true := rfl
/-- handed arg a, with pre a, it answers r with post a r, the arguments being out a r then -/
def Psp {α : Type} (arg : α → List D) (pre : α → Prop) (post : α → D → Prop) (out : α → D → List D := fun a _ => arg a) : VSp := fun ds Q _ => ∃ a, ds = arg a ∧ pre a ∧ ∀ r, post a r → Q r (out a r)
theorem Psp.mono {α : Type} {arg : α → List D} {pre : α → Prop} {post : α → D → Prop} {out : α → D → List D} : Mono (Psp arg pre post out) := fun _ _ _ _ _ h _ ⟨a, e, p, q⟩ => ⟨a, e, p, fun r z => h _ _ (q r z)⟩
/-- the same by a function of the arguments -/
def Fsp {α : Type} (arg : α → List D) (pre : α → Prop) (res : α → D) (out : α → List D := arg) : VSp := fun ds Q _ => ∃ a, ds = arg a ∧ pre a ∧ Q (res a) (out a)
theorem Fsp.mono {α : Type} {arg : α → List D} {pre : α → Prop} {res : α → D} {out : α → List D} : Mono (Fsp arg pre res out) := fun _ _ _ _ _ h _ ⟨a, e, p, q⟩ => ⟨a, e, p, h _ _ q⟩
end VL
namespace VL
open PySem PySem.Spec PyProof.Rows L2 VL
theorem pmod_lit (i : Int) (n : Nat) [NeZero n] : pmod i (no_index (OfNat.ofNat n)) = i % (OfNat.ofNat n) := if_pos (by
  have : 0 < n := Nat.pos_of_ne_zero (NeZero.ne n)
  show (0 : Int) < (n : Int)
  omega)
theorem pdiv_lit (i : Int) (n : Nat) [NeZero n] : pdiv i (no_index (OfNat.ofNat n)) = i / (OfNat.ofNat n) := if_pos (by
  have : 0 < n := Nat.pos_of_ne_zero (NeZero.ne n)
  show (0 : Int) < (n : Int)
  omega)
theorem pmod_pos {i j : Int} (h : 0 < j) : pmod i j = i % j := if_pos h
theorem pdiv_pos {i j : Int} (h : 0 < j) : pdiv i j = i / j := if_pos h
theorem cml_r {i j : Int} (h : j.natAbs < 18446744073709551616) : CMl i j ↔ True := ⟨fun _ => trivial, fun _ => .inl (.inr h)⟩
theorem cml_l {i j : Int} (h : i.natAbs < 18446744073709551616) : CMl i j ↔ True := ⟨fun _ => trivial, fun _ => .inl (.inl h)⟩
theorem cml_lit_r (i : Int) (n : Nat) (h : n < 18446744073709551616) : CMl i (no_index (OfNat.ofNat n)) ↔ True := cml_r h
theorem cml_lit_l (i : Int) (n : Nat) (h : n < 18446744073709551616) : CMl (no_index (OfNat.ofNat n)) i ↔ True := cml_l h
theorem cpow_lit (m n : Nat) (h1 : n ≤ 1000000) (h2 : m < 18446744073709551616) : CPow (no_index (OfNat.ofNat m)) (no_index (OfNat.ofNat n)) ↔ True := ⟨fun _ => trivial, fun _ => ⟨Int.natCast_nonneg n, by show ((n : Nat) : Int) ≤ 1000000; omega, h2⟩⟩
theorem cdv_of {i j : Int} (h : j ≠ 0) (h2 : j.natAbs < 18446744073709551616) : CDv i j := ⟨h, by
  have h3 : j.natAbs ≠ 0 := by omega
  have : j.natAbs.log2 < 64 := (Nat.log2_lt h3).mpr h2
  omega⟩
theorem cdv_lit (i : Int) (n : Nat) [NeZero n] (h : n < 18446744073709551616) : CDv i (no_index (OfNat.ofNat n)) ↔ True := ⟨fun _ => trivial, fun _ => cdv_of (by
  have : 0 < n := Nat.pos_of_ne_zero (NeZero.ne n)
  show (n : Int) ≠ 0
  omega) h⟩
theorem ixN_nat {n i : Nat} (h : i < n) : ixN n (i : Int) = some i := by
  unfold ixN
  rw [if_pos (by omega), if_pos (by omega), Int.toNat_natCast]
theorem ixN_pos {n : Nat} {i : Int} (h0 : 0 ≤ i) (h : i < n) : ixN n i = some i.toNat := by
  unfold ixN
  rw [if_pos h0, if_pos h]
theorem ixN_lit (n i : Nat) (h : i < n) : ixN n (no_index (OfNat.ofNat i)) = some i := ixN_nat h
theorem getP_nilE {d : D} : getP d [] = some d := getP_nil d
theorem setP_nilE {d e : D} : setP d [] e = e := by cases d <;> rfl
theorem e_forU {N : VEnds} {ε : Ep} {g : VTG} {b b' : VTS} {d : D} {ds : List D} (h : b = b') : vForL g b (d :: ds) N ε ↔ g d ε fun ε1 => b' { N with nx := fun ε' => vForL g b ds N ε', ct := fun ε' => vForL g b ds N ε', bk := N.nx } ε1 := by subst h; rfl
theorem ix_str {s : Cs} {i : Int} (h0 : 0 ≤ i) (h : i < s.length) (hz : s.length < 1000000) : ixD (.str s) (.int i) = some (.str [s[i.toNat]'(by omega)]) := by
  show (if s.length < 1000000 then (ixN s.length i).bind fun j => (s[j]?).map fun c => D.str [c] else none) = _
  rw [if_pos hz, ixN_pos h0 h]
  show (s[i.toNat]?).map (fun c => D.str [c]) = _
  rw [List.getElem?_eq_getElem (by omega)]
  rfl
theorem e_app {ds : List D} {y : D} {P : List D → D → Prop} : (∃ ds' res, muAppend ds [y] = some (ds', res) ∧ P ds' res) ↔ ds.length < 1000000 ∧ P (ds ++ [y]) .non := by
  constructor
  · rintro ⟨ds', res, h, p⟩
    have h : (if ds.length < 1000000 then some (ds ++ [y], D.non) else none) = some (ds', res) := h
    by_cases z : ds.length < 1000000
    · rw [if_pos z] at h; cases h; exact ⟨z, p⟩
    · rw [if_neg z] at h; cases h
  · rintro ⟨z, p⟩
    exact ⟨_, _, if_pos z, p⟩
theorem lst_inj {m n : Bool} {a b : List D} : (D.lst m a = D.lst n b) = (m = n ∧ a = b) := D.lst.injEq ..
theorem isT_nonetype_int : isT "NoneType" "int" = false := by decide
theorem isT_nonetype_bool : isT "NoneType" "bool" = false := by decide
theorem isT_nonetype_str : isT "NoneType" "str" = false := by decide
theorem isT_nonetype_list : isT "NoneType" "list" = false := by decide
theorem isT_nonetype_tuple : isT "NoneType" "tuple" = false := by decide
theorem isT_nonetype_dict : isT "NoneType" "dict" = false := by decide
theorem isT_int_int : isT "int" "int" = true := by decide
theorem isT_int_bool : isT "int" "bool" = false := by decide
theorem isT_int_str : isT "int" "str" = false := by decide
theorem isT_int_list : isT "int" "list" = false := by decide
theorem isT_int_tuple : isT "int" "tuple" = false := by decide
theorem isT_int_dict : isT "int" "dict" = false := by decide
theorem isT_bool_int : isT "bool" "int" = true := by decide
theorem isT_bool_bool : isT "bool" "bool" = true := by decide
theorem isT_bool_str : isT "bool" "str" = false := by decide
theorem isT_bool_list : isT "bool" "list" = false := by decide
theorem isT_bool_tuple : isT "bool" "tuple" = false := by decide
theorem isT_bool_dict : isT "bool" "dict" = false := by decide
theorem isT_str_int : isT "str" "int" = false := by decide
theorem isT_str_bool : isT "str" "bool" = false := by decide
theorem isT_str_str : isT "str" "str" = true := by decide
theorem isT_str_list : isT "str" "list" = false := by decide
theorem isT_str_tuple : isT "str" "tuple" = false := by decide
theorem isT_str_dict : isT "str" "dict" = false := by decide
theorem isT_list_int : isT "list" "int" = false := by decide
theorem isT_list_bool : isT "list" "bool" = false := by decide
theorem isT_list_str : isT "list" "str" = false := by decide
theorem isT_list_list : isT "list" "list" = true := by decide
theorem isT_list_tuple : isT "list" "tuple" = false := by decide
theorem isT_list_dict : isT "list" "dict" = false := by decide
theorem isT_tuple_int : isT "tuple" "int" = false := by decide
theorem isT_tuple_bool : isT "tuple" "bool" = false := by decide
theorem isT_tuple_str : isT "tuple" "str" = false := by decide
theorem isT_tuple_list : isT "tuple" "list" = false := by decide
theorem isT_tuple_tuple : isT "tuple" "tuple" = true := by decide
theorem isT_tuple_dict : isT "tuple" "dict" = false := by decide
theorem isT_dict_int : isT "dict" "int" = false := by decide
theorem isT_dict_bool : isT "dict" "bool" = false := by decide
theorem isT_dict_str : isT "dict" "str" = false := by decide
theorem isT_dict_list : isT "dict" "list" = false := by decide
theorem isT_dict_tuple : isT "dict" "tuple" = false := by decide
theorem isT_dict_dict : isT "dict" "dict" = true := by decide
theorem inT_int : ("int" ∈ tys) = True := eq_true (by decide)
theorem inT_bool : ("bool" ∈ tys) = True := eq_true (by decide)
theorem inT_str : ("str" ∈ tys) = True := eq_true (by decide)
theorem inT_list : ("list" ∈ tys) = True := eq_true (by decide)
theorem inT_tuple : ("tuple" ∈ tys) = True := eq_true (by decide)
theorem inT_dict : ("dict" ∈ tys) = True := eq_true (by decide)
end VL
namespace VL
open PySem PySem.Spec PyProof.Rows L2 VL
section
variable {K : PySem.W.Frag} {G H H' : Hp}
theorem Rp.view (hs : Sub G H) {d : D} {v : V} {F : List Addr} (r : Rp K G H d v F) : Rp K H H (frz d) v [] := Rp.freeze hs (fun _ _ => rfl) r
theorem Rp.up {d : D} {v : V} (r : Rp K H H d v []) (h : Sub H H') : Rp K H' H' d v [] := r.mono h fun _ z => nomatch z
theorem RpL.up {ds : List D} {vs : List V} (r : RpL K H H ds vs []) (h : Sub H H') : RpL K H' H' ds vs [] := r.mono h fun _ z => nomatch z
theorem si_view {ds : List D} {vs : List V} (r : RpL K H H ds vs []) : SIx K (callB H H []) H [] [] [] H [] ds vs :=
  ⟨Sub.refl, Sub.refl, ⟨rfl, rfl⟩, r, List.nodup_nil, (fun _ z => nomatch z), (fun _ z => nomatch z), (fun a o e => .inl e), (fun a o e _ => e), fun j v e => by simp [callB] at e⟩
end
/-- a view's reading: the slots stay as they are -/
abbrev VTV := Ep → (D → Prop) → Prop
abbrev VTVs := Ep → (List D → Prop) → Prop
structure VV (X : Cv) (e : Expr) (t : VTV) : Prop where
  ex : ∃ t' : WX → TE, (∀ W, Takes X.toCx W → PE X.toCx e (t' W)) ∧ ∀ (b : Bx X) σ H ε T Tv W (Q : D → Prop) (Q' : VK), SI X.K b.1 σ H ε T Tv → t ε Q →
    (∀ d v H', Sub H H' → Rp X.K H' H' d v [] → Q d → Q' v H') → t' W σ H Q'
structure VVs (X : Cv) (es : List Expr) (t : VTVs) : Prop where
  ex : ∃ t' : WX → TA, (∀ W, Takes X.toCx W → PA X.toCx es (t' W)) ∧ ∀ (b : Bx X) σ H ε T Tv W (Q : List D → Prop) (Q' : List V → Hp → Prop), SI X.K b.1 σ H ε T Tv → t ε Q →
    (∀ ds vs H', Sub H H' → RpL X.K H' H' ds vs [] → ds.length = es.length → Q ds → Q' vs H') → t' W σ H Q'
section
variable {X : Cv}
def wName (i : Nat) : VTV := fun ε Q => ∃ d, ε[i]? = some (some d) ∧ Q (frz d)
def wC (d : D) : VTV := fun _ Q => Q d
def wNil : VTVs := fun _ Q => Q []
def wCons (t : VTV) (u : VTVs) : VTVs := fun ε Q => t ε fun d => u ε fun ds => Q (d :: ds)
def wOp (op : List D → (D → Prop) → Prop) (t : VTVs) : VTV := fun ε Q => t ε fun ds => op ds fun d => Q (frz d)
def w2 (a b : VTV) : VTVs := wCons a (wCons b wNil)
def w1 (a : VTV) : VTVs := wCons a wNil
def wCall (vsp : VSp) (t : VTVs) : VTV := fun ε Q => t ε fun ds => vsp ds (fun r _ => Q (frz r)) (fun _ _ _ => False)
def wTup (t : VTVs) : VTV := fun ε Q => t ε fun ds => ds.length ≤ 1000 ∧ Q (.tup ds)
def vView (t : VTV) : VTE := fun _ ε Q => t ε fun d => flatD d = true ∧ Q d ε
def vViewT (t : VTV) : VTT := fun _ ε Q => t ε fun d => ∃ c, d = .bl c ∧ Q c ε
theorem wv_name (i : Nat) {x : Str} {pos : Pos} (hN : X.N[i]? = some x := by rfl) (hv : Vis X.env.scope x := by first | exact Or.inl rfl | exact Or.inr (Or.inl rfl) | exact Or.inr (Or.inr rfl)) (hd : (x == ("__debug__" : Str)) = false := by decide) (hcd : (x == ("__classdict__" : Str)) = false := by decide) : VV X (.Name x pos) (wName i) := by
  refine ⟨fun _ => tVar i, fun _ _ => pe_var hN hv hd hcd, fun b σ H ε T Tv W Q Q' I h k => ?_⟩
  obtain ⟨d, e, q⟩ := h
  obtain ⟨v, hs, J⟩ := I.mov e
  obtain ⟨G, F, su, r⟩ := J.last I.lenT
  exact ⟨v, hs, k (frz d) v H Sub.refl (r.view su) q⟩
theorem wv_of {e : Expr} {v : V} {d : D} (h : PE X.toCx e (tC v)) (r : ∀ G H, Rp X.K G H d v []) : VV X e (wC d) :=
  ⟨fun _ => tC v, fun _ _ => h, fun b σ H ε T Tv W Q Q' I q k => k d v H Sub.refl (r H H) q⟩
theorem wv_int {i j pos} : VV X (.Constant (.int i) j pos) (wC (.int i)) := wv_of pe_int fun _ _ => ⟨rfl, rfl⟩
theorem wv_non {j pos} : VV X (.Constant .none j pos) (wC .non) := wv_of pe_non fun _ _ => ⟨rfl, rfl⟩
theorem wv_str {s : Cs} {x : Str} {j pos} (h : x.cps.toList = s) : VV X (.Constant (.str x) j pos) (wC (.str s)) := wv_of pe_str fun _ _ => ⟨by rw [← h, toS_cps], rfl⟩
theorem wv_globI {x : Str} {i : Int} {pos : Pos} (hg : Gl X.toCx x) (hm : ∃ t, X.mg x = some (.int i t)) (hd : (x == ("__debug__" : Str)) = false := by decide) : VV X (.Name x pos) (wC (.int i)) :=
  let ⟨t, h⟩ := hm; wv_of (pe_glob hg h (v := .int i) ⟨t, rfl⟩ hd) fun _ _ => ⟨rfl, rfl⟩
theorem wvs_nil : VVs X [] wNil := ⟨fun _ => tNil, fun _ _ => pa_nil, fun b σ H ε T Tv W Q Q' I q k => k [] [] H Sub.refl ⟨rfl, rfl⟩ rfl q⟩
theorem wvs_cons {e : Expr} {es : List Expr} {t : VTV} {u : VTVs} (h : VV X e t) (k : VVs X es u) (hs : starEach (e :: es) X.env = (false, eval e X.env) :: starEach es X.env := by rfl) : VVs X (e :: es) (wCons t u) := by
  obtain ⟨t', h1, h2⟩ := h.ex
  obtain ⟨u', k1, k2⟩ := k.ex
  refine ⟨fun W => tCons (t' W) (u' W), fun W tk => pa_cons (h1 W tk) (k1 W tk) hs, fun b σ H ε T Tv W Q Q' I q z => ?_⟩
  refine h2 b σ H ε T Tv W _ _ I q fun d v H1 s1 r1 q1 => ?_
  refine k2 b σ H1 ε T Tv W _ _ (I.grow s1) q1 fun ds vs H2 s2 r2 l q2 => ?_
  exact z (d :: ds) (v :: vs) H2 (s1.trans s2) ⟨v, vs, [], [], rfl, rfl, r1.up s2, r2⟩ (by simp [l]) q2
/-- an operation on views -/
theorem OpN.look {K : PySem.W.Frag} {r : List V → Hp → VK → Prop} {op : List D → (D → Prop) → Prop} (h : OpN K r op) {H : Hp} {ds : List D} {vs : List V} {Q : D → Prop} {Q' : VK} (rr : RpL K H H ds vs []) (q : op ds fun d => Q (frz d))
    (k : ∀ d v H', Sub H H' → Rp K H' H' d v [] → Q d → Q' v H') : r vs H Q' := by
  have I : SI K (callB H H []) [] H [] ([] ++ ds) ([] ++ vs) := ⟨H, [], [], si_view rr⟩
  refine h (callB H H []) [] H [] [] [] ds vs _ Q' rfl rr.len I q fun d v H' s J z => ?_
  have J2 : SI K (callB H H []) [] H' [] (ds ++ [d]) (vs ++ [v]) := by simpa using J
  obtain ⟨G, F, su, rd⟩ := J2.last rr.len
  exact k (frz d) v H' s (rd.view su) z
theorem vt_cmpW {e1 e2 : Expr} {o : CmpOp} {ta tb : VTV} {r : R2} {op : List D → (D → Prop) → Prop} {pos : Pos} (ho : OpR X.toCx (compareOp o) r) (hp : OpN X.K (r2N r) op) (ha : VV X e1 ta) (hb : VV X e2 tb) (hm : behindInMarks o e2 = false) : VT X (.Compare e1 [o] [e2] pos) (vViewT (wOp op (w2 ta tb))) := by
  obtain ⟨ta', a1, a2⟩ := ha.ex
  obtain ⟨tb', b1, b2⟩ := hb.ex
  refine ⟨fun W => tTest (tOp r (ta' W) (tb' W)), fun W tk => pt_cmpR ho (a1 W tk) (b1 W tk) hm, fun b σ H ε T Tv W N Q Q' I q k x => ?_⟩
  refine a2 b σ H ε T Tv W _ _ I q fun d v H1 s1 r1 q1 => b2 b σ H1 ε T Tv W _ _ (I.grow s1) q1 fun d2 v2 H2 s2 r2 q2 => ?_
  obtain ⟨v', w', e, z⟩ := hp.look (ds := [d, d2]) (vs := [v, v2]) (H := H2) (Q := fun d => ∃ c, d = .bl c ∧ Q c ε) (Q' := fun u H' => ∃ c, u = .bl c ∧ Q' c H') ⟨v, _, [], [], rfl, rfl, r1.up s2, v2, [], [], [], rfl, rfl, r2, rfl, rfl⟩ q2 fun d v H' s r z => by
    obtain ⟨c, rfl, z⟩ := z
    obtain ⟨rfl, _⟩ := r
    exact ⟨c, rfl, k c ε H' (I.grow ((s1.trans s2).trans s)) z⟩
  obtain ⟨rfl, e2⟩ := List.cons.inj e
  obtain ⟨rfl, _⟩ := List.cons.inj e2
  exact z
theorem wv_un {e1 : Expr} {o : UnaryOp} {ta : VTV} {r : V → Hp → VK → Prop} {op : List D → (D → Prop) → Prop} {pos : Pos} (ho : UnR X.toCx (unaryOp o) r) (hp : OpN X.K (r1N r) op) (ha : VV X e1 ta) : VV X (.UnaryOp o e1 pos) (wOp op (w1 ta)) := by
  obtain ⟨ta', a1, a2⟩ := ha.ex
  refine ⟨fun W => tUn r (ta' W), fun W tk => pe_un ho (a1 W tk), fun b σ H ε T Tv W Q Q' I q k => ?_⟩
  refine a2 b σ H ε T Tv W _ _ I q fun d v H1 s1 r1 q1 => ?_
  obtain ⟨v', e, z⟩ := hp.look (ds := [d]) (vs := [v]) (H := H1) (Q' := Q') (RpL.one.mpr r1) q1 fun d v H' s r z => k d v H' (s1.trans s) r z
  obtain ⟨rfl, _⟩ := List.cons.inj e
  exact z
theorem wv_ix {a bb : Expr} {ta tb : VTV} {pos : Pos} {k : Nat} (hr : Room k X.A) (ha : VV X a ta) (hb : VV X bb tb) (hs : PlainIx bb) : VV X (.Subscript a bb pos) (wOp sIx (w2 ta tb)) := by
  obtain ⟨ta', a1, a2⟩ := ha.ex
  obtain ⟨tb', b1, b2⟩ := hb.ex
  refine ⟨fun W => tOp (rIxA X.K) (ta' W) (tb' W), fun W tk => pe_ix (ix_any hr) (a1 W tk) (b1 W tk) hs, fun b σ H ε T Tv W Q Q' I q k => ?_⟩
  refine a2 b σ H ε T Tv W _ _ I q fun d v H1 s1 r1 q1 => b2 b σ H1 ε T Tv W _ _ (I.grow s1) q1 fun d2 v2 H2 s2 r2 q2 => ?_
  obtain ⟨v', w', e, z⟩ := opn_ix.look (ds := [d, d2]) (vs := [v, v2]) (H := H2) (Q' := Q') ⟨v, _, [], [], rfl, rfl, r1.up s2, v2, [], [], [], rfl, rfl, r2, rfl, rfl⟩ q2 fun d v H' s r z => k d v H' ((s1.trans s2).trans s) r z
  obtain ⟨rfl, e2⟩ := List.cons.inj e
  obtain ⟨rfl, _⟩ := List.cons.inj e2
  exact z
theorem wv_callB {x : Str} {id : String} {p pos : Pos} {e : Expr} {es : List Expr} {t : VTVs} {r : List V → Hp → VK → Prop} {op : List D → (D → Prop) → Prop} (hc : CallR X.toCx (.builtin id) r) (hp : OpN X.K r op) (hg : Gl X.toCx x) (hm : X.mg x = none) (hv : bootBuiltins x = some (.builtin id)) (ha : VVs X (e :: es) t)
    (hn : x ≠ "__name__" := by decide) (hdb : (x == ("__debug__" : Str)) = false := by decide) (he : starEach (e :: es) X.env = (false, eval e X.env) :: starEach es X.env := by rfl) (hpl : (backTo pos (starEach es X.env)).any (·.1) = false := by rfl) : VV X (.Call (.Name x p) (e :: es) [] pos) (wOp op t) := by
  obtain ⟨t', a1, a2⟩ := ha.ex
  refine ⟨fun W => tCB r (t' W), fun W tk => pe_callB hc hg hm hv (a1 W tk) hn hdb he hpl, fun b σ H ε T Tv W Q Q' I q k => ?_⟩
  exact a2 b σ H ε T Tv W _ _ I q fun ds vs H1 s1 rr _ z => hp.look rr z fun d v H' s r z => k d v H' (s1.trans s) r z
/-- a call of a def that only reads -/
theorem wv_call {x : Str} {p pos : Pos} {e : Expr} {es : List Expr} {t : VTVs} {k n : Nat} {vsp : VSp} (F : Fv X.prog X.w X.K X.mg X.base x k n vsp) (m : Mono vsp) (hr : Room k X.A) (hg : Gl X.toCx x) (hn : (e :: es).length = n) (ha : VVs X (e :: es) t)
    (hdb : (x == ("__debug__" : Str)) = false := by decide) (he : starEach (e :: es) X.env = (false, eval e X.env) :: starEach es X.env := by rfl) (hpl : (backTo pos (starEach es X.env)).any (·.1) = false := by rfl) :
    VV X (.Call (.Name x p) (e :: es) [] pos) (wCall vsp t) := by
  obtain ⟨f, fd, ps, hm, hk, hb, F⟩ := F.ex
  obtain ⟨t', a1, a2⟩ := ha.ex
  refine ⟨fun W => tCallS (Lift X.K n vsp) (WE W) (t' W), fun W tk => pe_callS F hr hg hm hk hb (fun σ => passAt tk σ) (a1 W tk) hdb he hpl, fun b σ H ε T Tv W Q Q' I q kk => ?_⟩
  refine a2 b σ H ε T Tv W _ _ I q fun ds vs H1 s1 rr l z => ?_
  refine ⟨H1, [], ds, si_view rr, by rw [l, hn], m _ _ _ _ _ (fun r ds' q' v H' I' => ?_) (fun _ _ _ z => z.elim) z⟩
  have l2 : ds'.length = vs.length := by
    have := I'.lenT
    simpa using this
  obtain ⟨G, F, su, rd⟩ := I'.last l2
  have s2 : Sub H1 H' := by
    obtain ⟨_, _, _, J⟩ := I'
    exact fun a o e => J.keep a o e (fun z => nomatch z)
  exact kk (frz r) v H' (s1.trans s2) (rd.view su) q'
theorem ve_view {e : Expr} {t : VTV} (h : VV X e t) : VE X e (vView t) := by
  obtain ⟨t', h1, h2⟩ := h.ex
  refine ⟨t', h1, fun b σ H ε T Tv W N Q Q' I q k x => ?_⟩
  refine h2 b σ H ε T Tv W _ _ I q fun d v H1 s1 r1 z => ?_
  refine k d v ε H1 ((I.grow s1).push fun G => ?_) z.2
  obtain ⟨z, _⟩ := z
  cases d <;> first | (exfalso; revert z; simp [flatD]; done) | exact r1
theorem vt_viewV {e : Expr} {t : VTV} (h : VV X e t) (he : ∀ whole, isTrue e X.env whole = (do let v ← whole; standAt e.pos; holding [v] (truthy v)) := by intro _; rfl) : VT X e (vViewT t) := by
  obtain ⟨t', h1, h2⟩ := h.ex
  refine ⟨fun W => tB (t' W), fun W tk => pt_val (h1 W tk) he, fun b σ H ε T Tv W N Q Q' I q k x => ?_⟩
  refine h2 b σ H ε T Tv W _ _ I q fun d v H1 s1 r1 z => ?_
  obtain ⟨c, rfl, z⟩ := z
  obtain ⟨rfl, _⟩ := r1
  exact ⟨c, rfl, k c ε H1 (I.grow s1) z⟩
def vNever : VTS := fun _ _ => False
def isLst : D → Bool
  | .lst _ _ => true
  | _ => false
def isStr : D → Bool
  | .str _ => true
  | _ => false
def tyOk (T : String) (d : D) : Bool := (decide (T = "list") && isLst d) || (decide (T = "str") && isStr d)
theorem tyOk_run {K : PySem.W.Frag} {H : Hp} {T : String} {d : D} {v : V} {G : Hp} {F : List Addr} (hs : Sub G H) (h : tyOk T d = true) (r : Rp K G H d v F) : tyV K T v H := by
  unfold tyOk at h
  rw [Bool.or_eq_true, Bool.and_eq_true, Bool.and_eq_true, decide_eq_true_iff, decide_eq_true_iff] at h
  rcases h with ⟨rfl, h⟩ | ⟨rfl, h⟩
  · cases d with
    | lst m xs =>
      obtain ⟨p, vs, F', rfl, hq, _⟩ := r.seqD hs rfl
      rcases hq with hq | hq
      · exact .inl ⟨rfl, vs, hq⟩
      · cases m with
        | false => obtain ⟨a, us, e, s, _⟩ := r; cases e; exact .inl ⟨rfl, us, hs.sqL s⟩
        | true => obtain ⟨a, us, F2, e, s, _⟩ := r; cases e; exact .inl ⟨rfl, us, SqL.of s⟩
    | _ => cases h
  · cases d with
    | str s => obtain ⟨rfl, _⟩ := r; exact rfl
    | _ => cases h
def wMeth (T : String) (op : List D → (D → Prop) → Prop) (o : VTV) (t : VTVs) : VTV := fun ε Q => o ε fun c => tyOk T c = true ∧ t ε fun ds => op (c :: ds) fun d => Q (frz d)
theorem wv_meth {o e : Expr} {es : List Expr} {to : VTV} {t : VTVs} {T : String} {name : Str} {id : String} {r : V → List V → Hp → VK → Prop} {op : List D → (D → Prop) → Prop} {apos cpos : Pos} (pa : PlainAttrs T) (sl : Slot T name id) (ty : typeOf (.builtin id) = pure (.type "method_descriptor")) (mt : MtR X.toCx id r)
    (hp : OpN X.K (fun vs H Q => ∃ x xs, vs = x :: xs ∧ r x xs H Q) op) (ho : VV X o to) (ha : VVs X (e :: es) t)
    (hbase : attributeBase o name X.env (eval o X.env) = eval o X.env := by rfl)
    (hfew : ((backTo cpos (starEach (e :: es) X.env)).all (fun x => !x.1) && (backToKw cpos (keywordEach [] X.env)).all (fun x => x.1.isSome) && decide ((e :: es).length + ([] : List Keyword).length + (if ([] : List Keyword).isEmpty then 0 else 1) < 30)) = true := by rfl)
    (hline : (apos.endLine == cpos.line) = true := by rfl) (hs : starEach (e :: es) X.env = (false, eval e X.env) :: starEach es X.env := by rfl) (hplain : (backTo cpos (starEach es X.env)).any (·.1) = false := by rfl) :
    VV X (.Call (.Attribute o name apos) (e :: es) [] cpos) (wMeth T op to t) := by
  obtain ⟨o', a1, a2⟩ := ho.ex
  obtain ⟨t', b1, b2⟩ := ha.ex
  refine ⟨fun W => tBM X.K T r (o' W) (t' W), fun W tk => pe_bm pa sl ty mt (a1 W tk) (b1 W tk) hbase hfew hline hs hplain, fun b σ H ε T Tv W Q Q' I q k => ?_⟩
  refine a2 b σ H ε T Tv W _ _ I q fun d v H1 s1 r1 q1 => ?_
  refine ⟨tyOk_run Sub.refl q1.1 r1, b2 b σ H1 ε T Tv W _ _ (I.grow s1) q1.2 fun ds vs H2 s2 r2 l q2 => ?_⟩
  obtain ⟨x, xs, e0, z⟩ := hp.look (ds := d :: ds) (vs := v :: vs) (H := H2) (Q' := Q') ⟨v, vs, [], [], rfl, rfl, r1.up s2, r2⟩ q2 fun d v H' s r z => k d v H' ((s1.trans s2).trans s) r z
  obtain ⟨rfl, rfl⟩ := List.cons.inj e0
  exact z
/-- xs.index(x) -/
def sIndex : List D → (D → Prop) → Prop := fun ds Q => ∃ m ys x j, ds = [.lst m ys, x] ∧ ((flatD x && ys.all flatD) = true ∨ (okD 64 x && okD 64 (.lst m ys)) = true) ∧ ys.findIdx? (fun y => deq y x) = some j ∧ Q (.int (j : Nat))
end
end VL
namespace VL
open PySem PySem.Spec PyProof.Rows L2 VL
section
variable {K : PySem.W.Frag} {G H : Hp}
def idxOk (m : Bool) (ys : List D) (x : D) : Prop := (flatD x && ys.all flatD) = true ∨ (okD 64 x && okD 64 (.lst m ys)) = true
def idxAt (ys : List D) (x : D) : Option Nat := ys.findIdx? (fun y => deq y x)
theorem e_index {m : Bool} {ys : List D} {x : D} {Q : D → Prop} : sIndex [.lst m ys, x] Q ↔ idxOk m ys x ∧ ∃ j, idxAt ys x = some j ∧ Q (.int (j : Nat)) :=
  ⟨fun ⟨_, _, _, j, e, h, hj, q⟩ => by cases e; exact ⟨h, j, hj, q⟩, fun ⟨h, j, hj, q⟩ => ⟨_, _, _, j, rfl, h, hj, q⟩⟩
/-- any, all of a list of truths -/
def blsD : List D → Option (List Bool)
  | [] => some []
  | .bl b :: ds => (blsD ds).map (b :: ·)
  | _ => none
def sAny : List D → (D → Prop) → Prop := fun ds Q => ∃ m xs bs, ds = [.lst m xs] ∧ blsD xs = some bs ∧ Q (.bl (bs.any id))
def sAll : List D → (D → Prop) → Prop := fun ds Q => ∃ m xs bs, ds = [.lst m xs] ∧ blsD xs = some bs ∧ Q (.bl (bs.all id))
theorem e_any {m : Bool} {xs : List D} {Q : D → Prop} : sAny [.lst m xs] Q ↔ ∃ bs, blsD xs = some bs ∧ Q (.bl (bs.any id)) := ⟨fun ⟨_, _, bs, e, h, q⟩ => by cases e; exact ⟨bs, h, q⟩, fun ⟨bs, h, q⟩ => ⟨_, _, bs, rfl, h, q⟩⟩
theorem e_all {m : Bool} {xs : List D} {Q : D → Prop} : sAll [.lst m xs] Q ↔ ∃ bs, blsD xs = some bs ∧ Q (.bl (bs.all id)) := ⟨fun ⟨_, _, bs, e, h, q⟩ => by cases e; exact ⟨bs, h, q⟩, fun ⟨bs, h, q⟩ => ⟨_, _, bs, rfl, h, q⟩⟩
end
section
variable {X : Cv}
/-- x.pop() at a place -/
theorem mp_pop {o : Expr} {i : Nat} {t : VTP} {apos cpos : Pos} (h : VP X o i t)
    (hbase : attributeBase o "pop" X.env (eval o X.env) = eval o X.env := by rfl) (hline : (apos.endLine == cpos.line) = true := by rfl) : VE X (.Call (.Attribute o "pop" apos) [] [] cpos) (vMut muPop i t vaNil) :=
  ve_mut0 h mu_pop PySem.F.slot_list_pop PySem.F.type_list_pop mt_pop hbase hline
theorem mp_clear {o : Expr} {i : Nat} {t : VTP} {apos cpos : Pos} (h : VP X o i t)
    (hbase : attributeBase o "clear" X.env (eval o X.env) = eval o X.env := by rfl) (hline : (apos.endLine == cpos.line) = true := by rfl) : VE X (.Call (.Attribute o "clear" apos) [] [] cpos) (vMut muClear i t vaNil) :=
  ve_mut0 h mu_clear PySem.F.slot_list_clear PySem.F.type_list_clear mt_clear hbase hline
/-- name op= e, ints -/
def vAug (f : Int → Int → Int) (i : Nat) (t : VTE) : VTS := fun N ε => ∃ x : Int, ε[i]? = some (some (.int x)) ∧ t N.rx ε fun d ε1 => ∃ y, d = .int y ∧ i < ε1.length ∧ N.nx (ε1.set i (some (.int (f x y))))
end
end VL
namespace VL
open PySem PySem.Spec PyProof.Rows L2 VL
theorem kap_of {κ : List Bool} {is : List Nat} (h : (is.all fun i => !(κ[i]? == some true)) = true) : ∀ i ∈ is, κ[i]? ≠ some true := fun i hi e => by
  have := List.all_eq_true.mp h i hi
  rw [e] at this
  cases this
section
variable {X : Cv}
theorem vs_setLcF {i : Nat} {y : Str} {py : Pos} {elt tg iter : Expr} {ifs : List Expr} {scope : Scope} {own : List (Str × Nat)} {pos spos : Pos} {wi : VTA} {g : VTG} {tt : VTT} {te : VTE} (hc : X.calm = true) (hN : X.N.Nodup) (ok : BlkOk X.N X.env.scope scope own) (hk : ∀ i ∈ own.map (·.2), X.κ[i]? ≠ some true) (hi : VI X tg iter wi)
    (hg : ∀ c : BI, VTo (X.blk c.1 c.2.1 scope c.2.2.1 c.2.2.2.1 c.2.2.2.2) (own.map (·.2)) tg g) (ht : ∀ c : BI, VTs (X.blk c.1 c.2.1 scope c.2.2.1 c.2.2.2.1 c.2.2.2.2) ifs tt) (he : ∀ c : BI, VE (X.blk c.1 c.2.1 scope c.2.2.1 c.2.2.2.1 c.2.2.2.2) elt te)
    (hy : X.N[i]? = some y) (hyl : X.env.scope.names.lookup y = some .local) (hky : X.κ[i]? ≠ some true) (hsw : swapsWith (.ListComp elt [⟨tg, iter, ifs, 0⟩] scope pos) (some (.Name y py)) spos.line X.env = pure true)
    (hs : ∀ x, foldedSetIterable iter X.env x = pure x := by intro _; rfl) : VS X (.Assign [.Name y py] (.ListComp elt [⟨tg, iter, ifs, 0⟩] scope pos) spos) (vAsg i (vStill (vLc (own.map (·.2)) wi g tt te))) := by
  obtain ⟨wi', w1, w2⟩ := hi.ex
  obtain ⟨g', tt', te', h1, h2, h3, run⟩ := lc_run hk hg ht he
  refine ⟨fun W => tAsg (tLc (wi' W) g' tt' te' (own.map (·.2))) (gName i), fun W tk => ps_setLc hc hN hy hyl hsw (w1 W tk) ok (fun s H C cl fp => h1 ⟨s, H, C, cl, fp⟩) (fun s H C cl fp => h2 ⟨s, H, C, cl, fp⟩) (fun s H C cl fp => h3 ⟨s, H, C, cl, fp⟩) hs, fun b σ H ε T Tv W N E I q l x => ?_⟩
  exact w2 b σ H ε T Tv W N.rx _ _ I q (fun ds R Rv J ε1 H1 I1 hr wk z => run b σ H1 ε1 T Tv R Rv ds J (fun acc ε' => i < ε'.length ∧ N.nx (ε'.set i (some (frz (.lst true acc))))) _ I1 I.lenT hr wk z fun acc v ε' H' I' z' => l.nx _ H' _ ((I'.freeze I.lenT).store I.lenT z'.1 (b.free hky)) z'.2) x
def wLst (t : VTVs) : VTV := fun ε Q => t ε fun ds => ds.length ≤ 1000 ∧ Q (.lst false ds)
theorem wv_lst {es : List Expr} {t : VTVs} {pos : Pos} (h : VVs X es t) : VV X (.List es pos) (wLst t) := by
  obtain ⟨t', h1, h2⟩ := h.ex
  refine ⟨fun W => tLst (t' W), fun W tk => pe_lst (h1 W tk), fun b σ H ε T Tv W Q Q' I q k => ?_⟩
  refine h2 b σ H ε T Tv W _ _ I q fun ds vs H1 s1 rr l z => ?_
  refine ⟨k1000 (by rw [← rr.len]; exact z.1), fun p hp => k (.lst false ds) _ _ (s1.trans (Sub.laid hp)) ⟨p, vs, rfl, SqL.of upd_same, rfl, rr.up (Sub.laid hp)⟩ z.2⟩
end
end VL
namespace VL
open PySem PySem.Spec PyProof.Rows L2 VL
def setAt {α : Type} (l : List α) (z : α) (i : Nat) (x : α) : List α := (l ++ List.replicate (i + 1 - l.length) z).set i x
/-- the context in which slot i is kept -/
abbrev Cv.kp (X : Cv) (i : Nat) : Cv := { X with κ := setAt X.κ false i true }
section
variable {X : Cv} {tg : Expr}
/-- for over a list of ours in slot i, moved out for the while -/
def vForO (i : Nat) (w : List D → List D) (g : VTG) (body : VTS) : VTS := fun N ε => ∃ m xs, ε[i]? = some (some (.lst m xs)) ∧ isFzL xs = true ∧
  vForL g body (w xs) { nx := fun ε' => N.nx (ε'.set i (some (.lst m xs))), rt := fun d ε' => N.rt d (ε'.set i (some (.lst m xs))), rx := N.rx } (ε.set i none)
end
end VL
namespace VL
open PySem PySem.Spec PyProof.Rows L2 VL
theorem vss_never {X : Cv} {st : List Stmt} : VSs X st vNever := ⟨fun _ => fun _ _ _ => False, fun _ _ => ⟨fun _ _ _ _ _ _ h => h.elim⟩, fun _ _ _ _ _ _ _ _ _ _ q _ _ => q.elim⟩
end VL
namespace VL
open PySem PySem.Spec PyProof.Rows L2 VL
/-- an operand: a number, a name -/
abbrev Opd := Sum Int Cs
def opD : Opd → D
  | .inl i => .int i
  | .inr s => .str s
theorem opD_fz (a : Opd) : isFz (opD a) = true := by cases a <;> rfl
def Cs.good (s : Cs) : Bool := s.all fun c => decide (c < 1114112)
def Opd.good : Opd → Bool
  | .inl _ => true
  | .inr s => Cs.good s
/-- a node of a graph -/
inductive Nd where
  | sum (x : Cs) (a : Opd) (s : Cs) (b : Opd) (to : Nat)
  | test (a : Opd) (s : Cs) (b : Opd) (y n : Nat)
  | fin
  | spin
abbrev cSum : Cs := [115, 117, 109]
abbrev cTest : Cs := [116, 101, 115, 116]
abbrev cEnd : Cs := [101, 110, 100]
abbrev cSpin : Cs := [115, 112, 105, 110]
def ndL : Nd → List D
  | .sum x a s b to => [.str cSum, .str x, opD a, .str s, opD b, .int (to : Int)]
  | .test a s b y n => [.str cTest, opD a, .str s, opD b, .int (y : Int), .int (n : Int)]
  | .fin => [.str cEnd]
  | .spin => [.str cSpin]
def ndD (x : Nd) : D := .tup (ndL x)
/-- its ways, the no ahead -/
def goals : Nd → List Nat
  | .sum _ _ _ _ to => [to]
  | .test _ _ _ y n => [n, y]
  | _ => []
def waysN : Nd → List Nat
  | .sum _ _ _ _ to => [to]
  | .test _ _ _ y n => [y, n]
  | _ => []
theorem waysN_eq (x : Nd) : waysN x = (goals x).reverse := by cases x <;> rfl
def Nd.good : Nd → Bool
  | .sum x a s b _ => Cs.good x && (a.good && (Cs.good s && b.good))
  | .test a s b _ _ => a.good && (Cs.good s && b.good)
  | _ => true
def Nd.ok (n : Nat) (x : Nd) : Prop := ∀ g ∈ goals x, g < n
theorem isFzL_nd (x : Nd) : isFzL (ndL x) = true := by cases x <;> simp [ndL, isFzL, isFz, opD_fz]
theorem isFz_nd (x : Nd) : isFz (ndD x) = true := isFzL_nd x
theorem frz_nd (x : Nd) : frz (ndD x) = ndD x := frz_id (isFz_nd x)
theorem isFzL_nds (g : List Nd) : isFzL (g.map ndD) = true := by rw [isFzL_all]; simp [isFz_nd]
theorem frzL_nds (g : List Nd) : frzL (g.map ndD) = g.map ndD := by
  rw [frzL_map, List.map_map]
  exact List.map_congr_left fun x _ => frz_nd x
structure Wst where
  begun : List Nat
  trail : List (Nat × Nat)
  done : List Nat
section
variable (gl : Nat → List Nat)
def wstep : Wst → Wst
  | ⟨b, [], d⟩ => ⟨b, [], d⟩
  | ⟨b, (h, s) :: t, d⟩ => match (gl h)[s]? with
    | none => ⟨b, t, d ++ [h]⟩
    | some g => if g ∈ b then ⟨b, (h, s + 1) :: t, d⟩ else ⟨b ++ [g], (g, 0) :: (h, s + 1) :: t, d⟩
def wrun : Nat → Wst → Wst
  | 0, s => s
  | n + 1, s => if s.trail = [] then s else wrun n (wstep gl s)
/-- the numbers of the nodes, the one finished last ahead -/
def wfuel (n : Nat) : Nat := ((List.range n).map fun x => (gl x).length + 2).sum
def orderAt (n st : Nat) : List Nat := (wrun gl (wfuel gl n) ⟨[st], [(st, 0)], []⟩).done.reverse
def wmu (n : Nat) (s : Wst) : Nat := (((List.range n).filter fun x => decide (x ∉ s.begun)).map fun x => (gl x).length + 2).sum + (s.trail.map fun p => (gl p.1).length - p.2 + 1).sum
/-- what holds all along -/
structure WInvS (n st : Nat) (s : Wst) : Prop where
  rng : ∀ x ∈ s.begun, x < n
  le : ∀ p ∈ s.trail, p.2 ≤ (gl p.1).length
  mem : ∀ x, x ∈ s.begun ↔ x ∈ s.done ++ s.trail.map (·.1)
  nd : (s.done ++ s.trail.map (·.1)).Nodup
  nb : s.begun.Nodup
  last : (s.done ++ s.trail.map (·.1)).getLast? = some st
  dn : ∀ x ∈ s.done, ∀ g ∈ gl x, g ∈ s.begun
  tr : ∀ p ∈ s.trail, ∀ i g, i < p.2 → (gl p.1)[i]? = some g → g ∈ s.begun
  par : ∀ x ∈ s.done ++ s.trail.map (·.1), x ≠ st → ∃ A B p, s.done ++ s.trail.map (·.1) = A ++ x :: B ∧ p ∈ B ∧ x ∈ gl p
end
section
variable {gl : Nat → List Nat} {n : Nat}
theorem WInvS.start {st : Nat} (h0 : st < n) : WInvS gl n st ⟨[st], [(st, 0)], []⟩ where
  rng := fun x hx => by simp at hx; omega
  le := fun p hp => by simp at hp; subst hp; exact Nat.zero_le _
  mem := fun x => by simp
  nd := by simp
  nb := by simp
  last := rfl
  dn := fun x hx => by simp at hx
  tr := fun p hp i g hi => by simp at hp; subst hp; omega
  par := fun x hx hne => by simp at hx; exact absurd hx hne
theorem wstep_none {b : List Nat} {h k : Nat} {t : List (Nat × Nat)} {d : List Nat} (e : (gl h)[k]? = none) : wstep gl ⟨b, (h, k) :: t, d⟩ = ⟨b, t, d ++ [h]⟩ := by
  simp only [wstep, e]
theorem wstep_some {b : List Nat} {h k g : Nat} {t : List (Nat × Nat)} {d : List Nat} (e : (gl h)[k]? = some g) : wstep gl ⟨b, (h, k) :: t, d⟩ = if g ∈ b then ⟨b, (h, k + 1) :: t, d⟩ else ⟨b ++ [g], (g, 0) :: (h, k + 1) :: t, d⟩ := by
  simp only [wstep, e]
theorem WInvS.step {st : Nat} (hg : ∀ x < n, ∀ g ∈ gl x, g < n) {s : Wst} (I : WInvS gl n st s) : WInvS gl n st (wstep gl s) := by
  obtain ⟨b, t, d⟩ := s
  cases t with
  | nil => exact I
  | cons p t =>
    obtain ⟨h, k⟩ := p
    have hb : h ∈ b := (I.mem h).mpr (by simp)
    have kle : k ≤ (gl h).length := I.le (h, k) (by simp)
    cases e : (gl h)[k]? with
    | none =>
      rw [wstep_none e]
      have hk : k = (gl h).length := by
        have := List.getElem?_eq_none_iff.mp e
        omega
      have eo : (d ++ [h]) ++ t.map (·.1) = d ++ ((h, k) :: t).map (·.1) := by simp
      refine ⟨I.rng, fun p hp => I.le p (List.mem_cons_of_mem _ hp), fun x => ?_, ?_, I.nb, ?_, fun x hx g hgx => ?_, fun p hp => I.tr p (List.mem_cons_of_mem _ hp), ?_⟩
      · show x ∈ b ↔ x ∈ (d ++ [h]) ++ t.map (·.1)
        rw [eo]; exact I.mem x
      · show ((d ++ [h]) ++ t.map (·.1)).Nodup
        rw [eo]; exact I.nd
      · show ((d ++ [h]) ++ t.map (·.1)).getLast? = some st
        rw [eo]; exact I.last
      · rcases List.mem_append.mp hx with hx | hx
        · exact I.dn x hx g hgx
        · simp at hx
          subst hx
          obtain ⟨i, hi⟩ := List.mem_iff_getElem?.mp hgx
          exact I.tr (x, k) (by simp) i g (by rw [hk]; exact (List.getElem?_eq_some_iff.mp hi).1) hi
      · show ∀ x ∈ (d ++ [h]) ++ t.map (·.1), x ≠ st → ∃ A B p, (d ++ [h]) ++ t.map (·.1) = A ++ x :: B ∧ p ∈ B ∧ x ∈ gl p
        rw [eo]; exact I.par
    | some g =>
      have kl := (List.getElem?_eq_some_iff.mp e).1
      have gm : g ∈ gl h := List.mem_of_getElem? e
      rw [wstep_some e]
      split
      · rename_i hgb
        have em : ((h, k + 1) :: t).map (·.1) = ((h, k) :: t).map (·.1) := rfl
        refine ⟨I.rng, fun p hp => ?_, I.mem, I.nd, I.nb, I.last, I.dn, fun p hp i y hi hy => ?_, I.par⟩
        · rcases List.mem_cons.mp hp with rfl | hp
          · exact kl
          · exact I.le p (List.mem_cons_of_mem _ hp)
        · rcases List.mem_cons.mp hp with rfl | hp
          · by_cases hik : i = k
            · subst hik
              have : some g = some y := e.symm.trans hy
              cases this
              exact hgb
            · exact I.tr (h, k) (by simp) i y (by simp at hi; omega) hy
          · exact I.tr p (List.mem_cons_of_mem _ hp) i y hi hy
      · rename_i hgb
        have gn : g ∉ d ++ ((h, k) :: t).map (·.1) := fun z => hgb ((I.mem g).mpr z)
        have em : d ++ ((g, 0) :: (h, k + 1) :: t).map (·.1) = d ++ g :: ((h, k) :: t).map (·.1) := rfl
        refine ⟨fun x hx => ?_, fun p hp => ?_, fun x => ?_, ?_, List.nodup_append.mpr ⟨I.nb, by simp, fun a ha c hc e2 => by simp at hc; exact hgb (by rw [← hc, ← e2]; exact ha)⟩, ?_, fun x hx y hy => List.mem_append_left _ (I.dn x hx y hy), fun p hp i y hi hy => ?_, ?_⟩
        · rcases List.mem_append.mp hx with hx | hx
          · exact I.rng x hx
          · simp at hx; subst hx; exact hg h (I.rng h hb) x gm
        · rcases List.mem_cons.mp hp with rfl | hp
          · exact Nat.zero_le _
          rcases List.mem_cons.mp hp with rfl | hp
          · exact kl
          · exact I.le p (List.mem_cons_of_mem _ hp)
        · show x ∈ b ++ [g] ↔ x ∈ d ++ ((g, 0) :: (h, k + 1) :: t).map (·.1)
          rw [em, List.mem_append, I.mem x]
          simp only [List.mem_append, List.mem_cons, List.not_mem_nil, or_false]
          constructor
          · rintro ((h1 | h1) | h1)
            · exact .inl h1
            · exact .inr (.inr h1)
            · exact .inr (.inl h1)
          · rintro (h1 | h1 | h1)
            · exact .inl (.inl h1)
            · exact .inr h1
            · exact .inl (.inr h1)
        · show (d ++ g :: ((h, k) :: t).map (·.1)).Nodup
          have pm : (d ++ g :: ((h, k) :: t).map (·.1)).Perm (g :: (d ++ ((h, k) :: t).map (·.1))) := List.perm_middle
          exact pm.nodup_iff.mpr (List.nodup_cons.mpr ⟨gn, I.nd⟩)
        · show (d ++ g :: ((h, k) :: t).map (·.1)).getLast? = some st
          have h1 := I.last
          have : ∀ (A B : List Nat), B ≠ [] → (A ++ B).getLast? = B.getLast? := fun A B hB => by
            rw [List.getLast?_append]
            cases hq : B.getLast? with
            | none => exact absurd (List.getLast?_eq_none_iff.mp hq) hB
            | some z => rfl
          have h2 : (d ++ ((h, k) :: t).map (·.1)).getLast? = (((h, k) :: t).map (·.1)).getLast? := this _ _ (by simp)
          have h1' : (d ++ ((h, k) :: t).map (·.1)).getLast? = some st := h1
          rw [this _ _ (by simp), List.getLast?_cons]
          rw [h2] at h1'
          rw [h1']
          rfl
        · rcases List.mem_cons.mp hp with rfl | hp
          · simp at hi
          rcases List.mem_cons.mp hp with rfl | hp
          · by_cases hik : i = k
            · subst hik
              have : some g = some y := e.symm.trans hy
              cases this
              simp
            · exact List.mem_append_left _ (I.tr (h, k) (by simp) i y (by simp at hi; omega) hy)
          · exact List.mem_append_left _ (I.tr p (List.mem_cons_of_mem _ hp) i y hi hy)
        · show ∀ x ∈ d ++ g :: ((h, k) :: t).map (·.1), x ≠ st → ∃ A B p, d ++ g :: ((h, k) :: t).map (·.1) = A ++ x :: B ∧ p ∈ B ∧ x ∈ gl p
          intro x hx hne
          by_cases hxg : x = g
          · subst hxg
            exact ⟨d, ((h, k) :: t).map (·.1), h, rfl, by simp, gm⟩
          · have hx2 : x ∈ d ++ ((h, k) :: t).map (·.1) := by
              rcases List.mem_append.mp hx with hx | hx
              · exact List.mem_append_left _ hx
              · rcases List.mem_cons.mp hx with hx | hx
                · exact absurd hx hxg
                · exact List.mem_append_right _ hx
            obtain ⟨A, B, p, eo, hp, hxp⟩ := I.par x hx2 hne
            have eo : d ++ ((h, k) :: t).map (·.1) = A ++ x :: B := eo
            rcases List.append_eq_append_iff.mp eo with ⟨C, e1, e2⟩ | ⟨C, e1, e2⟩
            · -- A = d ++ C
              exact ⟨d ++ g :: C, B, p, by rw [e2]; simp, hp, hxp⟩
            · -- d = A ++ C
              cases C with
              | nil =>
                have e2' : x :: B = ((h, k) :: t).map (·.1) := e2
                exact ⟨d ++ [g], B, p, by rw [← e2']; simp, hp, hxp⟩
              | cons c C =>
                obtain ⟨rfl, rfl⟩ := List.cons.inj e2
                refine ⟨A, C ++ g :: ((h, k) :: t).map (·.1), p, by rw [e1]; simp, ?_, hxp⟩
                rcases List.mem_append.mp hp with hp | hp
                · exact List.mem_append_left _ hp
                · exact List.mem_append_right _ (List.mem_cons_of_mem _ hp)
theorem sum_without {f : Nat → Nat} {P : Nat → Bool} {g : Nat} : ∀ {l : List Nat}, l.Nodup → g ∈ l → P g = true → ((l.filter fun x => P x && !(x == g)).map f).sum + f g = ((l.filter P).map f).sum
  | [], _, h, _ => by cases h
  | x :: l, nd, h, hp => by
    obtain ⟨n1, n2⟩ := List.nodup_cons.mp nd
    by_cases e : x = g
    · subst e
      have : (l.filter fun y => P y && !(y == x)) = l.filter P := by
        apply List.filter_congr
        intro y hy
        have : (y == x) = false := by
          rw [beq_eq_false_iff_ne]
          exact fun z => n1 (z ▸ hy)
        rw [this]
        simp
      rw [List.filter_cons_of_neg (by simp), List.filter_cons_of_pos hp, this, List.map_cons, List.sum_cons]
      omega
    · have hl : g ∈ l := by
        rcases List.mem_cons.mp h with h | h
        · exact absurd h.symm e
        · exact h
      have ih := sum_without (f := f) (P := P) n2 hl hp
      have hx : (x == g) = false := by rw [beq_eq_false_iff_ne]; exact e
      cases hP : P x with
      | true =>
        rw [List.filter_cons_of_pos (by rw [hP, hx]; rfl), List.filter_cons_of_pos hP, List.map_cons, List.map_cons, List.sum_cons, List.sum_cons]
        omega
      | false =>
        rw [List.filter_cons_of_neg (by rw [hP]; simp), List.filter_cons_of_neg (by rw [hP]; simp)]
        exact ih
theorem wmu_step {st : Nat} (hg : ∀ x < n, ∀ g ∈ gl x, g < n) {s : Wst} (I : WInvS gl n st s) (ht : s.trail ≠ []) : wmu gl n (wstep gl s) < wmu gl n s := by
  obtain ⟨b, t, d⟩ := s
  cases t with
  | nil => exact absurd rfl ht
  | cons p t =>
    obtain ⟨h, k⟩ := p
    have hb : h ∈ b := (I.mem h).mpr (by simp)
    have kle : k ≤ (gl h).length := I.le (h, k) (by simp)
    cases e : (gl h)[k]? with
    | none =>
      rw [wstep_none e]
      simp only [wmu, List.map_cons, List.sum_cons]
      omega
    | some g =>
      have kl := (List.getElem?_eq_some_iff.mp e).1
      rw [wstep_some e]
      split
      · simp only [wmu, List.map_cons, List.sum_cons]
        omega
      · rename_i hgb
        have gn : g < n := hg h (I.rng h hb) g (List.mem_of_getElem? e)
        have := sum_without (f := fun x => (gl x).length + 2) (P := fun x => decide (x ∉ b)) (g := g) List.nodup_range (List.mem_range.mpr gn) (by simpa using hgb)
        have ef : ((List.range n).filter fun x => decide (x ∉ b ++ [g])) = (List.range n).filter fun x => decide (x ∉ b) && !(x == g) := by
          apply List.filter_congr
          intro x _
          by_cases h1 : x ∈ b <;> by_cases h2 : x = g <;> simp [h1, h2]
        simp only [wmu, List.map_cons, List.sum_cons]
        rw [ef]
        omega
theorem wrun_inv {st : Nat} (hg : ∀ x < n, ∀ g ∈ gl x, g < n) : ∀ {m : Nat} {s : Wst}, WInvS gl n st s → wmu gl n s ≤ m → WInvS gl n st (wrun gl m s) ∧ (wrun gl m s).trail = []
  | 0, s, I, h => by
    refine ⟨I, ?_⟩
    show s.trail = []
    cases e : s.trail with
    | nil => rfl
    | cons p t =>
      have : s.trail ≠ [] := by rw [e]; simp
      have := wmu_step hg I this
      omega
  | m + 1, s, I, h => by
    unfold wrun
    split
    · rename_i e; exact ⟨I, e⟩
    · rename_i e
      exact wrun_inv hg (I.step hg) (by have := wmu_step hg I e; omega)
theorem wmu_start {st : Nat} (h0 : st < n) : wmu gl n ⟨[st], [(st, 0)], []⟩ ≤ wfuel gl n := by
  have := sum_without (f := fun x => (gl x).length + 2) (P := fun _ => true) (g := st) List.nodup_range (List.mem_range.mpr h0) rfl
  have ef : ((List.range n).filter fun x => decide (x ∉ [st])) = (List.range n).filter fun x => true && !(x == st) := by
    apply List.filter_congr
    intro x _
    by_cases h2 : x = st <;> simp [h2]
  have e2 : ((List.range n).filter fun _ => true) = List.range n := by simp
  rw [e2] at this
  simp only [wmu, wfuel, List.map_cons, List.map_nil, List.sum_cons, List.sum_nil]
  rw [ef]
  omega
inductive Pthv (f : Nat → List Nat) (S : Nat → Prop) (a : Nat) : Nat → Prop
  | self : S a → Pthv f S a a
  | step {k t : Nat} : Pthv f S a k → t ∈ f k → S t → Pthv f S a t
theorem Pthv.mono {f : Nat → List Nat} {S S' : Nat → Prop} {a k : Nat} (h : ∀ y, S y → S' y) (p : Pthv f S a k) : Pthv f S' a k := by
  induction p with
  | self s => exact .self (h _ s)
  | step _ m s ih => exact .step ih m (h _ s)
def Anc (gl : Nat → List Nat) (L : List Nat) (g x : Nat) : Prop := List.Sublist [g, x] L ∨ Pthv gl (fun y => y = g ∨ List.Sublist [y, g] L) g x
theorem Anc.mono {L L' : List Nat} {g x : Nat} (h : L.Sublist L') : Anc gl L g x → Anc gl L' g x
  | .inl a => .inl (a.trans h)
  | .inr p => .inr (p.mono fun _ hy => hy.imp id fun z => z.trans h)
structure WAnc (gl : Nat → List Nat) (s : Wst) : Prop where
  ch : ∀ (i : Nat) (p q : Nat × Nat), s.trail[i]? = some p → s.trail[i + 1]? = some q → p.1 ∈ gl q.1
  dn : ∀ x ∈ s.done, ∀ g ∈ gl x, Anc gl (s.done ++ s.trail.map (·.1)) g x
  tr : ∀ p ∈ s.trail, ∀ i g, i < p.2 → (gl p.1)[i]? = some g → Anc gl (s.done ++ s.trail.map (·.1)) g p.1
theorem trail_path {L : List Nat} : ∀ (t : List (Nat × Nat)) (g : Nat), (∀ (i : Nat) (p q : Nat × Nat), t[i]? = some p → t[i + 1]? = some q → p.1 ∈ gl q.1) → (t.map (·.1)).Sublist L → g ∈ t.map (·.1) → ∀ h, (t.map (·.1)).head? = some h → Pthv gl (fun y => y = g ∨ List.Sublist [y, g] L) g h
  | [], g, _, _, hg, _, _ => by cases hg
  | [p], g, _, _, hg, h, hh => by
    simp at hg hh
    subst hg
    subst hh
    exact .self (.inl rfl)
  | p :: q :: t, g, ch, sl, hg, h, hh => by
    simp at hh
    subst hh
    by_cases e : g = p.1
    · subst e; exact .self (.inl rfl)
    · have hg2 : g ∈ (q :: t).map (·.1) := by
        rcases List.mem_cons.mp hg with z | z
        · exact absurd z e
        · exact z
      have sl2 : ((q :: t).map (·.1)).Sublist L := (List.sublist_cons_self p.1 _).trans sl
      have ih := trail_path (q :: t) g (fun i a b h1 h2 => ch (i + 1) a b h1 h2) sl2 hg2 q.1 rfl
      refine .step ih (ch 0 p q rfl rfl) (.inr (List.Sublist.trans ?_ sl))
      exact List.Sublist.cons_cons p.1 (List.singleton_sublist.mpr hg2)
theorem WAnc.start {st : Nat} : WAnc gl ⟨[st], [(st, 0)], []⟩ where
  ch := fun i p q _ h2 => by simp at h2
  dn := fun x hx => by simp at hx
  tr := fun p hp i g hi => by simp at hp; subst hp; omega
theorem WAnc.step {st : Nat} {s : Wst} (I : WInvS gl n st s) (J : WAnc gl s) : WAnc gl (wstep gl s) := by
  obtain ⟨b, t, d⟩ := s
  cases t with
  | nil => exact J
  | cons p t =>
    obtain ⟨h, k⟩ := p
    have kle : k ≤ (gl h).length := I.le (h, k) (by simp)
    cases e : (gl h)[k]? with
    | none =>
      rw [wstep_none e]
      have hk : k = (gl h).length := by
        have := List.getElem?_eq_none_iff.mp e
        omega
      have eo : (d ++ [h]) ++ t.map (·.1) = d ++ ((h, k) :: t).map (·.1) := by simp
      refine ⟨fun i p q h1 h2 => J.ch (i + 1) p q h1 h2, fun x hx g hg => ?_, fun p hp i g hi hgi => ?_⟩
      · show Anc gl ((d ++ [h]) ++ t.map (·.1)) g x
        rw [eo]
        rcases List.mem_append.mp hx with hx | hx
        · exact J.dn x hx g hg
        · simp at hx
          subst hx
          obtain ⟨i, hi⟩ := List.mem_iff_getElem?.mp hg
          exact J.tr (x, k) (by simp) i g (by rw [hk]; exact (List.getElem?_eq_some_iff.mp hi).1) hi
      · show Anc gl ((d ++ [h]) ++ t.map (·.1)) g p.1
        rw [eo]
        exact J.tr p (List.mem_cons_of_mem _ hp) i g hi hgi
    | some g =>
      have gm : g ∈ gl h := List.mem_of_getElem? e
      have hch : ∀ (i : Nat) (p q : Nat × Nat), ((h, k + 1) :: t)[i]? = some p → ((h, k + 1) :: t)[i + 1]? = some q → p.1 ∈ gl q.1 := fun i p q h1 h2 => by
        cases i with
        | zero =>
          cases h1
          exact J.ch 0 (h, k) q rfl h2
        | succ i => exact J.ch (i + 1) p q h1 h2
      rw [wstep_some e]
      split
      · rename_i hgb
        have hA : Anc gl (d ++ ((h, k) :: t).map (·.1)) g h := by
          rcases List.mem_append.mp ((I.mem g).mp hgb) with hd | ht
          · left
            exact List.Sublist.append (l₁ := [g]) (r₁ := [h]) (List.singleton_sublist.mpr hd) (List.singleton_sublist.mpr (by simp))
          · right
            exact trail_path ((h, k) :: t) g J.ch (List.sublist_append_right d _) ht h rfl
        refine ⟨hch, J.dn, fun p hp i y hi hy => ?_⟩
        show Anc gl (d ++ ((h, k) :: t).map (·.1)) y p.1
        rcases List.mem_cons.mp hp with rfl | hp
        · by_cases hik : i = k
          · subst hik
            have : some g = some y := e.symm.trans hy
            cases this
            exact hA
          · exact J.tr (h, k) (by simp) i y (by simp at hi; omega) hy
        · exact J.tr p (List.mem_cons_of_mem _ hp) i y hi hy
      · have sl : (d ++ ((h, k) :: t).map (·.1)).Sublist (d ++ ((g, 0) :: (h, k + 1) :: t).map (·.1)) := List.Sublist.append (List.Sublist.refl d) (List.sublist_cons_self g _)
        refine ⟨fun i p q h1 h2 => ?_, fun x hx y hy => (J.dn x hx y hy).mono sl, fun p hp i y hi hy => ?_⟩
        · cases i with
          | zero =>
            cases h1
            cases h2
            exact gm
          | succ i => exact hch i p q h1 h2
        · rcases List.mem_cons.mp hp with rfl | hp
          · simp at hi
          rcases List.mem_cons.mp hp with rfl | hp
          · by_cases hik : i = k
            · subst hik
              have : some g = some y := e.symm.trans hy
              cases this
              left
              exact List.Sublist.trans (List.Sublist.cons_cons g (List.singleton_sublist.mpr (by simp))) (List.sublist_append_right d _)
            · exact (J.tr (h, k) (by simp) i y (by simp at hi; omega) hy).mono sl
          · exact (J.tr p (List.mem_cons_of_mem _ hp) i y hi hy).mono sl
theorem wrun_anc {st : Nat} (hg : ∀ x < n, ∀ g ∈ gl x, g < n) : ∀ {m : Nat} {s : Wst}, WInvS gl n st s → WAnc gl s → WAnc gl (wrun gl m s)
  | 0, s, I, J => J
  | m + 1, s, I, J => by
    unfold wrun
    split
    · exact J
    · exact wrun_anc hg (I.step hg) (J.step I)
/-- what is known of the numbers -/
structure OrdOk (gl : Nat → List Nat) (n st : Nat) (os : List Nat) : Prop where
  nd : os.Nodup
  rng : ∀ x ∈ os, x < n
  head : os.head? = some st
  closed : ∀ x ∈ os, ∀ g ∈ gl x, g ∈ os
  par : ∀ x ∈ os, x ≠ st → ∃ A B p, os = A ++ x :: B ∧ p ∈ A ∧ x ∈ gl p
  anc : ∀ x ∈ os, ∀ g ∈ gl x, List.Sublist [x, g] os ∨ Pthv gl (fun y => y = g ∨ List.Sublist [g, y] os) g x
theorem order_ok {st : Nat} (h0 : st < n) (hg : ∀ x < n, ∀ g ∈ gl x, g < n) : OrdOk gl n st (orderAt gl n st) := by
  obtain ⟨I, ht⟩ := wrun_inv hg (WInvS.start (gl := gl) h0) (wmu_start h0)
  have J := wrun_anc hg (m := wfuel gl n) (WInvS.start (gl := gl) h0) WAnc.start
  generalize hs : wrun gl (wfuel gl n) ⟨[st], [(st, 0)], []⟩ = s at I ht J
  have eo : s.done ++ s.trail.map (·.1) = s.done := by rw [ht]; simp
  have e : orderAt gl n st = s.done.reverse := by unfold orderAt; rw [hs]
  rw [e]
  have rv : ∀ a b : Nat, List.Sublist [a, b] s.done → List.Sublist [b, a] s.done.reverse := fun a b h => h.reverse
  refine ⟨?_, fun x hx => ?_, ?_, fun x hx g hgx => ?_, fun x hx hne => ?_, fun x hx g hgx => ?_⟩
  · have := I.nd
    rw [eo] at this
    exact (List.reverse_perm _).nodup_iff.mpr this
  · exact I.rng x ((I.mem x).mpr (by rw [eo]; exact List.mem_reverse.mp hx))
  · have := I.last
    rw [eo] at this
    rw [List.head?_reverse]
    exact this
  · have := I.dn x (List.mem_reverse.mp hx) g hgx
    rw [I.mem, eo] at this
    exact List.mem_reverse.mpr this
  · obtain ⟨A, B, p, e1, hp, hxp⟩ := I.par x (by rw [eo]; exact List.mem_reverse.mp hx) hne
    rw [eo] at e1
    refine ⟨B.reverse, A.reverse, p, ?_, List.mem_reverse.mpr hp, hxp⟩
    rw [e1]
    simp
  · have := J.dn x (List.mem_reverse.mp hx) g hgx
    rw [eo] at this
    rcases this with h | h
    · exact .inl (rv _ _ h)
    · exact .inr (h.mono fun y hy => hy.imp id (rv _ _))
end
def glOf (raw : List Nd) (x : Nat) : List Nat := match raw[x]? with
  | some nd => goals nd
  | none => []
theorem nodup_get {l : List Nat} (nd : l.Nodup) {i j : Nat} (hi : i < l.length) (hj : j < l.length) (e : l[i] = l[j]) : i = j := by
  have h := List.pairwise_iff_getElem.mp nd
  rcases Nat.lt_trichotomy i j with q | q | q
  · exact absurd e (h i j hi hj q)
  · exact q
  · exact absurd e.symm (h j i hj hi q)
theorem nodup_len : ∀ {n : Nat} {os : List Nat}, os.Nodup → (∀ x ∈ os, x < n) → os.length ≤ n
  | 0, [], _, _ => Nat.le_refl _
  | 0, x :: os, _, h => absurd (h x List.mem_cons_self) (Nat.not_lt_zero _)
  | n + 1, os, nd, h => by
    have h1 := nodup_len (n := n) (os := os.filter fun x => !(x == n)) (nd.filter _) fun x hx => by
      obtain ⟨a, c⟩ := List.mem_filter.mp hx
      have := h x a
      have : x ≠ n := by simpa using c
      omega
    have h2 : os.length = (os.filter fun x => !(x == n)).length + os.count n := by
      rw [List.length_eq_countP_add_countP (fun x => !(x == n)) (l := os), List.countP_eq_length_filter]
      congr 1
      show _ = os.countP (· == n)
      congr 1
      funext x
      cases x == n <;> simp
    have h3 : os.count n ≤ 1 := List.nodup_iff_count.mp nd n
    omega
end VL
namespace VL
open PySem PySem.Spec PyProof.Rows L2 VL
theorem script_fz (ns : List Int) : isFz (scriptD ns) = true := by show (!false && isFzL (ns.map D.int)) = true; rw [isFzL_all]; simp [isFz]
theorem script_len {ns : List Int} {Q : D → Prop} : sLen [scriptD ns] Q ↔ Q (.int ns.length) := by unfold scriptD; rw [e_lenL, List.length_map]
def natsD (xs : List Nat) : List D := xs.map fun k : Nat => D.int (k : Int)
theorem natsD_fz (xs : List Nat) : isFzL (natsD xs) = true := by unfold natsD; rw [isFzL_all]; simp [isFz]
theorem natsD_frz (xs : List Nat) : frzL (natsD xs) = natsD xs := by
  rw [frzL_map]
  unfold natsD
  rw [List.map_map]
  rfl
theorem natsD_len (xs : List Nat) : (natsD xs).length = xs.length := by unfold natsD; rw [List.length_map]
theorem tyOk_L {m : Bool} {xs : List D} : tyOk "list" (.lst m xs) = true := rfl
theorem e_pop {ds : List D} {y : D} {P : List D → D → Prop} : (∃ ds' res, muPop (ds ++ [y]) [] = some (ds', res) ∧ P ds' res) ↔ P ds y := by
  have h : muPop (ds ++ [y]) [] = some (ds, y) := by
    show (((ds ++ [y])[(ds ++ [y]).length - 1]?).map fun z => ((ds ++ [y]).dropLast, z)) = _
    simp
  rw [h]
  exact ⟨fun ⟨_, _, e, p⟩ => by cases e; exact p, fun p => ⟨_, _, rfl, p⟩⟩
theorem names1 {i : Nat} {a : D} {ε : Ep} {Q : Ep → Prop} : vNames [i] (.tup [a]) ε Q ↔ i < ε.length ∧ Q (ε.set i (some a)) :=
  ⟨fun ⟨_, e, _, h, q⟩ => by cases e; exact ⟨h i (by simp), q⟩, fun ⟨h, q⟩ => ⟨_, rfl, rfl, fun j hj => by simp at hj; subst hj; exact h, q⟩⟩
theorem names2 {i j : Nat} {a b : D} {ε : Ep} {Q : Ep → Prop} : vNames [i, j] (.tup [a, b]) ε Q ↔ i < ε.length ∧ j < ε.length ∧ Q ((ε.set i (some a)).set j (some b)) :=
  ⟨fun ⟨_, e, _, h, q⟩ => by cases e; exact ⟨h i (by simp), h j (by simp), q⟩, fun ⟨h, h2, q⟩ => ⟨_, rfl, rfl, fun j hj => by simp at hj; rcases hj with rfl | rfl <;> assumption, q⟩⟩
theorem names3 {i j k : Nat} {a b c : D} {ε : Ep} {Q : Ep → Prop} : vNames [i, j, k] (.tup [a, b, c]) ε Q ↔ i < ε.length ∧ j < ε.length ∧ k < ε.length ∧ Q (((ε.set i (some a)).set j (some b)).set k (some c)) :=
  ⟨fun ⟨_, e, _, h, q⟩ => by cases e; exact ⟨h i (by simp), h j (by simp), h k (by simp), q⟩, fun ⟨h, h2, h3, q⟩ => ⟨_, rfl, rfl, fun j hj => by simp at hj; rcases hj with rfl | rfl | rfl <;> assumption, q⟩⟩
theorem ix_at {xs : List D} {k : Nat} {d : D} (h : xs[k]? = some d) (z : isFz d = true) {n : Nat} (hn : xs.length = n) {P : D → Prop} : (∃ d, ((ixN n (k : Int)).bind fun j => xs[j]?) = some d ∧ isFz d = true ∧ P d) ↔ P d := by
  have hk := (List.getElem?_eq_some_iff.mp h).1
  rw [ixN_nat (by omega)]
  show (∃ d, xs[k]? = some d ∧ isFz d = true ∧ P d) ↔ P d
  rw [h]
  exact ⟨fun ⟨_, e, _, p⟩ => by cases e; exact p, fun p => ⟨_, rfl, z, p⟩⟩
theorem ix_nats {xs : List Nat} {k g : Nat} (h : xs[k]? = some g) {P : D → Prop} : (∃ d, ((ixN xs.length (k : Int)).bind fun j => (natsD xs)[j]?) = some d ∧ isFz d = true ∧ P d) ↔ P (.int (g : Int)) :=
  ix_at (by unfold natsD; rw [List.getElem?_map, h]; rfl) rfl (natsD_len xs)
theorem cutL_take {α : Type} (xs : List α) (k : Nat) : cutL xs none (some (no_index (OfNat.ofNat k))) = xs.take k := by
  show (xs.drop 0).take (HT.sIx xs.length xs.length (some ((k : Nat) : Int)) - 0) = _
  rw [HT.sIx_nat, List.drop_zero, Nat.sub_zero]
  by_cases h : k ≤ xs.length
  · rw [Nat.min_eq_left h]
  · rw [Nat.min_eq_right (by omega), List.take_length, List.take_of_length_le (by omega)]
theorem cutL_drop {α : Type} (xs : List α) (k : Nat) : cutL xs (some (no_index (OfNat.ofNat k))) none = xs.drop k := by
  show (xs.drop (HT.sIx xs.length 0 (some ((k : Nat) : Int)))).take (xs.length - HT.sIx xs.length 0 (some ((k : Nat) : Int))) = _
  rw [HT.sIx_nat]
  by_cases h : k ≤ xs.length
  · rw [Nat.min_eq_left h, List.take_of_length_le (by simp)]
  · rw [Nat.min_eq_right (by omega), List.drop_length, List.drop_of_length_le (by omega)]
    simp
theorem frz_op (a : Opd) : frz (opD a) = opD a := by cases a <;> rfl
section
variable {own : List Nat} {g : VTG} {tt : VTT} {te te' : VTE} {d : D} {ds acc : List D} {ε : Ep} {Q : List D → Ep → Prop}
theorem e_lcNil : vLcL own g tt te [] acc ε Q ↔ Q acc ε := Iff.rfl
theorem e_lcU (h : te = te') : vLcL own g tt te (d :: ds) acc ε Q ↔ g d ε fun ε1 => tt noX ε1 fun c ε2 => if c = true then te' noX ε2 fun y ε3 => acc.length < 1000000 ∧ vLcL own g tt te ds (acc ++ [y]) (forgetE own ε3) Q else vLcL own g tt te ds acc (forgetE own ε2) Q := by subst h; exact Iff.rfl
theorem e_lcU2 {tt' : VTT} (h : te = te') (h2 : tt = tt') : vLcL own g tt te (d :: ds) acc ε Q ↔ g d ε fun ε1 => tt' noX ε1 fun c ε2 => if c = true then te' noX ε2 fun y ε3 => acc.length < 1000000 ∧ vLcL own g tt te ds (acc ++ [y]) (forgetE own ε3) Q else vLcL own g tt te ds acc (forgetE own ε2) Q := by subst h; subst h2; exact Iff.rfl
theorem rng0 (n : Nat) : rng 0 n = (List.range n).map fun k : Nat => D.int (k : Int) := by
  unfold rng
  exact List.map_congr_left fun k _ => by rw [Int.zero_add]
theorem rngN (n : Nat) : rng 0 n = natsD (List.range n) := rng0 n
end
end VL
namespace VL
open PySem PySem.Spec PyProof.Rows L2 VL
def rowsD (n : Nat) (r : Nat → List Nat) : List D := (List.range n).map fun t => .lst true (natsD (r t))
def rowsF (n : Nat) (r : Nat → List Nat) : List D := (List.range n).map fun t => .lst false (natsD (r t))
section
variable {n t k : Nat} {r : Nat → List Nat}
theorem rowsD_len : (rowsD n r).length = n := by simp [rowsD]
theorem rowsF_len : (rowsF n r).length = n := by simp [rowsF]
theorem frz_rows : frzL (rowsD n r) = rowsF n r := by
  rw [frzL_map]
  unfold rowsD rowsF
  rw [List.map_map]
  exact List.map_congr_left fun t _ => by show D.lst false (frzL (natsD (r t))) = _; rw [natsD_frz]
theorem rowsF_fz : isFzL (rowsF n r) = true := by rw [isFzL_all]; simp [rowsF, isFz, natsD_fz]
end
theorem seqD_l {m : Bool} {xs : List D} : VL.seqD (.lst m xs) = some xs := rfl
theorem seqD_t {xs : List D} : VL.seqD (.tup xs) = some xs := rfl
theorem listD_l {m : Bool} {xs : List D} : listD (.lst m xs) = some xs := rfl
theorem listD_t {xs : List D} : listD (.tup xs) = some xs := rfl
theorem deq_ll {m n : Bool} {xs ys : List D} : deq (.lst m xs) (.lst n ys) = deqL xs ys := rfl
theorem frz_rowsF {n : Nat} {r : Nat → List Nat} : frzL (rowsF n r) = rowsF n r := frzL_id rowsF_fz
theorem frzL_len {xs : List D} : (frzL xs).length = xs.length := by rw [frzL_map, List.length_map]
theorem ite_no {c : Prop} {i : Decidable c} {a b : Prop} (h : ¬c) (q : b) : @ite Prop c i a b := by rw [if_neg h]; exact q
theorem ite_yes {c : Prop} {i : Decidable c} {a b : Prop} (h : c) (q : a) : @ite Prop c i a b := by rw [if_pos h]; exact q
theorem nats_ok (m : Bool) (xs : List Nat) : okD 64 (.lst m (natsD xs)) = true := by
  show okDL 63 (natsD xs) = true
  rw [okDL_all]
  unfold natsD
  rw [List.all_map]
  exact List.all_eq_true.mpr fun x _ => rfl
theorem eqOk_nn {m n : Bool} {xs ys : List Nat} : eqOk (.lst m (natsD xs)) (.lst n (natsD ys)) ↔ True := ⟨fun _ => trivial, fun _ => .inr ⟨nats_ok m xs, nats_ok n ys⟩⟩
theorem eqOk_n0 {m n : Bool} {xs : List Nat} : eqOk (.lst m (natsD xs)) (.lst n []) ↔ True := ⟨fun _ => trivial, fun _ => .inr ⟨nats_ok m xs, rfl⟩⟩
theorem deqL_n0 {xs : List Nat} : deqL (natsD xs) [] = xs.isEmpty := by cases xs <;> rfl
theorem deqL_nn : ∀ {xs ys : List Nat}, deqL (natsD xs) (natsD ys) = decide (xs = ys)
  | [], [] => rfl
  | [], y :: ys => rfl
  | x :: xs, [] => rfl
  | x :: xs, y :: ys => by
    show (deq (.int (x : Int)) (.int (y : Int)) && deqL (natsD xs) (natsD ys)) = _
    rw [deq_i, deqL_nn, Bool.eq_iff_iff, Bool.and_eq_true, decide_eq_true_iff, decide_eq_true_iff, decide_eq_true_iff, List.cons.injEq]
    constructor
    · rintro ⟨h1, h2⟩; exact ⟨by omega, h2⟩
    · rintro ⟨rfl, rfl⟩; exact ⟨rfl, rfl⟩
end VL
namespace VL
open PySem PySem.Spec PyProof.Rows L2 VL
abbrev cJump : Cs := [106, 117, 109, 112]
/-- a row's mark: the node whose deed it is, or the node to which it jumps -/
abbrev Mk := Nat × Bool
end VL
namespace VL
open PySem PySem.Spec PyProof.Rows L2 VL
inductive Rch (f : Nat → List Nat) (o : Nat) : Nat → Prop
  | zero : o ≠ 0 → Rch f o 0
  | step {k t : Nat} : Rch f o k → t ∈ f k → t ≠ o → Rch f o t
structure Gf (f : Nat → List Nat) (n : Nat) : Prop where
  pos : 0 < n
  clo : ∀ k < n, ∀ t ∈ f k, t < n
  par : ∀ k, 0 < k → k < n → ∃ p, p < k ∧ k ∈ f p
section
variable {f : Nat → List Nat} {n : Nat}
theorem Rch.ne {o k : Nat} (h : Rch f o k) : k ≠ o := by
  cases h with
  | zero h => exact fun e => h e.symm
  | step _ _ h => exact h
theorem Rch.lt (G : Gf f n) {o k : Nat} (h : Rch f o k) : k < n := by
  induction h with
  | zero _ => exact G.pos
  | step _ ht _ ih => exact G.clo _ ih _ ht
theorem Rch.no0 {k : Nat} : ¬Rch f 0 k := fun h => by
  induction h with
  | zero h => exact h rfl
  | step _ _ _ ih => exact ih
theorem rch_below (G : Gf f n) {o : Nat} : ∀ k, k < n → k < o → Rch f o k := by
  intro k
  induction k using Nat.strongRecOn with
  | ind k ih =>
    intro hk ho
    by_cases h0 : k = 0
    · subst h0; exact .zero (by omega)
    · obtain ⟨p, hp, hm⟩ := G.par k (by omega) hk
      exact .step (ih p hp (by omega) (by omega)) hm (by omega)
/-- o stands on each way to k -/
def Dm (f : Nat → List Nat) (o k : Nat) : Prop := ¬Rch f o k
theorem Dm.self (k : Nat) : Dm f k k := fun h => h.ne rfl
theorem Dm.zero (k : Nat) : Dm f 0 k := Rch.no0
theorem Dm.le (G : Gf f n) {o k : Nat} (hk : k < n) (h : Dm f o k) : o ≤ k := by
  by_cases e : k < o
  · exact absurd (rch_below G k hk e) h
  · omega
theorem Dm.trans {a b k : Nat} (h1 : Dm f a b) (h2 : Dm f b k) : Dm f a k := fun h => by
  have : ∀ k, Rch f a k → Rch f b k ∨ Rch f a b := fun k h => by
    induction h with
    | zero h =>
      by_cases e : b = 0
      · subst e; exact .inr (.zero h)
      · exact .inl (.zero e)
    | @step k t hk ht hne ih =>
      rcases ih with ih | ih
      · by_cases e : t = b
        · subst e; exact .inr (.step hk ht hne)
        · exact .inl (.step ih ht e)
      · exact .inr ih
  rcases this k h with h | h
  · exact h2 h
  · exact h1 h
/-- the last of those that stand on each way to k, k apart -/
structure IsId (f : Nat → List Nat) (k z : Nat) : Prop where
  dm : Dm f z k
  lt : z < k
  last : ∀ o, Dm f o k → o ≠ k → o ≤ z
theorem IsId.uniq {k y z : Nat} (h1 : IsId f k y) (h2 : IsId f k z) : y = z := by
  have a := h1.last z h2.dm (by have := h2.lt; omega)
  have b := h2.last y h1.dm (by have := h1.lt; omega)
  omega
structure IsTree (f : Nat → List Nat) (n : Nat) (ts : List (Option Nat)) : Prop where
  len : ts.length = n
  zero : ts[0]? = some none
  id : ∀ k, 0 < k → k < n → ∃ z, ts[k]? = some (some z) ∧ IsId f k z
theorem IsTree.uniq {ts us : List (Option Nat)} (h1 : IsTree f n ts) (h2 : IsTree f n us) : ts = us := by
  apply List.ext_getElem?
  intro i
  by_cases hi : i < n
  · by_cases h0 : i = 0
    · subst h0; rw [h1.zero, h2.zero]
    · obtain ⟨y, e1, i1⟩ := h1.id i (by omega) hi
      obtain ⟨z, e2, i2⟩ := h2.id i (by omega) hi
      rw [e1, e2, i1.uniq i2]
  · rw [List.getElem?_eq_none (by rw [h1.len]; omega), List.getElem?_eq_none (by rw [h2.len]; omega)]
/-- up a tree -/
inductive Abv (ts : List (Option Nat)) (o : Nat) : Nat → Prop
  | self : Abv ts o o
  | up {k j : Nat} : ts[k]? = some (some j) → Abv ts o j → Abv ts o k
end
/-- each one's upper is smaller -/
def TLt (ts : List (Option Nat)) : Prop := ∀ k j : Nat, ts[k]? = some (some j) → j < k
end VL
namespace VL
open PySem PySem.Spec PyProof.Rows L2 VL
def SetK (ts : List (Option Nat)) (k : Nat) : Prop := k = 0 ∨ ∃ j, ts[k]? = some (some j)
/-- a way from j to k, on nodes from j on -/
inductive Pth (f : Nat → List Nat) (j : Nat) : Nat → Prop
  | refl : Pth f j j
  | step {a b : Nat} : Pth f j a → b ∈ f a → j ≤ b → Pth f j b
theorem Pth.le {f : Nat → List Nat} {j k : Nat} (h : Pth f j k) : j ≤ k := by
  cases h with
  | refl => exact Nat.le_refl _
  | step _ _ h => exact h
theorem Pth.trans {f : Nat → List Nat} {i j k : Nat} (h1 : Pth f i j) (h2 : Pth f j k) : Pth f i k := by
  induction h2 with
  | refl => exact h1
  | step _ hb hj ih => exact .step ih hb (Nat.le_trans h1.le hj)
theorem Pth.rch {f : Nat → List Nat} {o j k : Nat} (h : Pth f j k) (ho : o < j) (r : Rch f o j) : Rch f o k := by
  induction h with
  | refl => exact r
  | step _ hb hj ih => exact .step ih hb (by omega)
/-- a way from 0 to k without o, with fewer than r steps that do not lead on -/
inductive Rn (f : Nat → List Nat) (o : Nat) : Nat → Nat → Prop
  | zero {r : Nat} : o ≠ 0 → Rn f o (r + 1) 0
  | fwd {r p t : Nat} : Rn f o r p → t ∈ f p → t ≠ o → p < t → Rn f o r t
  | back {r p t : Nat} : Rn f o r p → t ∈ f p → t ≠ o → Rn f o (r + 1) t
section
variable {f : Nat → List Nat} {n : Nat}
theorem Rn.up {o k r : Nat} (h : Rn f o r k) : Rn f o (r + 1) k := by
  induction h with
  | zero h => exact .zero h
  | fwd _ a b c ih => exact .fwd ih a b c
  | back _ a b ih => exact .back ih a b
theorem Rn.le {o k r s : Nat} (h : Rn f o r k) (hs : r ≤ s) : Rn f o s k := by
  induction hs with
  | refl => exact h
  | step _ ih => exact ih.up
theorem Rn.rch {o k r : Nat} (h : Rn f o r k) : Rch f o k := by
  induction h with
  | zero h => exact .zero h
  | fwd _ a b _ ih => exact .step ih a b
  | back _ a b ih => exact .step ih a b
theorem Rn.ne {o k r : Nat} (h : Rn f o r k) : k ≠ o := h.rch.ne
theorem Abv.trans {ts : List (Option Nat)} {a b c : Nat} (h1 : Abv ts a b) (h2 : Abv ts b c) : Abv ts a c := by
  induction h2 with
  | self => exact h1
  | up e _ ih => exact .up e ih
theorem Abv.le {ts : List (Option Nat)} (T : TLt ts) {o k : Nat} (h : Abv ts o k) : o ≤ k := by
  induction h with
  | self => exact Nat.le_refl _
  | up e _ ih => have := T _ _ e; omega
section
variable {ts : List (Option Nat)} {k m : Nat}
theorem get_set {x y : Nat} (e : x ≠ k) (h : ts[x]? = some (some y)) : (ts.set k (some m))[x]? = some (some y) := by
  rw [List.getElem?_set_ne (fun z => e z.symm)]
  exact h
theorem SetK.set {x : Nat} (h : SetK ts x) : SetK (ts.set k (some m)) x := by
  rcases h with h | ⟨j, h⟩
  · exact .inl h
  · by_cases e : x = k
    · subst e
      exact .inr ⟨m, by rw [List.getElem?_set_self (List.getElem?_eq_some_iff.mp h).1]⟩
    · exact .inr ⟨j, get_set e h⟩
end
end
theorem SetK.iff {ts : List (Option Nat)} {k : Nat} {x : Option Nat} (h : ts[k]? = some x) : SetK ts k ↔ k = 0 ∨ x ≠ none := by
  unfold SetK
  rw [h]
  constructor
  · rintro (a | ⟨j, a⟩)
    · exact .inl a
    · cases a; exact .inr (fun z => nomatch z)
  · rintro (a | a)
    · exact .inl a
    · cases x with
      | none => exact absurd rfl a
      | some j => exact .inr ⟨j, rfl⟩
end VL
namespace VL
open PySem PySem.Spec PyProof.Rows L2 VL
section
variable {X : Cv}
/-- {name: constant} -/
def vDisp1 (i : Nat) (c : D) : VTE := fun _ ε Q => ∃ z : Int, ε[i]? = some (some (.int z)) ∧ Q (.dK true [.inl z] [c]) ε
end
end VL
namespace VL
open PySem PySem.Spec PyProof.Rows L2 VL
def natK (ks : List Nat) : List Kc := ks.map fun k : Nat => Sum.inl (k : Int)
/-- names of nodes, each with the one that it was come to from -/
abbrev Came := List (Nat × Option Nat)
def Came.keys (ps : Came) : List Nat := ps.map (·.1)
theorem keys_len (ps : Came) : ps.keys.length = ps.length := by simp [Came.keys]
inductive Trl (ps : Came) : Nat → List Nat → Prop
  | root {k : Nat} : (k, none) ∈ ps → Trl ps k [k]
  | up {k p : Nat} {l : List Nat} : (k, some p) ∈ ps → Trl ps p l → Trl ps k (l ++ [k])
/-- reached from st on nodes outside bs -/
inductive RchB (f : Nat → List Nat) (bs : List Nat) (st : Nat) : Nat → Prop
  | start : st ∉ bs → RchB f bs st st
  | step {k t : Nat} : RchB f bs st k → t ∈ f k → t ∉ bs → RchB f bs st t
theorem RchB.st {f : Nat → List Nat} {bs : List Nat} {st k : Nat} (h : RchB f bs st k) : st ∉ bs := by
  induction h with
  | start h => exact h
  | step _ _ _ ih => exact ih
/-- a way: its first, its last, steps, none twice -/
structure WayOk (f : Nat → List Nat) (bs : List Nat) (st k : Nat) (l : List Nat) : Prop where
  hd : l.head? = some st
  lst : l.getLast? = some k
  nd : l.Nodup
  stp : ∀ (i a b : Nat), l[i]? = some a → l[i + 1]? = some b → b ∈ f a
  out : ∀ x ∈ l, x ∉ bs
structure BfI (f : Nat → List Nat) (n : Nat) (st : Nat) (ws bs : List Nat) (ps : Came) (at_ : Nat) : Prop where
  nd : ps.keys.Nodup
  rng : ∀ k ∈ ps.keys, k < n
  root : ps.head? = some (st, none)
  par : ∀ (i k p : Nat), ps[i]? = some (k, some p) → ∃ j x, j < i ∧ ps[j]? = some (p, x) ∧ k ∈ f p
  one : ∀ (i k : Nat), ps[i]? = some (k, none) → i = 0
  out : ∀ k ∈ ps.keys, k ∉ bs
  le : at_ ≤ ps.length
  nw : ∀ (i k : Nat) x, i < at_ → ps[i]? = some (k, x) → k ∉ ws
  dn : ∀ (i k : Nat) x, i < at_ → ps[i]? = some (k, x) → ∀ t ∈ f k, t ∉ bs → t ∈ ps.keys
section
variable {f : Nat → List Nat} {n st : Nat} {ws bs : List Nat} {ps : Came} {at_ : Nat}
/-- each has its way, on those that came ahead of it -/
theorem BfI.trail (I : BfI f n st ws bs ps at_) : ∀ (i k : Nat) x, ps[i]? = some (k, x) → ∃ l, Trl ps k l ∧ WayOk f bs st k l ∧ (∀ y ∈ l, ∃ j z, j ≤ i ∧ ps[j]? = some (y, z)) ∧ l.length ≤ i + 1 := by
  intro i
  induction i using Nat.strongRecOn with
  | ind i ih =>
    intro k x h
    have hm : (k, x) ∈ ps := List.mem_of_getElem? h
    cases x with
    | none =>
      have := I.one i k h
      subst this
      have hr := I.root
      rw [List.head?_eq_getElem?, h] at hr
      have hr : k = st := by cases hr; rfl
      subst hr
      refine ⟨[k], .root hm, ⟨rfl, rfl, by simp, fun i a b _ h2 => by simp at h2, fun y hy => ?_⟩, fun y hy => ?_, by simp⟩
      · simp at hy; subst hy; exact I.out y (List.mem_map.mpr ⟨_, hm, rfl⟩)
      · simp at hy; subst hy; exact ⟨0, none, Nat.le_refl _, h⟩
    | some p =>
      obtain ⟨j, y, hj, hp, hk⟩ := I.par i k p h
      obtain ⟨l, t, w, on, ln⟩ := ih j hj p y hp
      have hkl : k ∉ l := fun z => by
        obtain ⟨j2, z2, h1, h2⟩ := on k z
        have hlt : i < ps.length := (List.getElem?_eq_some_iff.mp h).1
        have e : ps.keys[j2]'(by rw [keys_len]; omega) = ps.keys[i]'(by rw [keys_len]; omega) := by
          have a1 : ps.keys[j2]? = some k := by unfold Came.keys; rw [List.getElem?_map, h2]; rfl
          have a2 : ps.keys[i]? = some k := by unfold Came.keys; rw [List.getElem?_map, h]; rfl
          have a3 := (List.getElem?_eq_some_iff.mp a1).2
          have a4 := (List.getElem?_eq_some_iff.mp a2).2
          rw [a3, a4]
        have := nodup_get I.nd _ _ e
        omega
      refine ⟨l ++ [k], .up hm t, ⟨?_, by simp, List.nodup_append.mpr ⟨w.nd, by simp, fun a ha c hc e => by simp at hc; exact hkl (by rw [← hc, ← e]; exact ha)⟩, ?_, fun y hy => ?_⟩, fun y hy => ?_, by simp; omega⟩
      · cases l with
        | nil => cases w.hd
        | cons a l => exact w.hd
      · intro i2 a b h1 h2
        by_cases e : i2 + 1 < l.length
        · rw [List.getElem?_append_left (by omega)] at h1
          rw [List.getElem?_append_left e] at h2
          exact w.stp i2 a b h1 h2
        · have e2 : i2 + 1 = l.length := by
            have := (List.getElem?_eq_some_iff.mp h2).1
            simp at this
            omega
          rw [List.getElem?_append_left (by omega)] at h1
          rw [List.getElem?_append_right (by omega), e2, Nat.sub_self] at h2
          cases h2
          have hl := w.lst
          rw [List.getLast?_eq_getElem?, show l.length - 1 = i2 by omega, h1] at hl
          cases hl
          exact hk
      · rcases List.mem_append.mp hy with hy | hy
        · exact w.out y hy
        · simp at hy; subst hy; exact I.out y (List.mem_map.mpr ⟨_, hm, rfl⟩)
      · rcases List.mem_append.mp hy with hy | hy
        · obtain ⟨j2, z, h1, h2⟩ := on y hy
          exact ⟨j2, z, by omega, h2⟩
        · simp at hy; subst hy; exact ⟨i, _, Nat.le_refl _, h⟩
theorem BfI.fin (I : BfI f n st ws bs ps ps.length) {k : Nat} (h : RchB f bs st k) : k ∈ ps.keys ∧ k ∉ ws := by
  have mem : k ∈ ps.keys := by
    induction h with
    | start _ =>
      cases e : ps with
      | nil => have := I.root; rw [e] at this; cases this
      | cons p ps' => have := I.root; rw [e] at this; cases this; simp [Came.keys]
    | @step k t _ ht hb ih =>
      obtain ⟨p, hp, rfl⟩ := List.mem_map.mp ih
      obtain ⟨i, hi, e⟩ := List.mem_iff_getElem.mp hp
      exact I.dn i p.1 p.2 hi (by rw [List.getElem?_eq_getElem hi, e]) t ht hb
  refine ⟨mem, ?_⟩
  obtain ⟨p, hp, rfl⟩ := List.mem_map.mp mem
  obtain ⟨i, hi, e⟩ := List.mem_iff_getElem.mp hp
  exact I.nw i p.1 p.2 hi (by rw [List.getElem?_eq_getElem hi, e])
/-- what comes of the ways on of a node -/
def bf1 (bs : List Nat) (h : Nat) (ps : Came) (t : Nat) : Came := if t ∉ ps.keys ∧ t ∉ bs then ps ++ [(t, some h)] else ps
theorem keys_app {ps : Came} {k : Nat} {x : Option Nat} : Came.keys (ps ++ [(k, x)]) = ps.keys ++ [k] := by simp [Came.keys]
structure BfM (f : Nat → List Nat) (n : Nat) (st : Nat) (ws bs : List Nat) (ps0 ps : Came) (at_ : Nat) (h : Nat) (seen : List Nat) : Prop where
  I : BfI f n st ws bs ps at_
  pre : ∃ e, ps = ps0 ++ e
  hs : ∃ x, ps[at_]? = some (h, x)
  ok : ∀ t ∈ seen, t ∉ bs → t ∈ ps.keys
theorem BfM.step {h : Nat} {ps0 : Came} {seen : List Nat} (M : BfM f n st ws bs ps0 ps at_ h seen) {t : Nat} (ht : t ∈ f h) (hn : t < n) : BfM f n st ws bs ps0 (bf1 bs h ps t) at_ h (seen ++ [t]) := by
  unfold bf1
  split
  · rename_i hc
    obtain ⟨c1, c2⟩ := hc
    obtain ⟨x0, hx0⟩ := M.hs
    have hl := (List.getElem?_eq_some_iff.mp hx0).1
    have old : ∀ {i : Nat} {p : Nat × Option Nat}, ps[i]? = some p → (ps ++ [(t, some h)])[i]? = some p := fun {i p} e => by
      rw [List.getElem?_append_left (List.getElem?_eq_some_iff.mp e).1]; exact e
    have new : ∀ {i : Nat} {p : Nat × Option Nat}, (ps ++ [(t, some h)])[i]? = some p → ps[i]? = some p ∨ (i = ps.length ∧ p = (t, some h)) := fun {i p} e => by
      by_cases z : i < ps.length
      · rw [List.getElem?_append_left z] at e; exact .inl e
      · rw [List.getElem?_append_right (by omega)] at e
        have : i - ps.length = 0 := by
          have := (List.getElem?_eq_some_iff.mp e).1
          simp at this
          omega
        rw [this] at e
        cases e
        exact .inr ⟨by omega, rfl⟩
    refine ⟨⟨?_, fun k hk => ?_, ?_, fun i k p e => ?_, fun i k e => ?_, fun k hk => ?_, by simp; have := M.I.le; omega, fun i k x hi e => ?_, fun i k x hi e y hy hb => ?_⟩, ?_, ⟨x0, old hx0⟩, fun y hy hb => ?_⟩
    · rw [keys_app]
      exact List.nodup_append.mpr ⟨M.I.nd, by simp, fun a ha c hc e => by simp at hc; exact c1 (by rw [← hc, ← e]; exact ha)⟩
    · rw [keys_app] at hk
      rcases List.mem_append.mp hk with hk | hk
      · exact M.I.rng k hk
      · simp at hk; subst hk; exact hn
    · have := M.I.root
      cases ps with
      | nil => cases this
      | cons p ps => exact this
    · rcases new e with e | ⟨_, e'⟩
      · obtain ⟨j, x, h1, h2, h3⟩ := M.I.par i k p e
        exact ⟨j, x, h1, old h2, h3⟩
      · cases e'
        exact ⟨at_, x0, by omega, old hx0, ht⟩
    · rcases new e with e | ⟨_, e'⟩
      · exact M.I.one i k e
      · cases e'
    · rw [keys_app] at hk
      rcases List.mem_append.mp hk with hk | hk
      · exact M.I.out k hk
      · simp at hk; subst hk; exact c2
    · rcases new e with e | ⟨rfl, _⟩
      · exact M.I.nw i k x hi e
      · omega
    · rw [keys_app]
      rcases new e with e | ⟨rfl, _⟩
      · exact List.mem_append_left _ (M.I.dn i k x hi e y hy hb)
      · omega
    · obtain ⟨e, he⟩ := M.pre
      exact ⟨e ++ [(t, some h)], by rw [he, List.append_assoc]⟩
    · rw [keys_app]
      rcases List.mem_append.mp hy with hy | hy
      · exact List.mem_append_left _ (M.ok y hy hb)
      · simp at hy; subst hy; simp
  · rename_i hc
    refine ⟨M.I, M.pre, M.hs, fun y hy hb => ?_⟩
    rcases List.mem_append.mp hy with hy | hy
    · exact M.ok y hy hb
    · simp at hy; subst hy
      exact Classical.byContradiction fun z => hc ⟨z, hb⟩
theorem BfM.next {h : Nat} {ps0 : Came} {seen : List Nat} (M : BfM f n st ws bs ps0 ps at_ h seen) (hw : h ∉ ws) (all : ∀ t ∈ f h, t ∈ seen) : BfI f n st ws bs ps (at_ + 1) := by
  obtain ⟨x0, hx0⟩ := M.hs
  have hl := (List.getElem?_eq_some_iff.mp hx0).1
  refine ⟨M.I.nd, M.I.rng, M.I.root, M.I.par, M.I.one, M.I.out, hl, fun i k x hi e => ?_, fun i k x hi e t ht hb => ?_⟩
  · by_cases z : i = at_
    · subst z; rw [hx0] at e; cases e; exact hw
    · exact M.I.nw i k x (by omega) e
  · by_cases z : i = at_
    · subst z; rw [hx0] at e; cases e; exact M.ok t (all t ht) hb
    · exact M.I.dn i k x (by omega) e t ht hb
end
theorem WayOk.rch {f : Nat → List Nat} {bs : List Nat} {st k : Nat} {l : List Nat} (w : WayOk f bs st k l) : RchB f bs st k := by
  have key : ∀ (i x : Nat), l[i]? = some x → RchB f bs st x := by
    intro i
    induction i with
    | zero =>
      intro x h
      have e := w.hd
      rw [List.head?_eq_getElem?, h] at e
      have e : x = st := Option.some.inj e
      subst e
      exact .start (w.out x (List.mem_of_getElem? h))
    | succ i ih =>
      intro x h
      have hi : i < l.length := by have := (List.getElem?_eq_some_iff.mp h).1; omega
      exact .step (ih _ (List.getElem?_eq_getElem hi)) (w.stp i _ x (List.getElem?_eq_getElem hi) h) (w.out x (List.mem_of_getElem? h))
  have hl := w.lst
  rw [List.getLast?_eq_getElem?] at hl
  exact key _ k hl
theorem ixN_neg {n : Nat} (h : 0 < n) : ixN n (-1) = some (n - 1) := by
  unfold ixN
  rw [if_neg (by decide), if_pos (by omega)]
  congr 1
  omega
end VL
namespace VL
open PySem PySem.Spec PyProof.Rows L2 VL
abbrev nsO (w : World) : Obj := { cls := .type "set", dict := none, data := .set #[] 0 (.fresh 0 0 (!w.params.followText "set-order")) }
section
variable {P : Program} {w : World} {A : Around} {E : Value → Shared → Prop} {s : Shared}
theorem set_fed {l S : Addr} {items : Array Value} (ns : List Int) {R : Result → Shared → Prop} (hh : A.handled = none) (lst : s.heap.IsList l items) (allI : IntsAre items.toList ns) (hb : ns.length + 1 < scanBound) (hS : s.heap.get? S = some (nsO w)) (hSl : S ≠ l)
    (k : ∀ (h' : Heap) (tk c : Nat), SetR w h' S (fun j => decide (j ∈ ns)) c → c ≤ ns.length → (∀ b o, b ≠ S → s.heap.get? b = some o → h'.get? b = some o) → R (.ok (.ret .none)) { s with heap := h', toks := tk }) :
    codeAny (model P w) A (.builtin "set.update.loop" ⟨[.ref S, .ref s.heap.objs.size], []⟩) R { s with heap := s.heap.push { cls := .type "list_iterator", data := .fields #[.ref l, .int 0 0] } } := by
  obtain ⟨ol, hol, _⟩ := id lst
  have lt := Heap.lt_size hol
  have ltS := Heap.lt_size hS
  have sz : items.size = ns.length := by
    have q := IntsAre.length allI
    rw [Array.length_toList] at q
    exact q
  have at_ : ∀ (i : Nat) (v : Value), items[i]? = some v → ∃ k t, ns[i]? = some k ∧ v = .int k t := fun i v hv => by
    have hi : i < ns.length := by rw [← sz]; exact (Array.getElem?_eq_some_iff.mp hv).1
    obtain ⟨t, e⟩ := PyProof.Rows.IntsAre.int_at allI i v (by rw [Array.getElem?_toList]; exact hv)
    exact ⟨ns[i], t, List.getElem?_eq_getElem hi, by rw [e, List.getD_eq_getElem?_getD, List.getElem?_eq_getElem hi]; rfl⟩
  have up : ∀ b o, s.heap.get? b = some o → (s.heap.push { cls := .type "list_iterator", data := .fields #[.ref l, .int 0 0] }).get? b = some o := fun b o e => Heap.get?_push_of_some _ e
  refine set_update_ints ((Walks.list (A := A.in1) (by simpa using hh) s.heap.objs.size l (Nat.ne_of_lt lt) items).toS) S (by simp only [List.mem_cons, List.not_mem_nil, or_false, not_or]; exact ⟨Nat.ne_of_lt ltS, hSl⟩) ns sz hb at_ items.size 0 _ (by omega) (Nat.zero_le _)
    ⟨⟨_, Heap.get?_push_size _ rfl, rfl, rfl⟩, lst.push _⟩ ⟨0, Nat.le_refl 0, setR_new_at (up S _ hS)⟩ fun s' c m hc hR => ?_
  rw [Moved.eq_with m]
  refine k s'.heap s'.toks c hR (by omega) fun b o hb e => m.heap b o (fun hm => ?_) (up b o e)
  rcases List.mem_cons.mp hm with z | z
  · exact hb z
  · have z : b = s.heap.objs.size := List.mem_singleton.mp z
    have := Heap.lt_size e
    rw [z] at this
    exact absurd this (Nat.lt_irrefl _)
theorem set_list {l : Addr} {items : Array Value} (ns : List Int) {Q : Value → Shared → Prop} (hh : A.handled = none) (lst : s.heap.IsList l items) (allI : IntsAre items.toList ns) (hb : ns.length + 1 < scanBound)
    (k : ∀ (h' : Heap) (tk c : Nat), SetR w h' s.heap.objs.size (fun j => decide (j ∈ ns)) c → c ≤ ns.length → (∀ b o, s.heap.get? b = some o → h'.get? b = some o) → Q (.ref s.heap.objs.size) { s with heap := h', toks := tk }) :
    wpAny (model P w) A (call (.type "set") [.ref l]) Q E s := by
  obtain ⟨mc, mtl, hmro⟩ := F.called_set.mro
  have hmade := F.called_set.made
  have hsub := F.called_set.sub
  refine wpAny_call (codeAny_of_tree ?_)
  show wpAny _ _ (callAny (.type "set") _) _ _ _
  refine wpAny_pure ⟨Code.quiet_builtin _ (by decide +kernel), codeAny_builtin F.entry_type_call ?_⟩
  rw [Around.under_plain (weight_type_call_type "set" [.ref l] []) rfl]
  have n1 := F.called_set.notType
  have n2 := F.called_set.canCreate
  have n3 := F.typeCall_set_1 (.ref l)
  repeat (any_goals (first | assumption | wp_step))
  refine codeAny_mono (code_set_led1 (.ref l) (E := E) (Q₁ := fun obj s₁ => obj = .ref s.heap.objs.size ∧ s₁ = { s with heap := s.heap.push (nsO w) }) ⟨rfl, rfl⟩) fun r s₁ hr => ?_
  cases r with
  | error e => exact hr
  | ok fl =>
    cases fl with
    | ret obj =>
      obtain ⟨rfl, rfl⟩ := hr
      have hS : (s.heap.push (nsO w)).get? s.heap.objs.size = some (nsO w) := Heap.get?_push_size _ rfl
      have tS : Shared.TypeIs { s with heap := s.heap.push (nsO w) } (.ref s.heap.objs.size) "set" := ⟨_, hS, rfl⟩
      have n4 := F.called_set.init.lookup
      have n5 := F.called_set.init.bind (.ref s.heap.objs.size)
      repeat (any_goals (first | assumption | wp_step))
      refine codeAny_mono (codeAny_call_builtin (R := wants (fun r s₂ => r = .none ∧ ∃ h' tk c, s₂ = { s with heap := h', toks := tk } ∧ SetR w h' s.heap.objs.size (fun j => decide (j ∈ ns)) c ∧ c ≤ ns.length ∧ (∀ b o, s.heap.get? b = some o → h'.get? b = some o)) E) F.called_set.init.plain F.entry_set_init (check_set_init_1 tS ?_)) fun r₂ s₂ hr₂ => ?_
      · obtain ⟨ol, hol, hcl, nl, hdl⟩ := id lst
        have lt := Heap.lt_size hol
        obtain ⟨o1, o2, o3, o4⟩ := ol
        simp only at hcl hdl
        subst hcl hdl
        have hol2 : (s.heap.push (nsO w)).get? l = some { cls := .type "list", dict := o2, data := .seq items nl, slots := o4 } := Heap.get?_push_of_some _ hol
        have n6 := F.sub_list_set
        have n7 := F.sub_list_frozenset
        have n8 : (Value.type "list" == Value.type "dict") = false := by decide
        have lst2 : (s.heap.push (nsO w)).IsList l items := ⟨_, hol2, rfl, nl, rfl⟩
        unfold Builtin.«set.__init__» noKeywords Builtin.Frozenset.updateFrom
        generalize hpi : pyIter = piF
        wp_walk
        subst hpi
        refine wpAny_pyIter_list lst2 (wpAny_bind (wpAny_runValue ?_))
        refine set_fed (s := { s with heap := s.heap.push (nsO w) }) ns (by simp [hh]) lst2 allI hb hS (Nat.ne_of_gt lt) fun h' tk c hR hc keep => ?_
        show wpAny _ _ _ _ _ _
        refine wpAny_pure ?_
        show wpAny _ _ (ret Value.none) _ _ _
        exact wpAny_pure ⟨rfl, h', tk, c, rfl, hR, hc, fun b o e => keep b o (fun z => absurd (Heap.lt_size e) (by rw [z]; exact Nat.lt_irrefl _)) (Heap.get?_push_of_some _ e)⟩
      · cases r₂ with
        | error e => exact hr₂
        | ok fl₂ =>
          cases fl₂ with
          | ret r =>
            obtain ⟨rfl, h', tk, c, rfl, hR, hc, hk⟩ := hr₂
            repeat (any_goals (first | assumption | wp_step))
            exact k _ _ _ hR hc hk
          | _ => exact hr₂.elim
    | _ => exact hr.elim
end
end VL
namespace VL
open PySem PySem.Spec PyProof.Rows L2 VL
theorem pe_callS0 {X : Cx} {x : Str} {p pos : Pos} {k : Nat} {f : Addr} {fd : FuncData} {ps : List Str} {sp : Sp} {E : L2.St → XK} (F : FnOk X.prog X.w X.K X.mg X.base (VL.CX X.prog X.w) k f fd ps sp) (hr : Room k X.A) (hg : Gl X x) (hm : X.mg x = some (.ref f)) (hk : PySem.W.keepIn X.K (.ref f) = true) (hb : Binds X.K fd ps []) (hx : ∀ σ, PassesAt (VL.CX X.prog X.w) X σ (E σ))
    (hdb : (x == ("__debug__" : Str)) = false := by decide) : PE X (.Call (.Name x p) [] [] pos) (tCallS sp E tNil) := by
  refine ⟨fun pins s σ H Q I h => ?_⟩
  refine wpAny_Call_Name_kw (ld_glob I hg hm ?_ hdb)
  exact PySem.W.callWith_K0 I.kIn hk (run_fnS (us := []) F hr hb (hx σ) I .nil h)
section
variable {X : Cv}
theorem ve_call0 {x : Str} {p pos : Pos} {k : Nat} {vsp : VSp} (F : Fv X.prog X.w X.K X.mg X.base x k 0 vsp) (m : Mono vsp) (hr : Room k X.A) (hg : Gl X.toCx x) (hdb : (x == ("__debug__" : Str)) = false := by decide) :
    VE X (.Call (.Name x p) [] [] pos) (vCall vsp [] vaNil) := by
  obtain ⟨f, fd, ps, hm, hk, hb, F⟩ := F.ex
  refine ⟨fun W => tCallS (Lift X.K 0 vsp) (WE W) tNil, fun W tk => pe_callS0 F hr hg hm hk hb (fun σ => passAt tk σ) hdb, fun b σ H ε T Tv W N Q Q' I q kk x => ?_⟩
  exact call_run (ds := []) (vs := []) (rs := []) I.lenT rfl rfl (by simpa using I) True.intro q (m []) kk x
end
end VL
namespace VL
open PySem PySem.Spec PyProof.Rows L2 VL
/-- handed arg a, with pre a, it answers r, the arguments being l then, where rel a r l -/
def Rsp {α : Type} (arg : α → List D) (pre : α → Prop) (rel : α → D → List D → Prop) : VSp := fun ds Q _ => ∃ a, ds = arg a ∧ pre a ∧ ∀ r l, rel a r l → Q r l
theorem Rsp.mono {α : Type} {arg : α → List D} {pre : α → Prop} {rel : α → D → List D → Prop} : Mono (Rsp arg pre rel) := fun _ _ _ _ _ h _ ⟨a, e, p, q⟩ => ⟨a, e, p, fun r l z => h _ _ (q r l z)⟩
end VL
namespace VL
open PySem PySem.Spec PyProof.Rows L2 VL
section
variable {X : Cv}
theorem SI.pin {K : PySem.W.Frag} {b : Bs} {σ : L2.St} {H : Hp} {ε : Ep} {T : List D} {Tv : List V} {d : D} {v : V} (I : SI K b σ H ε (T ++ [d]) (Tv ++ [v])) (hl : T.length = Tv.length) : SI K b σ H ε (T ++ [.pin v d]) (Tv ++ [v]) := by
  obtain ⟨G, F, Ft, J⟩ := I
  obtain ⟨F1, F2, rfl, r1, r2⟩ := J.temps.split2 hl
  have r2 := RpL.one.mp r2
  have r3 : Rp K G H (.pin v d) v F2 := ⟨rfl, r2⟩
  exact ⟨G, F, F1 ++ F2, J.s0, J.sub, J.slots, r1.append (RpL.one.mpr r3), J.nd, J.fr, J.own, J.gn, J.keep, J.kept⟩
end
end VL
namespace VL
open PySem PySem.Spec PyProof.Rows L2 VL
section
variable {X : Cv}
abbrev VTD := WV → Ep → (List (D × D) → Ep → Prop) → Prop
def vdNil : VTD := fun _ ε Q => Q [] ε
def vdCons (tk tv : VTE) (u : VTD) : VTD := fun N ε Q => tk N ε fun k ε1 => tv N ε1 fun y ε2 => u N ε2 fun ds ε3 => Q ((k, y) :: ds) ε3
/-- keys, and what stands under them -/
def keysD : List (D × D) → Option (List Kc)
  | [] => some []
  | (k, _) :: r => (keyD k).bind fun k => (keysD r).map (k :: ·)
def vDisp (t : VTD) : VTE := fun N ε Q => t N ε fun ds ε1 => ∃ ks, keysD ds = some ks ∧ ks.Nodup ∧ Q (.dK true ks (ds.map (·.2))) ε1
end
end VL
namespace VL
open PySem PySem.Spec PyProof.Rows L2 VL
end VL
namespace VL
open PySem PySem.Spec PyProof.Rows L2 VL
end VL
namespace VL
open PySem PySem.Spec PyProof.Rows L2 VL
inductive Rw where
  | sum (n : Nat) (x : Cs) (a : Opd) (s : Cs) (b : Opd)
  | test (n : Nat) (a : Opd) (s : Cs) (b : Opd) (to : Nat)
  | jump (n to : Nat)
  | fin (n : Nat)
def rwL : Rw → List D
  | .sum n x a s b => [.int (n : Int), .str cSum, .str x, opD a, .str s, opD b]
  | .test n a s b to => [.int (n : Int), .str cTest, opD a, .str s, opD b, .int (to : Int)]
  | .jump n to => [.int (n : Int), .str cJump, .int (to : Int)]
  | .fin n => [.int (n : Int), .str cEnd]
def rwD (r : Rw) : D := .tup (rwL r)
theorem rwD_fz (r : Rw) : isFz (rwD r) = true := by cases r <;> simp [rwD, rwL, isFz, isFzL, opD_fz]
theorem rws_fz (rs : List Rw) : isFzL (rs.map rwD) = true := by rw [isFzL_all]; simp [rwD_fz]
theorem rws_frz (rs : List Rw) : frzL (rs.map rwD) = rs.map rwD := frzL_id (rws_fz rs)
def Rw.num : Rw → Nat
  | .sum n _ _ _ _ => n
  | .test n _ _ _ _ => n
  | .jump n _ => n
  | .fin n => n
def Rw.tos : Rw → List Nat
  | .test _ _ _ _ to => [to]
  | .jump _ to => [to]
  | _ => []
def Rw.falls : Rw → Bool
  | .sum _ _ _ _ _ => true
  | .test _ _ _ _ _ => true
  | _ => false
def Rw.good : Rw → Bool
  | .sum _ x a s b => Cs.good x && (a.good && (Cs.good s && b.good))
  | .test _ a s b _ => a.good && (Cs.good s && b.good)
  | _ => true
def nums (rs : List Rw) : List Nat := rs.map Rw.num
theorem nums_len (rs : List Rw) : (nums rs).length = rs.length := by simp [nums]
structure RwOk (rs : List Rw) : Prop where
  pos : 0 < rs.length
  few : rs.length < 10000
  nd : (nums rs).Nodup
  tos : ∀ r ∈ rs, ∀ t ∈ r.tos, t ∈ nums rs
  good : ∀ r ∈ rs, r.good = true
  last : ∀ (k : Nat) r, rs[k]? = some r → r.falls = true → k + 1 < rs.length
def nxJ (rs : List Rw) (k : Nat) : Option Nat := match rs[k]? with
  | some (.jump _ to) => some ((nums rs).idxOf to)
  | _ => none
def stopJ (nx : Nat → Option Nat) : Nat → List Nat → Nat → Nat
  | 0, _, k => k
  | f + 1, seen, k => match nx k with
    | none => k
    | some b => if k ∈ seen then k else stopJ nx f (seen ++ [k]) b
def ringJ (nx : Nat → Option Nat) (c : Nat) : Nat → Nat → Nat → Nat
  | 0, m, _ => m
  | f + 1, m, h => if h = c then m else ringJ nx c f (min m h) ((nx h).getD 0)
def comeTo (rs : List Rw) (k : Nat) : Nat := match nxJ rs (stopJ (nxJ rs) (rs.length + 1) [] k) with
  | none => stopJ (nxJ rs) (rs.length + 1) [] k
  | some b => ringJ (nxJ rs) (stopJ (nxJ rs) (rs.length + 1) [] k) (rs.length + 1) (stopJ (nxJ rs) (rs.length + 1) [] k) b
theorem nx_lt {rs : List Rw} (R : RwOk rs) {k b : Nat} (h : nxJ rs k = some b) : b < rs.length := by
  unfold nxJ at h
  split at h
  · rename_i n to e
    cases h
    rw [← nums_len]
    exact List.idxOf_lt_length_iff.mpr (R.tos _ (List.mem_of_getElem? e) to (by simp [Rw.tos]))
  · cases h
theorem stop_lt {nx : Nat → Option Nat} {n : Nat} (hx : ∀ k b, nx k = some b → b < n) : ∀ (f : Nat) (seen : List Nat) (k : Nat), k < n → stopJ nx f seen k < n
  | 0, _, _, h => h
  | f + 1, seen, k, h => by
    unfold stopJ
    split
    · exact h
    · rename_i b e
      split
      · exact h
      · exact stop_lt hx f _ b (hx k b e)
theorem ring_lt {nx : Nat → Option Nat} {n c : Nat} : ∀ (f m h : Nat), m < n → ringJ nx c f m h < n
  | 0, _, _, h => h
  | f + 1, m, h, hm => by
    unfold ringJ
    split
    · exact hm
    · exact ring_lt f _ _ (by omega)
theorem come_lt {rs : List Rw} (R : RwOk rs) {k : Nat} (h : k < rs.length) : comeTo rs k < rs.length := by
  have h1 := stop_lt (fun k b e => nx_lt R (k := k) e) (rs.length + 1) [] k h
  unfold comeTo
  split
  · exact h1
  · exact ring_lt _ _ _ h1
/-- what is known on the way: those seen stand one behind the other -/
structure JInv (rs : List Rw) (k0 : Nat) (seen : List Nat) (k : Nat) : Prop where
  nd : seen.Nodup
  rng : ∀ x ∈ seen, x < rs.length
  lt : k < rs.length
  ch : ∀ (i a : Nat), seen[i]? = some a → nxJ rs a = (seen ++ [k])[i + 1]?
  val : stopJ (nxJ rs) (rs.length + 1 - seen.length) seen k = stopJ (nxJ rs) (rs.length + 1) [] k0
theorem JInv.start {rs : List Rw} {k : Nat} (h : k < rs.length) : JInv rs k [] k := ⟨List.nodup_nil, fun _ z => (nomatch z), h, fun i a z => (by simp at z), rfl⟩
theorem JInv.len {rs : List Rw} {k0 k : Nat} {seen : List Nat} (I : JInv rs k0 seen k) : seen.length ≤ rs.length := nodup_len I.nd I.rng
theorem JInv.more {rs : List Rw} (R : RwOk rs) {k0 k b : Nat} {seen : List Nat} (I : JInv rs k0 seen k) (h : nxJ rs k = some b) (hk : k ∉ seen) : JInv rs k0 (seen ++ [k]) b ∧ seen.length < rs.length := by
  have nd : (seen ++ [k]).Nodup := List.nodup_append.mpr ⟨I.nd, by simp, fun x hx y hy e => by rw [List.mem_singleton.mp hy] at e; exact hk (e ▸ hx)⟩
  have rg : ∀ x ∈ seen ++ [k], x < rs.length := fun x hx => by
    rcases List.mem_append.mp hx with hx | hx
    · exact I.rng x hx
    · rw [List.mem_singleton.mp hx]; exact I.lt
  have l := nodup_len nd rg
  rw [List.length_append, List.length_singleton] at l
  refine ⟨⟨nd, rg, nx_lt R h, fun i a e => ?_, ?_⟩, by omega⟩
  · have hi := (List.getElem?_eq_some_iff.mp e).1
    rw [List.length_append, List.length_singleton] at hi
    by_cases q : i < seen.length
    · rw [List.getElem?_append_left q] at e
      rw [I.ch i a e]
      rw [List.getElem?_append_left (l₁ := seen ++ [k]) (by simp; omega)]
    · have qi : i = seen.length := by omega
      subst qi
      rw [List.getElem?_append_right (Nat.le_refl _)] at e
      simp at e
      subst e
      rw [h]
      simp
  · rw [← I.val]
    obtain ⟨f, hf⟩ : ∃ f, rs.length + 1 - seen.length = f + 1 := ⟨rs.length - seen.length, by omega⟩
    have e2 : rs.length + 1 - (seen ++ [k]).length = f := by rw [List.length_append, List.length_singleton]; omega
    rw [e2, hf]
    show _ = (match nxJ rs k with | none => k | some b => if k ∈ seen then k else stopJ (nxJ rs) f (seen ++ [k]) b)
    rw [h]
    show _ = (if k ∈ seen then k else stopJ (nxJ rs) f (seen ++ [k]) b)
    rw [if_neg hk]
theorem JInv.stop {rs : List Rw} {k0 k : Nat} {seen : List Nat} (I : JInv rs k0 seen k) (h : nxJ rs k = none ∨ k ∈ seen) : stopJ (nxJ rs) (rs.length + 1) [] k0 = k := by
  rw [← I.val]
  have := I.len
  obtain ⟨f, hf⟩ : ∃ f, rs.length + 1 - seen.length = f + 1 := ⟨rs.length - seen.length, by omega⟩
  rw [hf]
  show (match nxJ rs k with | none => k | some b => if k ∈ seen then k else stopJ (nxJ rs) f (seen ++ [k]) b) = k
  split
  · rfl
  · rename_i b e
    rcases h with h | h
    · rw [h] at e; cases e
    · rw [if_pos h]
/-- the ring: from its place in those seen on to their end -/
structure KInv (rs : List Rw) (k0 c m h i : Nat) (seen : List Nat) (j : Nat) : Prop where
  at_ : seen[j]? = some c
  le : j < i ∧ i ≤ seen.length
  here : (seen ++ [c])[i]? = some h
  val : ringJ (nxJ rs) c (rs.length + 1 - (i - j - 1)) m h = comeTo rs k0
theorem JInv.ring {rs : List Rw} {k0 k b : Nat} {seen : List Nat} (I : JInv rs k0 seen k) (hk : k ∈ seen) (h : nxJ rs k = some b) : ∃ j, KInv rs k0 k k b (j + 1) seen j := by
  obtain ⟨j, hj⟩ := List.mem_iff_getElem?.mp hk
  have e := I.ch j k hj
  rw [h] at e
  refine ⟨j, hj, ⟨by omega, (List.getElem?_eq_some_iff.mp hj).1⟩, e.symm, ?_⟩
  have e2 : j + 1 - j - 1 = 0 := by omega
  rw [e2]
  unfold comeTo
  rw [I.stop (.inr hk), h]
  rfl
theorem KInv.next {rs : List Rw} (R : RwOk rs) {k0 c m h i j : Nat} {seen : List Nat} (J : JInv rs k0 seen c) (I : KInv rs k0 c m h i seen j) (hn : h ≠ c) : i < seen.length ∧ ∃ b, nxJ rs h = some b ∧ KInv rs k0 c (min m h) b (i + 1) seen j := by
  have hi : i < seen.length := by
    by_cases q : i < seen.length
    · exact q
    · exfalso
      have qi : i = seen.length := by have := I.le.2; omega
      have := I.here
      rw [qi, List.getElem?_append_right (Nat.le_refl _)] at this
      simp at this
      exact hn this.symm
  have hh : seen[i]? = some h := by have := I.here; rwa [List.getElem?_append_left hi] at this
  have e := J.ch i h hh
  have hlt : i + 1 < (seen ++ [c]).length := by simp; omega
  rw [List.getElem?_eq_getElem hlt] at e
  refine ⟨hi, _, e, I.at_, ⟨by have := I.le.1; omega, hi⟩, List.getElem?_eq_getElem hlt, ?_⟩
  rw [← I.val]
  have l := J.len
  obtain ⟨f, hf⟩ : ∃ f, rs.length + 1 - (i - j - 1) = f + 1 := ⟨rs.length - (i - j - 1), by omega⟩
  have e2 : rs.length + 1 - (i + 1 - j - 1) = f := by have := I.le.1; omega
  rw [e2, hf]
  show _ = (if h = c then m else ringJ (nxJ rs) c f (min m h) ((nxJ rs h).getD 0))
  rw [if_neg hn, e]
  rfl
theorem KInv.stop {rs : List Rw} {k0 c m h i j : Nat} {seen : List Nat} (J : JInv rs k0 seen c) (I : KInv rs k0 c m h i seen j) (hn : h = c) : comeTo rs k0 = m := by
  rw [← I.val]
  have l := J.len
  have := I.le
  obtain ⟨f, hf⟩ : ∃ f, rs.length + 1 - (i - j - 1) = f + 1 := ⟨rs.length - (i - j - 1), by omega⟩
  rw [hf]
  show (if h = c then m else _) = m
  rw [if_pos hn]
def nodeAt (rs : List Rw) (k : Nat) : Nd := match rs[k]? with
  | some (.sum _ x a s b) => .sum x a s b (comeTo rs (k + 1))
  | some (.test _ a s b to) => .test a s b (comeTo rs ((nums rs).idxOf to)) (comeTo rs (k + 1))
  | some (.fin _) => .fin
  | _ => .spin
def rawOf (rs : List Rw) : List Nd := (List.range rs.length).map (nodeAt rs)
theorem rawOf_len (rs : List Rw) : (rawOf rs).length = rs.length := by simp [rawOf]
theorem rawOf_at {rs : List Rw} {k : Nat} (h : k < rs.length) : (rawOf rs)[k]? = some (nodeAt rs k) := by simp [rawOf, h]
theorem place_lt {rs : List Rw} {t : Nat} (h : t ∈ nums rs) : (nums rs).idxOf t < rs.length := by rw [← nums_len]; exact List.idxOf_lt_length_iff.mpr h
theorem node_ok {rs : List Rw} (R : RwOk rs) {k : Nat} (h : k < rs.length) : (nodeAt rs k).ok rs.length ∧ (nodeAt rs k).good = true := by
  obtain ⟨r, hr⟩ : ∃ r, rs[k]? = some r := ⟨_, List.getElem?_eq_getElem h⟩
  have hm := List.mem_of_getElem? hr
  have hg := R.good r hm
  unfold nodeAt
  rw [hr]
  cases r with
  | sum n x a s b =>
    refine ⟨fun g hg => ?_, by simpa [Rw.good, Nd.good] using hg⟩
    have hg : g ∈ [comeTo rs (k + 1)] := hg
    rw [List.mem_singleton.mp hg]
    exact come_lt R (R.last k _ hr rfl)
  | test n a s b to =>
    refine ⟨fun g hg => ?_, by simpa [Rw.good, Nd.good] using hg⟩
    have hg : g ∈ [comeTo rs (k + 1), comeTo rs ((nums rs).idxOf to)] := hg
    rcases List.mem_cons.mp hg with hg | hg
    · rw [hg]; exact come_lt R (R.last k _ hr rfl)
    · rw [List.mem_singleton.mp hg]
      exact come_lt R (place_lt (R.tos _ hm to (by simp [Rw.tos])))
  | jump n to => exact ⟨fun g hg => (nomatch hg), rfl⟩
  | fin n => exact ⟨fun g hg => (nomatch hg), rfl⟩
theorem raw_ok {rs : List Rw} (R : RwOk rs) : (∀ x ∈ rawOf rs, x.ok (rawOf rs).length) ∧ ∀ x ∈ rawOf rs, x.good = true := by
  rw [rawOf_len]
  refine ⟨fun x hx => ?_, fun x hx => ?_⟩ <;>
  · unfold rawOf at hx
    obtain ⟨k, hk, rfl⟩ := List.mem_map.mp hx
    first | exact (node_ok R (List.mem_range.mp hk)).1 | exact (node_ok R (List.mem_range.mp hk)).2
def strsD (nm : List Cs) : List D := nm.map D.str
theorem strs_fz (nm : List Cs) : isFzL (strsD nm) = true := by rw [isFzL_all]; simp [strsD, isFz]
theorem strs_frz (nm : List Cs) : frzL (strsD nm) = strsD nm := frzL_id (strs_fz nm)
theorem strs_len (nm : List Cs) : (strsD nm).length = nm.length := by simp [strsD]
end VL
namespace VL
open PySem PySem.Spec PyProof.Rows L2 VL
/-- where a node falls to -/
def lastG : Nd → Option Nat
  | .sum _ _ _ _ to => some to
  | .test _ _ _ _ n => some n
  | _ => none
def firstRow (f : Nat → Nat) (k : Nat) : Nd → Rw
  | .sum x a s b _ => .sum (f k) x a s b
  | .test a s b y _ => .test (f k) a s b (f y)
  | .fin => .fin (f k)
  | .spin => .jump (f k) (f k)
def blk (f : Nat → Nat) (jf : Nat → Nd → Bool) (k : Nat) (x : Nd) : List Rw := firstRow f k x :: (match lastG x with
  | some t => if jf k x then [.jump (f k + 1) (f t)] else []
  | none => [])
end VL
namespace VL
open PySem PySem.Spec PyProof.Rows L2 VL
end VL
namespace VL
open PySem PySem.Spec PyProof.Rows L2 VL
def initP : Str × Option Str := ("JumpError", some "__init__")
abbrev fiA (K : PySem.W.Frag) : Addr := He.fAd K initP
def oexB (K : PySem.W.Frag) (C : Addr) : Bool := match K.lookup C with
  | some ⟨.type ty, _, .cls cd, sl⟩ => (match cd.mro, sl.toList with
    | .ref C' :: bm, [_, _, _, _, some (.builtin n), _] => decide (ty = "type") && (decide (C' = C) && (decide (n = "ValueError.__new__") && (!cd.hasDel && (cd.hasDict && PySem.HandSPX.refsVE bm))))
    | _, _ => false)
  | _ => false
theorem oexB_ok {K : PySem.W.Frag} {C : Addr} (h : oexB K C = true) : ∃ nm q N bs bm sn sub ab col dd k0 k1 k2 k3 k5, K.lookup C = some (excClassObj nm q C N bs bm true sn sub ab col dd k0 k1 k2 k3 k5 "ValueError.__new__") ∧ PySem.HandSPX.refsVE bm = true := by
  unfold oexB at h
  split at h
  · rename_i ty dd cd sl ho
    split at h
    · rename_i C' bm k0 k1 k2 k3 n k5 hm hs
      simp only [Bool.and_eq_true, decide_eq_true_eq, Bool.not_eq_true'] at h
      obtain ⟨h0, h1, h2, h3, h4, h5⟩ := h
      subst h0 h1 h2
      obtain ⟨nm, bs, mro, ns, qn, hd, sn, sub, ab, col, de⟩ := cd
      dsimp only at hm h3 h4
      subst hm h3 h4
      obtain ⟨l⟩ := sl
      have hs : l = _ := hs
      subst hs
      exact ⟨nm, qn, ns, bs, bm, sn, sub, ab, col, dd, k0, k1, k2, k3, k5, ho, h5⟩
    · cases h
  · cases h
def oexA (K : PySem.W.Frag) (x : Str) : Bool := oexB K (He.ga K x) && (decide (PySem.W.findIn K (.ref (He.ga K x)) "__setattr__" = some (some (.builtin "object.__setattr__"))) && (decide (PySem.W.typeIn K (.ref (He.ga K x)) = some (.type "type")) &&
  (PySem.W.keepIn K (.ref (He.ga K x)) && (decide (PySem.W.findIn K (.ref (He.ga K x)) "__init__" = some (some (.ref (fiA K)))) && (decide (PySem.W.findIn K (.ref (He.ga K x)) "row" = some none) && (xfB K (He.ga K x) &&
  (decide (PySem.W.findIn K (.ref (He.ga K x)) "__class__" = some (some (.builtin "object.__class__"))) && decide (PySem.W.mroIn K (He.ga K x) (.type "object") = some true))))))))
def cfV (v : Value) : Option PySem.W.CFound → Bool
  | some (.val u) => decide (u = v)
  | _ => false
theorem cfV_ok {v : Value} {o : Option PySem.W.CFound} (h : cfV v o = true) : o = some (.val v) := by
  unfold cfV at h
  split at h
  · rw [of_decide_eq_true h]
  · cases h
def oexG (K : PySem.W.Frag) : Bool := cfV (.builtin "ValueError.__init__") (PySem.W.findCls K (.type "ValueError") (.type "type") "__init__") && (decide (PySem.W.typeIn K (.ref (fiA K)) = some (.type "function")) &&
  (decide (PySem.W.specialIn K (.builtin "object.__class__") "__get__" = some (some (.builtin "getset_descriptor.__get__"))) && decide (PySem.W.takesIn K (.builtin "object.__class__") = some true)))
structure OexW (K : PySem.W.Frag) : Prop where
  vV : PySem.W.findCls K (.type "ValueError") (.type "type") "__init__" = some (.val (.builtin "ValueError.__init__"))
  tI : PySem.W.typeIn K (.ref (fiA K)) = some (.type "function")
  hn : PySem.W.specialIn K (.builtin "object.__class__") "__get__" = some (some (.builtin "getset_descriptor.__get__"))
  ht : PySem.W.takesIn K (.builtin "object.__class__") = some true
structure Oex (K : PySem.W.Frag) (x : Str) : Prop where
  oc : OexC K (He.ga K x)
  ini : PySem.W.findIn K (.ref (He.ga K x)) "__init__" = some (some (.ref (fiA K)))
  row : PySem.W.findIn K (.ref (He.ga K x)) "row" = some none
  xf : XfC K (He.ga K x)
  ec : ExcC K (He.ga K x)
theorem oexG_ok {K : PySem.W.Frag} (h : oexG K = true) : OexW K := by
  obtain ⟨h1, h⟩ := Bool.and_eq_true_iff.mp h
  obtain ⟨h2, h⟩ := Bool.and_eq_true_iff.mp h
  obtain ⟨h3, h4⟩ := Bool.and_eq_true_iff.mp h
  exact ⟨cfV_ok h1, of_decide_eq_true h2, of_decide_eq_true h3, of_decide_eq_true h4⟩
theorem oex_ok {K : PySem.W.Frag} {x : Str} (g : OexW K) (h : oexA K x = true) : Oex K x := by
  obtain ⟨h1, h⟩ := Bool.and_eq_true_iff.mp h
  obtain ⟨h2, h⟩ := Bool.and_eq_true_iff.mp h
  obtain ⟨h3, h⟩ := Bool.and_eq_true_iff.mp h
  obtain ⟨h4, h⟩ := Bool.and_eq_true_iff.mp h
  obtain ⟨h5, h⟩ := Bool.and_eq_true_iff.mp h
  obtain ⟨h6, h⟩ := Bool.and_eq_true_iff.mp h
  obtain ⟨h7, h⟩ := Bool.and_eq_true_iff.mp h
  obtain ⟨h8, h9⟩ := Bool.and_eq_true_iff.mp h
  have xf := xfB_ok h7
  exact ⟨⟨oexB_ok h1, of_decide_eq_true h2, xf.exC, of_decide_eq_true h3, h4⟩, of_decide_eq_true h5, of_decide_eq_true h6, xf, ⟨xf.ga, xf.gg, xf.exC, xf.hdC, of_decide_eq_true h8, g.hn, g.ht, of_decide_eq_true h9⟩⟩
/-- __init__(self, row), walked -/
def spI (K : PySem.W.Frag) : Sp := fun vs H Q _ => ∃ (a C : Addr) (r : V), vs = [.ref a, r] ∧ H a = some (exo a C none) ∧ OexC K C ∧ PySem.W.findIn K (.ref C) "row" = some none ∧
  ∀ dx, H dx = none → dx ≠ a → Q .non (upd (upd H dx (exd dx [("row", r)])) a (exo a C (some dx)))
end VL
namespace VL
open PySem PySem.Spec PyProof.Rows L2 VL
def tIni (K : PySem.W.Frag) : TS := tSeq (tDrop (tVeI K (tCons (tVar 0) (tCons (tC (.str "refused")) tNil)))) (tOst K "row" (tVar 0) (tVar 1))
theorem init_ok {P : Program} {w : World} {K : PySem.W.Frag} {mg : Str → Option Value} {base : Heap} {params : Arguments} {body : List Stmt} {scope : Scope} {dvs : List V} {f : Addr} {fd : FuncData} {k : Nat}
    (F : FunD K "__init__" "JumpError.__init__" params body scope dvs [] f fd) (S : FnScope ["self", "row"] ["self", "row"] scope)
    (hb : ∀ (cdv : Value) (A : Around) (outer : List Env) (s : Shared) (H : Hp) (E : XK), PSs (cxOf (VL.CX P w) P w K mg base ["self", "row"] "JumpError.__init__" scope f cdv A outer s H E) body (tIni K)) :
    FnOk P w K mg base (VL.CX P w) (k + 1) f fd ["self", "row"] (spI K) := by
  refine fnD_ok F S (fun ⟨a, C, r, h, _⟩ => by rw [h]; rfl) fun cdv A outer s H vs Q E hr h => ⟨_, hb cdv A outer s H E, ?_⟩
  obtain ⟨a, C, r, rfl, e, oc, ro, q⟩ := h
  refine ⟨_, rfl, a, C, _, rfl, by simp, oc, e, ?_⟩
  exact ⟨r, rfl, .ref a, rfl, a, C, rfl, oc, ro, .inl ⟨e, q⟩⟩
section
variable {X : Cx} {p pos : Pos}
/-- what C() leaves -/
def tMk0 (C : Addr) (sp : Sp) (dvs : List V) : L2.St → Hp → XK → Prop := fun _ H1 Q => ∀ a, H1 a = none → sp (.ref a :: dvs) (upd H1 a (exo a C none))
  (fun v H2 => v = .non ∧ ∃ (d : Addr) (fs : List (Str × V)), H2 a = some (exo a C (some d)) ∧ H2 d = some (exd d fs) ∧ H1 d = none ∧ Q (.ref C) (some d) (upd (del H2 a) d (.xd fs))) (fun _ _ _ => False)
theorem pmk_oex0 {CX : CXT} {x : Str} {C fI : Addr} {k : Nat} {fd : FuncData} {ps : List Str} {sp : Sp} {ds : List Value} {dvs : List V} (T : OexC X.K C) (iC : PySem.W.findIn X.K (.ref C) "__init__" = some (some (.ref fI))) (tI : PySem.W.typeIn X.K (.ref fI) = some (.type "function"))
    (F1 : FnOk X.prog X.w X.K X.mg X.base CX k fI fd ps sp) (hr : Room (k + 1) X.A) (hb : Binds X.K fd ps ds) (hd : Vals dvs ds) (hx : Passes CX X (fun _ _ _ => False)) (hg : Gl X x) (hm : X.mg x = some (.ref C))
    (hdb : (x == ("__debug__" : Str)) = false := by decide) :
    PMk X (.Call (.Name x p) [] [] pos) (tMk0 C sp dvs) := by
  intro pins s σ H Q I h
  obtain ⟨nm, q, N, bs, bm, sn, sub, ab, col, dd, k0, k1, k2, k3, k5, hC, hbm⟩ := T.cls
  refine wpAny_Call_Name_kw (ld_glob I hg hm ?_ hdb)
  refine PySem.W.callWith_K0 I.kIn T.kC ?_
  show wpAny _ _ (call (.ref C) ([] : List Value)) _ _ _
  obtain ⟨hp, g, dr, tk, os⟩ := s
  have lt : hp.objs.size ≤ hp.objs.size + 1 := Nat.le_succ _
  have fr : H (hp.objs.size + 1) = none := I.hok.fresh lt
  have q0 := h (hp.objs.size + 1) fr
  have up : ∀ b o, hp.get? b = some o → ((hp.push (PySem.W.kdv_tup [])).push (PySem.HandSPX.excO C hp.objs.size)).get? b = some o := fun b o e => Heap.get?_push_of_some _ (Heap.get?_push_of_some _ e)
  have at2 : ((hp.push (PySem.W.kdv_tup [])).push (PySem.HandSPX.excO C hp.objs.size)).get? (hp.objs.size + 1) = some (PySem.HandSPX.excO C hp.objs.size) := by heap_get
  have I2 : Inv X pins σ (upd H (hp.objs.size + 1) (exo (hp.objs.size + 1) C none)) ⟨(hp.push (PySem.W.kdv_tup [])).push (PySem.HandSPX.excO C hp.objs.size), g, dr, tk, os⟩ :=
    I.laid (t' := tk) (a := hp.objs.size + 1) (o := exo (hp.objs.size + 1) C none) (h' := (hp.push (PySem.W.kdv_tup [])).push (PySem.HandSPX.excO C hp.objs.size)) up lt (exo_ok at2)
  have rv : Vals (V.ref (hp.objs.size + 1) :: dvs) (Value.ref (hp.objs.size + 1) :: ds) := .cons rfl hd
  have ln : ([Value.ref (hp.objs.size + 1)] ++ ds).length = ps.length := by
    have e := rv.length
    rw [F1.len q0] at e
    exact e.symm
  refine wpAny_call (PySem.HandSPX.call_own F.excBase_ValueError (fun Y => PySem.HandSPX.refsVE_contains Y bm hbm) (I.kIn _ _ hC) (PySem.W.looks_findIn I.kIn iC) (fun self => PySem.W.bind_fn I.kIn self tI) (rest := []) (Nat.zero_le _)
    (codeAny_mono (F1.keeps (hr.make C [] []) X.stack _ _ ⟨[Value.ref (hp.objs.size + 1)], []⟩ (Value.ref (hp.objs.size + 1) :: ds) _ _ (fun _ _ _ => False) (I2.env0.make C [] []) (hb _ [Value.ref (hp.objs.size + 1)] I2.kIn ln) rv q0) fun r s' hq' => ?_))
  cases r with
  | error er => exact hx pins σ _ _ er s' I2 hq'
  | ok fl =>
    cases fl with
    | ret u =>
      obtain ⟨v, H2, os2, bare2, un2, hok2, ru, ev, d, fs, ea, ed, hd1, q2⟩ := hq'
      subst ev
      obtain ⟨h2, g2, d2, t2, os'⟩ := s'
      obtain ⟨t0, G, J, kG, ge, hoe, na⟩ := mk_end0 (d2 := d2) (t2 := t2) I lt up un2 hok2 os2 bare2 ea ed hd1
      exact ⟨ru, _, _, _, ⟨G, g2, d2, t2, os'⟩, _, .ref C, some d, rfl, J, kG, ge, hoe, ⟨rfl, rfl, fun vs e => by cases e; rfl⟩, rfl, rfl, na, rfl, bare2, raises_own T.exC T.tyC, q2⟩
    | next => exact False.elim hq'
    | brk => exact False.elim hq'
    | cont => exact False.elim hq'
end
/-- the base's __init__, as every class of the law's calls it -/
structure ExFn (P : Program) (w : World) (K : PySem.W.Frag) (mg : Str → Option Value) (base : Heap) (k : Nat) : Prop where
  ex : ∃ fd ds, Vals [.non] ds ∧ Binds K fd ["self", "row"] ds ∧ FnOk P w K mg base (VL.CX P w) k (fiA K) fd ["self", "row"] (spI K)
theorem ExFn.mono {P w K mg base j k} (F : ExFn P w K mg base j) (h : j ≤ k) : ExFn P w K mg base k := let ⟨fd, ds, a, b, c⟩ := F.ex; ⟨fd, ds, a, b, c.mono h⟩
theorem no_pass {X : Cx} : Passes (VL.CX X.prog X.w) X (fun _ _ _ => False) := fun _ _ _ _ _ _ _ h => by
  obtain ⟨_, _, _, _, _, _, _, _, _, _, _, _, z⟩ := h
  exact z.elim
section
variable {X : Cv}
def vRaise (s : String) : VTS := fun N ε => N.rx (.type s) .non ε
theorem vs_raise {s : String} {x : Str} {k : Nat} {p pos pos' : Pos} (hx : Str.ofString s = x) (E : ExFn X.prog X.w X.K X.mg X.base k) (W : OexW X.K) (O : Oex X.K x) (hc : X.calm = true) (hr : Room (k + 1) X.A) (hg : Gl X.toCx x) (hm : X.mg x = some (.ref (He.ga X.K x)))
    (hdb : (x == ("__debug__" : Str)) = false := by decide) : VS X (.Raise (some (.Call (.Name x p) [] [] pos)) none pos') (vRaise s) := by
  subst hx
  obtain ⟨fd, ds, hd, hb, F⟩ := E.ex
  refine ⟨fun W' => fun _ σ H => tMk0 (He.ga X.K (Str.ofString s)) (spI X.K) [.non] σ H fun cls d H' => W' cls d σ H', fun W' tk => L2N.ps_raise hc tk (pmk_oex0 O.oc O.ini W.tI F hr hb hd no_pass hg hm hdb), fun b σ H ε T Tv W' N E' I q _ x => ?_⟩
  intro a na
  refine ⟨a, He.ga X.K (Str.ofString s), .non, rfl, upd_same, O.oc, O.row, fun dx nd ne => ⟨rfl, dx, [("row", .non)], upd_same, ?_, ?_, ?_⟩⟩
  · rw [upd_ne ne, upd_same]
  · rw [upd_ne ne] at nd
    exact nd
  · rw [upd_ne ne] at nd
    have e : upd (del (upd (upd (upd H a (exo a (He.ga X.K (Str.ofString s)) none)) dx (exd dx [("row", V.non)])) a (exo a (He.ga X.K (Str.ofString s)) (some dx))) a) dx (.xd [("row", V.non)]) = upd H dx (.xd [("row", .non)]) := by
      funext b
      by_cases h1 : b = dx
      · subst h1
        rw [upd_same, upd_same]
      · rw [upd_ne h1, upd_ne h1]
        by_cases h2 : b = a
        · subst h2
          rw [del_same, na]
        · rw [del_ne h2, upd_ne h2, upd_ne h1, upd_ne h2]
    rw [e]
    obtain ⟨G, Fs, Ft, J⟩ := id I
    have h0 := J.h0 nd
    have sb : Sub H (upd H dx (.xd [("row", .non)])) := Sub.refl.upd nd
    have I2 := (I.grow sb).push (d := .non) (v := .non) fun _ => ⟨rfl, rfl⟩
    exact x (.type s) dx σ _ ε .non .non I2 upd_same h0 q
end
end VL
namespace VL
open PySem PySem.Spec PyProof.Rows L2 VL
section
variable {K : PySem.W.Frag} {b : Bs} {σ : L2.St} {H : Hp} {ε : Ep} {T : List D} {Tv : List V}
/-- the caught exception goes to a slot -/
theorem SI.exn {row : D} {v : V} {a dd : Addr} {cls : Value} {i : Nat} (I : SI K b σ H ε (T ++ [row]) (Tv ++ [v])) (hl : T.length = Tv.length) (e : H dd = some (.xd [("row", v)])) (fr : dd ∈ b.F0 ∨ b.H0 dd = none) (na : H a = none) (fz : isFz row = true)
    (hi : i < ε.length) (hk : ∀ u, b.kv[i]? ≠ some (some u)) : SI K b (σ.set i (some (.ref a))) (L2.upd H a (exk (clsV K cls) dd a)) (ε.set i (some (.exn a dd cls row))) T Tv := by
  have had : dd ≠ a := fun z => by rw [z, na] at e; cases e
  have hsub : Sub H (L2.upd H a (exk (clsV K cls) dd a)) := Sub.laid na
  obtain ⟨G, F, Ft, J0⟩ := I
  have nF := J0.ne na
  have nG := J0.gne na
  have aF := J0.h0 na
  have J := J0.grow hsub
  have e' : L2.upd H a (exk (clsV K cls) dd a) dd = some (.xd [("row", v)]) := hsub _ _ e
  clear J0 hsub
  generalize hH : L2.upd H a (exk (clsV K cls) dd a) = H' at J e' ⊢
  have ea : H' a = some (exk (clsV K cls) dd a) := by rw [← hH, upd_same]
  clear hH e
  obtain ⟨F1, F2, rfl, r1, r2⟩ := J.temps.split2 hl
  have r2 := RpL.one.mp r2
  have e2 := r2.fz fz
  subst e2
  have nd : dd ∉ F ++ F1 := fun z => by
    have z2 : ∃ o, H' dd = some o ∧ Mut (some o) := by
      rcases List.mem_append.mp z with z | z
      · exact J.slots.there dd z
      · exact r1.there dd z
    obtain ⟨o, eo, m⟩ := z2
    rw [e'] at eo
    cases eo
    exact m
  have sg1 : Sub G (L2.upd G dd (.xd [("row", v)])) := fun p o ep => by
    by_cases h : p = dd
    · subst h
      rw [upd_same, ← J.sub _ _ ep, e']
    · rw [upd_ne h]; exact ep
  have n1 : L2.upd G dd (.xd [("row", v)]) a = none := by rw [upd_ne had.symm]; exact nG
  have sg : Sub G (L2.upd (L2.upd G dd (.xd [("row", v)])) a (exk (clsV K cls) dd a)) := sg1.trans (Sub.laid n1)
  have nf : ∀ a ∈ F ++ F1, G a = none := fun a z => J.fr a (by simpa using z)
  refine SI.store (d := .exn a dd cls row) (v := .ref a) ⟨L2.upd (L2.upd G dd (.xd [("row", v)])) a (exk (clsV K cls) dd a), F, F1, J.s0.trans sg, fun p o ep => ?_, J.slots.mono sg fun _ _ => rfl, ?_, by simpa using J.nd, fun p z => ?_, fun p z => J.own p (by simpa using z), fun p o ea => ?_, J.keep, J.kept⟩ hl hi hk
  · by_cases h2 : p = a
    · subst h2
      rw [upd_same] at ep
      rw [ea, ep]
    · rw [upd_ne h2] at ep
      by_cases h : p = dd
      · subst h
        rw [upd_same] at ep
        rw [e', ep]
      · rw [upd_ne h] at ep; exact J.sub _ _ ep
  · have q := (r1.mono sg fun _ _ => rfl).append (RpL.one.mpr (show Rp K (L2.upd (L2.upd G dd (.xd [("row", v)])) a (exk (clsV K cls) dd a)) H' (.exn a dd cls row) (.ref a) [] from ⟨⟨rfl, upd_same⟩, v, by rw [upd_ne had]; exact upd_same, r2.mono sg fun _ _ => rfl⟩))
    rw [List.append_nil] at q
    exact q
  · have h1 : p ≠ dd := fun h => nd (h ▸ z)
    have h2 : p ≠ a := fun h => nF (by rw [← h]; simpa using z)
    rw [upd_ne h2, upd_ne h1]
    exact nf p z
  · by_cases h2 : p = a
    · subst h2
      exact .inr (inl3 aF)
    · rw [upd_ne h2] at ea
      by_cases h : p = dd
      · subst h
        exact .inr (inl3 fr)
      · rw [upd_ne h] at ea
        exact J.gn p o ea
end
/-- tab: of which classes, and whether they are caught -/
abbrev XTab := String → Option Bool
end VL
namespace VL
open PySem PySem.Spec PyProof.Rows L2 VL
end VL
namespace VL
open PySem PySem.Spec PyProof.Rows L2 VL
inductive XC where
  | own (s : String)
  | ty (s : String)
def XC.val (K : PySem.W.Frag) : XC → Value
  | .own s => .ref (He.ga K (Str.ofString s))
  | .ty s => .type s
def exOk (RL : List String) (ct : List (XC × XTab)) (kt : List (XC × (String → Bool))) (K : PySem.W.Frag) : Bool :=
  oexG K && ((RL.all fun s => oexA K (Str.ofString s)) && ((ct.all fun p => RL.all fun s => match p.2 s with | some d => decide (PySem.W.exmOne K (.ref (He.ga K (Str.ofString s))) (p.1.val K) = some d) | none => true) &&
    (kt.all fun p => RL.all fun s => decide (PySem.W.kitOne K (.ref (He.ga K (Str.ofString s))) (p.1.val K) = some (p.2 s)))))
section
variable {RL : List String} {ct : List (XC × XTab)} {kt : List (XC × (String → Bool))} {K : PySem.W.Frag}
theorem exOk_g (h : exOk RL ct kt K = true) : OexW K := oexG_ok (Bool.and_eq_true_iff.mp h).1
theorem exOk_o (h : exOk RL ct kt K = true) (s : String) (hs : s ∈ RL) : Oex K (Str.ofString s) :=
  oex_ok (exOk_g h) (List.all_eq_true.mp (Bool.and_eq_true_iff.mp (Bool.and_eq_true_iff.mp h).2).1 s hs)
end
/-- a function that may refuse -/
def Osp {α : Type} (args : α → List D) (pre : α → Prop) (f : α → Option D) (cl : String) : VSp := fun ds Q E => ∃ a, ds = args a ∧ pre a ∧ match f a with
  | some r => Q r (args a)
  | none => E (.type cl) .non (args a)
theorem Osp.mono {α : Type} {args : α → List D} {pre : α → Prop} {f : α → Option D} {cl : String} : Mono (Osp args pre f cl) := fun ds A A' B B' hA hB ⟨a, e, p, q⟩ => ⟨a, e, p, by
  cases h : f a with
  | some r => rw [h] at q; exact hA _ _ q
  | none => rw [h] at q; exact hB _ _ _ q⟩
/-- the base's __init__ -/
theorem ini_fn {P : Program} {w : World} {K : PySem.W.Frag} {mg : Str → Option Value} {base : Heap} {params : Arguments} {body : List Stmt} {scope : Scope} {k : Nat} (hF : ∃ fd, FunD K "__init__" "JumpError.__init__" params body scope [.non] [] (fiA K) fd) (S : FnScope ["self", "row"] ["self", "row"] scope)
    (hbd : ∀ {f fd}, FunD K "__init__" "JumpError.__init__" params body scope [.non] [] f fd → ∃ ds, Vals [.non] ds ∧ Binds K fd ["self", "row"] ds)
    (hb : ∀ (cdv : Value) (A : Around) (outer : List Env) (s : Shared) (H : Hp) (E : XK), PSs (cxOf (VL.CX P w) P w K mg base ["self", "row"] "JumpError.__init__" scope (fiA K) cdv A outer s H E) body (tIni K)) : ExFn P w K mg base (k + 1) := by
  obtain ⟨fd, F⟩ := hF
  obtain ⟨ds, h1, h2⟩ := hbd F
  exact ⟨fd, ds, h1, h2, init_ok F S hb⟩
end VL
namespace VL
open PySem PySem.Spec PyProof.Rows L2 VL
theorem fzip_none : ∀ {fs : List Cs} {vs : List V} {f : Cs}, fdIx fs f = none → (fzip fs vs).lookup (toS f) = none
  | [], vs, f, _ => rfl
  | g :: fs, [], f, _ => rfl
  | g :: fs, w :: vs, f, h => by
    unfold fdIx at h
    rw [List.idxOf?_cons] at h
    show ((toS g, w) :: fzip fs vs).lookup (toS f) = none
    by_cases e : g = f
    · subst e
      simp at h
    · have e1 : (g == f) = false := by simpa using e
      rw [e1] at h
      have h2 : fdIx fs f = none := by simpa [fdIx] using h
      have e2 : (toS f == toS g) = false := by
        rw [beq_eq_false_iff_ne]
        intro z
        exact e (toS_inj z.symm)
      simp only [List.lookup, e2]
      exact fzip_none h2
theorem fzip_put : ∀ {fs : List Cs} {vs : List V} {f : Cs} {y : V}, fdIx fs f = none → fs.length = vs.length → putF (toS f) y (fzip fs vs) = fzip (fs ++ [f]) (vs ++ [y])
  | [], [], f, y, _, _ => rfl
  | [], _ :: _, _, _, _, h => by cases h
  | _ :: _, [], _, _, _, h => by cases h
  | g :: fs, w :: vs, f, y, h, hl => by
    unfold fdIx at h
    rw [List.idxOf?_cons] at h
    by_cases e : g = f
    · subst e
      simp at h
    · have e1 : (g == f) = false := by simpa using e
      rw [e1] at h
      have h2 : fdIx fs f = none := by simpa [fdIx] using h
      have e2 : ¬ toS g = toS f := fun z => e (toS_inj z)
      show putF (toS f) y ((toS g, w) :: fzip fs vs) = (toS g, w) :: fzip (fs ++ [f]) (vs ++ [y])
      unfold putF
      rw [if_neg e2, fzip_put h2 (Nat.succ.inj hl)]
section
variable {K : PySem.W.Frag} {b : Bs} {σ : L2.St} {H : Hp} {ε : Ep} {T : List D} {Tv : List V}
/-- a held thing becomes a field of an instance in a slot -/
theorem SI.fldNew {d : D} {v : V} (I : SI K b σ H ε (T ++ [d]) (Tv ++ [v])) (hl : T.length = Tv.length) {i C : Nat} {fs : List Cs} {ds : List D} {f : Cs} (e : ε[i]? = some (some (.ins true C fs ds))) (hf : fdIx fs f = none) :
    ∃ a dx vs, σ[i]? = some (some (.ref a)) ∧ H a = some (.ins (cA K C) dx (fzip fs vs)) ∧ fs.length = vs.length ∧ SI K b σ (upd H a (.ins (cA K C) dx (fzip (fs ++ [f]) (vs ++ [v])))) (ε.set i (some (.ins true C (fs ++ [f]) (ds ++ [d])))) T Tv := by
  obtain ⟨v0, v', G, B, FR, hs, at', su, r, rr, nd, fr, back⟩ := I.focus hl e (getP_nil ..)
  have e0 : v' = v0 := by cases at'; rfl
  subst e0
  obtain ⟨a, dx, vs, F', rfl, ha, rfl, hd, rl⟩ := r
  have hv := rl.len
  refine ⟨a, dx, vs, hs, ha, hd.trans hv, ?_⟩
  have nd0 : a ∉ F' ++ FR := (List.nodup_cons.mp (by simpa using nd)).1
  have keep : ∀ c, c ≠ a → upd H a (.ins (cA K C) dx (fzip (fs ++ [f]) (vs ++ [v]))) c = H c := fun c h => upd_ne h
  have J := back (upd H a (.ins (cA K C) dx (fzip (fs ++ [f]) (vs ++ [v])))) (.ins true C (fs ++ [f]) (ds ++ [d])) (a :: (F' ++ FR)) .non .non [] (fun c hc => keep c fun z => hc (by rw [z]; exact List.mem_cons_self)) ?_ ⟨rfl, rfl⟩ (.inl (by simp)) ⟨[], by simp⟩
  · exact (J.pop hl)
  · refine ⟨a, dx, vs ++ [v], F' ++ FR, rfl, upd_same, rfl, by simp [hd], ?_⟩
    refine (rl.mono Sub.refl fun c hc => keep c fun z => nd0 (by rw [← z]; exact List.mem_append_left _ hc)).append (rr.mono Sub.refl fun c hc => keep c fun z => nd0 (by rw [← z]; exact List.mem_append_right _ hc))
end
section
variable {X : Cv}
def vFld (i C : Nat) (f : Cs) (t : VTE) : VTS := fun N ε => t N.rx ε fun d ε1 => ∃ fs ds, ε1[i]? = some (some (.ins true C fs ds)) ∧ fdIx fs f = none ∧ fs.length < 1000 ∧ N.nx (ε1.set i (some (.ins true C (fs ++ [f]) (ds ++ [d]))))
theorem vs_fld {i C : Nat} {n x : Str} {f : Cs} {e : Expr} {t : VTE} {p1 p2 pos : Pos} (h : VE X e t) (hN : X.N[i]? = some n) (hv : Vis X.env.scope n) (cl : Cls X.K (cA X.K C)) (na : NoAttr X.K (cA X.K C) x) (hx : x = toS f)
    (hd : (n == ("__debug__" : Str)) = false := by decide) (hcd : (n == ("__classdict__" : Str)) = false := by decide) (hs : swapsWith e (some (.Attribute (.Name n p1) x p2)) pos.line X.env = pure false := by rfl) : VS X (.Assign [.Attribute (.Name n p1) x p2] e pos) (vFld i C f t) := by
  subst hx
  obtain ⟨t', a1, a2⟩ := h.ex
  refine ⟨fun W => sFld X.K (tVar i) (t' W) (toS f), fun W tk => ps_fld (pe_var hN hv hd hcd) (a1 W tk) hs, fun b σ H ε T Tv W N E I q l x => ?_⟩
  refine a2 b σ H ε T Tv W N.rx _ _ I q (fun d v ε1 H1 J z => ?_) x
  obtain ⟨fs, ds, e1, hf, hl, z⟩ := z
  obtain ⟨a, dx, vs, hs, ha, hlen, J2⟩ := J.fldNew I.lenT e1 hf
  refine ⟨_, hs, a, cA X.K C, dx, _, rfl, ha, cl, na, ?_, ?_⟩
  · unfold fzip
    rw [List.length_zip, List.length_map]
    omega
  · rw [fzip_put hf hlen]
    exact l.nx σ _ _ J2 z
end
/-- a method that keeps a promise over trees -/
structure Mv (P : Program) (w : World) (K : PySem.W.Frag) (mg : Str → Option Value) (base : Heap) (C : Nat) (m : Str) (k n : Nat) (vsp : VSp) : Prop where
  ex : ∃ f fd ps, Meth K (cA K C) m f ∧ Binds K fd ps [] ∧ FnOk P w K mg base (VL.CX P w) k f fd ps (Lift K n vsp)
theorem Mv.mono {P w K mg base C m j k n vsp} (F : Mv P w K mg base C m j n vsp) (h : j ≤ k) : Mv P w K mg base C m k n vsp := let ⟨f, fd, ps, a, b, d⟩ := F.ex; ⟨f, fd, ps, a, b, d.mono h⟩
section
variable {X : Cx} {k : Nat} {f C : Addr} {fd : FuncData} {ps : List Str} {sp : Sp} {E : L2.St → XK} {m : Str} {pos apos : Pos} {e o : Expr} {es : List Expr} {ta : TE} {t : TA}
theorem pe_methX0 {pl : Sem Bool} (he : PE X o ta) (c : Cls X.K C) (hm : Meth X.K C m f) (F : FnOk X.prog X.w X.K X.mg X.base (VL.CX X.prog X.w) k f fd ps sp) (hr : Room k X.A) (hb : Binds X.K fd ps []) (hx : ∀ σ, PassesAt (VL.CX X.prog X.w) X σ (E σ))
    (h3 : eval (.Call (.Attribute o m apos) [] [] pos) X.env = (do
      let w ← eval o X.env
      standAt apos.atName
      let (g, r) ← holding [w] (getMethod w m pl)
      callWith pos g r (backTo pos (starEach [] X.env)) (backToKw pos (keywordEach [] X.env))) := by rfl) :
    PE X (.Call (.Attribute o m apos) [] [] pos) (L2H.tMethH C m sp E ta tNil) := by
  refine ⟨fun pins s σ H Q I h => ?_⟩
  refine PySem.W.methodCall_KW (pl := pl) (thn (he.run pins s σ H _ I h) fun z s1 ⟨y, H1, I1, ry, a, dx, gs, ey, ea, l, q⟩ => ?_) h3
  subst ey
  obtain rfl : z = Value.ref a := ry
  refine getmeth_ok I1 ea c hm l ?_
  exact PySem.W.callWith_K0 (first := [.ref a]) I1.kIn hm.kp (run_fnSD (us := [.ref a]) (vs := [.ref a]) (dvs := []) F hr hb .nil (hx σ) I1 (.cons rfl .nil) q)
end
section
variable {X : Cv}
def vNew (C : Nat) (vsp : VSp) (rs : List (Option Nat)) (t : VTA) : VTE := fun N ε Q => t N ε fun ds ε1 => vsp (.ins true C [] [] :: ds) (fun r ds' => r = .non ∧ ∃ o rest, ds' = o :: rest ∧ rest.length = ds.length ∧ Q o (restore rs rest ε1)) (fun _ _ _ => False)
theorem ve_new {C k n : Nat} {x : Str} {f : Addr} {fd : FuncData} {ps : List Str} {p pos : Pos} {e : Expr} {es : List Expr} {rs : List (Option Nat)} {t : VTA} {vsp : VSp} (M : L2.Mk X.K (cA X.K C) f) (hb : Binds X.K fd ps []) (F : FnOk X.prog X.w X.K X.mg X.base (VL.CX X.prog X.w) k f fd ps (Lift X.K n vsp)) (mo : Mono vsp)
    (hr : Room (k + 1) X.A) (hg : Gl X.toCx x) (hm : X.mg x = some (.ref (cA X.K C))) (hn : (e :: es).length + 1 = n) (ha : VA X (e :: es) rs t) (hrs : rs.length = (e :: es).length := by rfl)
    (hdb : (x == ("__debug__" : Str)) = false := by decide) (he : starEach (e :: es) X.env = (false, eval e X.env) :: starEach es X.env := by rfl) (hpl : (backTo pos (starEach es X.env)).any (·.1) = false := by rfl) :
    VE X (.Call (.Name x p) (e :: es) [] pos) (vNew C vsp rs t) := by
  obtain ⟨u', k1, k2⟩ := ha.ex
  refine ⟨fun W => tMake (cA X.K C) (Lift X.K n vsp) [] (fun _ _ _ => False) (u' W), fun W tk => pe_make M F hr hg hm hb .nil (fun _ _ _ _ _ _ _ h => by obtain ⟨_, _, _, _, _, _, _, _, _, _, _, _, z⟩ := h; exact z.elim) (k1 W tk) hdb he hpl, fun b σ H ε T Tv W N Q Q' I q kk xl => ?_⟩
  refine k2 b σ H ε T Tv W N _ _ I q (fun ds vs ε1 H1 J l hh z => ?_) xl
  intro y dx ny nd ne
  have Hy : (upd H1 dx (.own y)) y = none := by rw [upd_ne (Ne.symm ne)]; exact ny
  have J1 := J.grow (Sub.laid (o := .own y) nd)
  have J2 := SI.laid (T := T ++ ds) (Tv := Tv ++ vs) (ds := []) (vs := []) (d := .ins true C [] []) (by simpa using J1) J.lenT Hy (.ins (cA X.K C) dx []) fun G H' F e r => ⟨y, dx, [], F, rfl, e, rfl, rfl, r⟩
  have J3 := SI.swap (A := ds) (B := [.ins true C [] []]) (C := []) (Av := vs) (Bv := [.ref y]) (Cv := []) (by simpa only [List.append_assoc, List.append_nil] using J2) I.lenT l rfl
  have J4 : SI X.K b.1 σ (upd (upd H1 dx (.own y)) y (.ins (cA X.K C) dx [])) ε1 (T ++ (.ins true C [] [] :: ds)) (Tv ++ (.ref y :: vs)) := by simpa using J3
  obtain ⟨G, F', K0, out, fr⟩ := J4.enter I.lenT
  have hlen : (D.ins true C [] [] :: ds).length = n := by rw [← hn, ← hrs, hh.len, ← l]; rfl
  refine ⟨G, F', .ins true C [] [] :: ds, by simpa using K0, hlen, mo _ _ _ _ _ (fun r ds' z2 v H' I' => ?_) (fun _ _ _ z2 => z2.elim) z⟩
  obtain ⟨rfl, o, rest, rfl, hl2, z2⟩ := z2
  have I2 := out H' _ _ (by simpa using I')
  have hl3 : rest.length = vs.length := hl2.trans l
  have hT : (T ++ (o :: rest)).length = (Tv ++ (V.ref y :: vs)).length := by simp [I.lenT, hl3]
  have I3 : SI X.K b.1 σ H' ε1 ((T ++ (o :: rest)) ++ [.non]) ((Tv ++ (V.ref y :: vs)) ++ [v]) := by simpa using I2
  obtain ⟨_, _, _, ⟨rv, _⟩⟩ := I3.last hT
  refine ⟨rv, ?_⟩
  have I4 := I3.pop hT
  have I5 := SI.swap (A := [o]) (B := rest) (C := []) (Av := [.ref y]) (Bv := vs) (Cv := []) (by simpa using I4) I.lenT rfl hl3
  have I6 := SI.restore I.lenT hh hl3 (by simpa using I5)
  exact kk o (.ref y) _ H' I6 z2
end
end VL
namespace VL
open PySem PySem.Spec PyProof.Rows L2 VL
end VL
namespace VL
open PySem PySem.Spec PyProof.Rows L2 VL
section
variable {X : Cv} {i C : Nat} {n x : Str} {f : Cs} {p p1 p2 pos : Pos}
/-- a view's field -/
def wFld (C : Nat) (f : Cs) (t : VTV) : VTV := fun ε Q => t ε fun d => ∃ fs ds j y, d = .ins false C fs ds ∧ fdIx fs f = some j ∧ ds[j]? = some y ∧ Q y
theorem wv_fld {e : Expr} {t : VTV} (h : VV X e t) (cl : Cls X.K (cA X.K C)) (na : NoAttr X.K (cA X.K C) x) (hx : x = toS f) (hb : attributeBase e x X.env (eval e X.env) = eval e X.env := by rfl) : VV X (.Attribute e x pos) (wFld C f t) := by
  subst hx
  obtain ⟨t', h1, h2⟩ := h.ex
  refine ⟨fun W => tFld X.K (t' W) (toS f), fun W tk => pe_fld (h1 W tk) hb, fun b σ H ε T Tv W Q Q' I q k => ?_⟩
  refine h2 b σ H ε T Tv W _ _ I q fun d v H1 s1 r1 z => ?_
  obtain ⟨fs, ds, j, y, rfl, hf, hj, z⟩ := z
  obtain ⟨a, dx, vs, rfl, ha, _, hl, rl⟩ := r1
  obtain ⟨w, hw, rw2⟩ := rl.get hj
  exact ⟨a, cA X.K C, dx, _, w, rfl, ha, cl, na, fzip_look hf hw (hl.trans rl.len), k y w H1 s1 rw2 z⟩
end
end VL
namespace VL
open PySem PySem.Spec PyProof.Rows L2 VL
structure Mh (P : Program) (w : World) (K : PySem.W.Frag) (mg : Str → Option Value) (base : Heap) (C : Nat) (m : Str) (k n : Nat) (vsp : VSp) : Prop where
  ex : ∃ f fd ps, Meth K (cA K C) m f ∧ Binds K fd ps [] ∧ L2H.FnH P w K mg base (VL.CX P w) k f fd ps (Lift K n vsp)
section
variable {P : Program} {w : World} {K : PySem.W.Frag} {mg : Str → Option Value} {base : Heap} {x qual : Str} {params : Arguments} {body : List Stmt} {scope : Scope} {dvs : List V} {kws : List (Str × V)} {f : Addr} {fd : FuncData}
abbrev bodyH (P : Program) (w : World) (K : PySem.W.Frag) (mg : Str → Option Value) (base : Heap) (N : List Str) (κ : List Bool) (qual : Str) (scope : Scope) (f : Addr) (cdv : Value) (A : Around) (outer : List Env) (s : Shared) (H : Hp) (E : XK) (p : Addr × Obj) : Cv :=
  { L2H.cxH (VL.CX P w) P w K mg base N qual scope f cdv A outer s H E p with κ := κ }
theorem fn_okH {N ps : List Str} {κ : List Bool} {k n : Nat} {vsp : VSp} {t : VTS} (F : FunD K x qual params body scope dvs kws f fd) (S : FnScope N ps scope) (hn : ps.length = n) (hN : n ≤ N.length)
    (hbody : ∀ (cdv : Value) (A : Around) (outer : List Env) (s : Shared) (H : Hp) (E : XK) (p : Addr × Obj), L2H.RoomH k (A.deeper (envOfC qual scope s.heap.objs.size f cdv)) → VSs (bodyH P w K mg base N κ qual scope f cdv A outer s H E p) body t)
    (hm : Mono vsp)
    (hsp : ∀ ds Q Ex, ds.length = n → vsp ds Q Ex → t { nx := fun ε => n ≤ ε.length ∧ Q .non (finalL κ ds ε), rt := fun r ε => n ≤ ε.length ∧ Q r (finalL κ ds ε), rx := fun cls row ε => n ≤ ε.length ∧ Ex cls row (finalL κ ds ε) } (startE N.length ds)) :
    L2H.FnH P w K mg base (VL.CX P w) (k + 1) f fd ps (Lift K n vsp) := by
  obtain ⟨oc, od, dV, kV, doc, pm, an, cdv, ct, osl, rfl, lk, hcd, _, _⟩ := F.ex
  refine L2H.fn_ofH lk hcd S (fun vs H Q E h => by rw [h.len, hn]) fun A outer s H vs Q E p _ hr h => ?_
  obtain ⟨G, F0, ds, J, l, q⟩ := h
  obtain ⟨t', h1, h2⟩ := (hbody cdv A outer s H E p hr).ex
  refine ⟨t' (fun cls d _ H => E cls d H), h1 _ (takes_of rfl rfl rfl rfl), ?_⟩
  have hv : vs.length = n := by rw [← J.lenT, l]
  have I0 : SI K { callB H G F0 with kv := keptV κ vs } (L2.start N vs) H (startE N.length ds) [] [] := by
    have hs : RpS K G H (startE N.length ds) (L2.start N vs) F0 := by
      unfold startE L2.start
      rw [J.lenT]
      exact RpS.start _ J.temps
    refine ⟨G, F0, [], Sub.refl, J.sub, hs, ⟨rfl, rfl⟩, by simpa using J.nd, fun a z => J.fr a (by simpa using z), fun a z => J.own a (by simpa using z), J.gn, J.keep, fun j v e => ?_⟩
    obtain ⟨_, e2⟩ := keptV_get e
    unfold L2.start
    have hj := (List.getElem?_eq_some_iff.mp e2).1
    rw [List.getElem?_append_left (by simpa using hj), List.getElem?_map, e2]
    rfl
  refine h2 ⟨_, fun i u e => (keptV_get e).1⟩ _ H _ [] [] _ _ _ I0 (hsp ds _ _ l q) ⟨fun σ H1 ε J1 z => ?_, fun σ H1 ε d v J1 z => ?_, fun _ _ _ _ z => z.elim, fun _ _ _ _ z => z.elim⟩ fun cls dd σ H1 ε row v J1 e n z => ?_
  · exact z.2 _ H1 (SI.leave J (J1.push (d := .non) (v := .non) fun _ => ⟨rfl, rfl⟩) (by rw [l]; exact z.1))
  · exact z.2 v H1 (SI.leave J J1 (by rw [l]; exact z.1))
  · exact z.2 dd v H1 (SI.leave J J1 (by rw [l]; exact z.1)) e n
end
/-- a def whose last parameter has a number as default -/
structure Fd (P : Program) (w : World) (K : PySem.W.Frag) (mg : Str → Option Value) (base : Heap) (x : Str) (z : Int) (k n : Nat) (vsp : VSp) : Prop where
  ex : ∃ f fd ps, mg x = some (.ref f) ∧ PySem.W.keepIn K (.ref f) = true ∧ Binds K fd ps [] ∧ (∃ ds, Vals [.int z] ds ∧ Binds K fd ps ds) ∧ FnOk P w K mg base (VL.CX P w) k f fd ps (Lift K n vsp)
end VL
namespace VL
open PySem PySem.Spec PyProof.Rows L2 VL
/-- what is called to make an instance -/
structure Nv (P : Program) (w : World) (K : PySem.W.Frag) (mg : Str → Option Value) (base : Heap) (C k n : Nat) (vsp : VSp) : Prop where
  ex : ∃ f fd ps, L2.Mk K (cA K C) f ∧ Binds K fd ps [] ∧ FnOk P w K mg base (VL.CX P w) k f fd ps (Lift K n vsp)
theorem ve_newN {X : Cv} {C k n : Nat} {x : Str} {p pos : Pos} {e : Expr} {es : List Expr} {rs : List (Option Nat)} {t : VTA} {vsp : VSp} (F : Nv X.prog X.w X.K X.mg X.base C k n vsp) (mo : Mono vsp)
    (hr : Room (k + 1) X.A) (hg : Gl X.toCx x) (hm : X.mg x = some (.ref (cA X.K C))) (hn : (e :: es).length + 1 = n) (ha : VA X (e :: es) rs t) (hrs : rs.length = (e :: es).length := by rfl)
    (hdb : (x == ("__debug__" : Str)) = false := by decide) (h1 : starEach (e :: es) X.env = (false, eval e X.env) :: starEach es X.env := by rfl) (h2 : (backTo pos (starEach es X.env)).any (·.1) = false := by rfl) :
    VE X (.Call (.Name x p) (e :: es) [] pos) (vNew C vsp rs t) := by
  obtain ⟨f, fd, ps, M, hb, F⟩ := F.ex
  exact ve_new M hb F mo hr hg hm hn ha hrs hdb h1 h2
section
variable {P : Program} {w : World} {K : PySem.W.Frag} {mg : Str → Option Value} {base : Heap} {st : Stmt} {N ps : List Str} {κ : List Bool} {k n : Nat} {vsp : VSp} {t : VTS} {f : Addr} {x qual : Str}
theorem Mv.make {C : Nat} (hF : ∃ fd, FunD K x qual (defArgs st) (defBody st) (defScope st) [] [] f fd) (hm : Meth K (cA K C) x f) (S : FnScope N ps (defScope st))
    (hb : ∀ {fd}, FunD K x qual (defArgs st) (defBody st) (defScope st) [] [] f fd → Binds K fd ps []) (hn : ps.length = n) (hN : n ≤ N.length)
    (hbody : ∀ (f : Addr) (cdv : Value) (A : Around) (outer : List Env) (s : Shared) (H : Hp) (E : XK), Room k (A.deeper (envOfC qual (defScope st) s.heap.objs.size f cdv)) → VSs (bodyX P w K mg base N κ qual (defScope st) f cdv A outer s H E) (defBody st) t)
    (mo : Mono vsp) (rd : Rd n κ N.length vsp t) : Mv P w K mg base C x (k + 1) n vsp := by
  obtain ⟨fd, F⟩ := hF
  exact ⟨f, fd, ps, hm, hb F, fn_ok F S hn hN (hbody f) mo rd⟩
theorem Nv.make {C : Nat} (hF : ∃ fd, FunD K x qual (defArgs st) (defBody st) (defScope st) [] [] f fd) (hm : L2.Mk K (cA K C) f) (S : FnScope N ps (defScope st))
    (hb : ∀ {fd}, FunD K x qual (defArgs st) (defBody st) (defScope st) [] [] f fd → Binds K fd ps []) (hn : ps.length = n) (hN : n ≤ N.length)
    (hbody : ∀ (f : Addr) (cdv : Value) (A : Around) (outer : List Env) (s : Shared) (H : Hp) (E : XK), Room k (A.deeper (envOfC qual (defScope st) s.heap.objs.size f cdv)) → VSs (bodyX P w K mg base N κ qual (defScope st) f cdv A outer s H E) (defBody st) t)
    (mo : Mono vsp) (rd : Rd n κ N.length vsp t) : Nv P w K mg base C (k + 1) n vsp := by
  obtain ⟨fd, F⟩ := hF
  exact ⟨f, fd, ps, hm, hb F, fn_ok F S hn hN (hbody f) mo rd⟩
theorem Mh.make {C : Nat} (hF : ∃ fd, FunD K x qual (defArgs st) (defBody st) (defScope st) [] [] f fd) (hm : Meth K (cA K C) x f) (S : FnScope N ps (defScope st))
    (hb : ∀ {fd}, FunD K x qual (defArgs st) (defBody st) (defScope st) [] [] f fd → Binds K fd ps []) (hn : ps.length = n) (hN : n ≤ N.length)
    (hbody : ∀ (f : Addr) (cdv : Value) (A : Around) (outer : List Env) (s : Shared) (H : Hp) (E : XK) (p : Addr × Obj), L2H.RoomH k (A.deeper (envOfC qual (defScope st) s.heap.objs.size f cdv)) → VSs (bodyH P w K mg base N κ qual (defScope st) f cdv A outer s H E p) (defBody st) t)
    (mo : Mono vsp) (rd : Rd n κ N.length vsp t) : Mh P w K mg base C x (k + 1) n vsp := by
  obtain ⟨fd, F⟩ := hF
  exact ⟨f, fd, ps, hm, hb F, fn_okH F S hn hN (hbody f) mo rd⟩
theorem Fd.make {z : Int} (hF : ∃ f fd, mg x = some (.ref f) ∧ FunD K x x (defArgs st) (defBody st) (defScope st) [.int z] [] f fd) (S : FnScope N ps (defScope st))
    (hb : ∀ {f fd}, FunD K x x (defArgs st) (defBody st) (defScope st) [.int z] [] f fd → (∃ ds, Vals [] ds ∧ Binds K fd ps ds) ∧ ∃ ds, Vals [.int z] ds ∧ Binds K fd ps ds) (hn : ps.length = n) (hN : n ≤ N.length)
    (hbody : ∀ (f : Addr) (cdv : Value) (A : Around) (outer : List Env) (s : Shared) (H : Hp) (E : XK), Room k (A.deeper (envOfC x (defScope st) s.heap.objs.size f cdv)) → VSs (bodyX P w K mg base N κ x (defScope st) f cdv A outer s H E) (defBody st) t)
    (mo : Mono vsp) (rd : Rd n κ N.length vsp t) : Fd P w K mg base x z (k + 1) n vsp := by
  obtain ⟨f, fd, h1, F⟩ := hF
  obtain ⟨⟨d0, v0, b0⟩, b1⟩ := hb F
  cases v0
  exact ⟨f, fd, ps, h1, F.kp, b0, b1, fn_ok F S hn hN (hbody f) mo rd⟩
end
end VL
namespace VL
open PySem PySem.Spec PyProof.Rows L2 VL
/-- a memory: names and what they are worth -/
abbrev Mem := List (Cs × Int)
def mmD (m : Bool) (M : Mem) : D := .dK m (M.map fun p => .inr p.1) (M.map fun p => .int p.2)
def lookM (M : Mem) (s : Cs) : Int := (M.lookup s).getD 0
def putM : Mem → Cs → Int → Mem
  | [], s, v => [(s, v)]
  | (t, w) :: M, s, v => if t = s then (t, v) :: M else (t, w) :: putM M s v
def worthM (M : Mem) : Opd → Int
  | .inl i => i
  | .inr s => lookM M s
theorem mm_fzL (M : Mem) : isFzL (M.map fun p : Cs × Int => D.int p.2) = true := by rw [isFzL_all]; simp [isFz]
theorem mm_fz (M : Mem) : isFz (mmD false M) = true := mm_fzL M
theorem mm_frz (m : Bool) (M : Mem) : frz (mmD m M) = mmD false M := by
  show D.dK false _ (frzL (M.map fun p : Cs × Int => D.int p.2)) = _
  rw [frzL_id (mm_fzL M)]
  rfl
theorem isDct_mm {m : Bool} {M : Mem} : isDct (mmD m M) = true := rfl
/-- what a sign makes of two numbers; none: refused -/
def madeV (s : Cs) (i j : Int) : Option Int := if s = [43] then some (i + j) else if s = [45] then some (i - j) else if s = [38] then some (Builtin.bitAnd i j) else if s = [94] then some (Builtin.bitXor i j) else
  if j = 0 then none else if s = [47] then some (pdiv i j) else some (pmod i j)
def holdsV (s : Cs) (i j : Int) : Bool := if s = [60] then decide (i < j) else decide (i = j)
/-- small enough to divide by -/
abbrev Sm (i : Int) : Prop := i.natAbs < 2 ^ 250
inductive Dd where
  | sum (x : Cs) (i : Int) (s : Cs) (j r : Int)
  | test (i : Int) (s : Cs) (j : Int) (t : Bool)
def dedL : Dd → List D
  | .sum x i s j r => [.str cSum, .str x, .int i, .str s, .int j, .int r]
  | .test i s j t => [.str cTest, .int i, .str s, .int j, .bl t]
def dedD (d : Dd) : D := .tup (dedL d)
theorem ded_fz (d : Dd) : isFz (dedD d) = true := by cases d <;> rfl
theorem deds_fz (ds : List Dd) : isFzL (ds.map dedD) = true := by rw [isFzL_all]; simp [ded_fz]
theorem deds_frz (ds : List Dd) : frzL (ds.map dedD) = ds.map dedD := frzL_id (deds_fz ds)
structure Dds where
  mem : Mem
  most : Int
  done : List Dd
/-- where each row stands, by its number -/
def plcD (m : Bool) (rs : List Rw) : D := .dK m (natK (nums rs)) (natsD (List.range rs.length))
theorem plc_frz (m : Bool) (rs : List Rw) : frz (plcD m rs) = plcD false rs := by
  show D.dK false _ (frzL (natsD _)) = _
  rw [natsD_frz]
  rfl
abbrev cOn : Cs := [111, 110]
abbrev cFault : Cs := [102, 97, 117, 108, 116]
abbrev Told := List Dd × Cs × Mem
def toldD (r : Told) : D := .tup [.lst true (r.1.map dedD), .str r.2.1, mmD true r.2.2]
structure RS where
  pos : Nat
  jumps : Nat
  mem : Mem
  done : List Dd
def stepR (rs : List Rw) (most : Int) (s : RS) : Option (Sum Told RS) := match rs[s.pos]? with
  | none => none
  | some (.fin _) => some (.inl (s.done, cEnd, s.mem))
  | some (.jump _ to) => if rs.length < s.jumps + 1 then some (.inl (s.done, cOn, s.mem)) else some (.inr ⟨(nums rs).idxOf to, s.jumps + 1, s.mem, s.done⟩)
  | some (.sum _ x a sg b) => if most ≤ s.done.length then some (.inl (s.done, cOn, s.mem)) else match madeV sg (worthM s.mem a) (worthM s.mem b) with
    | none => some (.inl (s.done, cFault, s.mem))
    | some v => some (.inr ⟨s.pos + 1, 0, putM s.mem x v, s.done ++ [.sum x (worthM s.mem a) sg (worthM s.mem b) v]⟩)
  | some (.test _ a sg b to) => if most ≤ s.done.length then some (.inl (s.done, cOn, s.mem)) else
      some (.inr ⟨if holdsV sg (worthM s.mem a) (worthM s.mem b) = true then (nums rs).idxOf to else s.pos + 1, 0, s.mem, s.done ++ [.test (worthM s.mem a) sg (worthM s.mem b) (holdsV sg (worthM s.mem a) (worthM s.mem b))]⟩)
/-- what is asked of a state -/
structure RSok (rs : List Rw) (s : RS) : Prop where
  lt : s.pos < rs.length
  mem : s.mem.length ≤ 100000
  done : s.done.length ≤ 100000
  sm : ∀ n x a sg b, rs[s.pos]? = some (.sum n x a sg b) → Sm (worthM s.mem b)
inductive RunsN (rs : List Rw) (most : Int) (res : Told) : Nat → RS → Prop
  | stop {s : RS} : RSok rs s → stepR rs most s = some (.inl res) → RunsN rs most res 0 s
  | go {s s' : RS} {n : Nat} : RSok rs s → stepR rs most s = some (.inr s') → RunsN rs most res n s' → RunsN rs most res (n + 1) s
theorem RunsN.ok {rs : List Rw} {most : Int} {res : Told} {n : Nat} {s : RS} : RunsN rs most res n s → RSok rs s
  | .stop h _ => h
  | .go h _ _ => h
theorem RunsN.inv {rs : List Rw} {most : Int} {res : Told} {m : Nat} {s : RS} (h : RunsN rs most res m s) : stepR rs most s = some (.inl res) ∨ ∃ s' n, m = n + 1 ∧ stepR rs most s = some (.inr s') ∧ RunsN rs most res n s' := by
  cases h with
  | stop _ e => exact .inl e
  | go _ e r => exact .inr ⟨_, _, rfl, e, r⟩
end VL
namespace VL
open PySem PySem.Spec PyProof.Rows L2 VL
/-- the same, but for dicts that are locked or unlocked -/
def Lk (G G' : Hp) : Prop := ∀ a, G' a = G a ∨ ∃ o kvs, (G a = some (.dK kvs) ∧ G' a = some (.frz o (.dK kvs))) ∨ (G a = some (.frz o (.dK kvs)) ∧ G' a = some (.dK kvs))
section
variable {K : PySem.W.Frag} {G G' H H' : Hp}
theorem Lk.other (h : Lk G G') {a : Addr} {o : HO} (e : G a = some o) (n : ∀ kvs, o ≠ .dK kvs) (m : ∀ q kvs, o ≠ .frz q (.dK kvs)) : G' a = some o := by
  rcases h a with e2 | ⟨q, k2, ⟨e1, e2⟩ | ⟨e1, e2⟩⟩
  · rw [e2, e]
  · rw [e] at e1; cases e1; exact absurd rfl (n k2)
  · rw [e] at e1; cases e1; exact absurd rfl (m q k2)
theorem Lk.sqL (h : Lk G G') {a : Addr} {xs : List V} (r : SqL K G a xs) : SqL K G' a xs := by
  rcases r with (r | ⟨o, r⟩) | r
  · exact .inl (.inl (h.other r (fun _ z => nomatch z) fun _ _ z => nomatch z))
  · exact .inl (.inr ⟨o, h.other r (fun _ z => nomatch z) fun _ _ z => by cases z⟩)
  · exact .inr r
end
end VL
namespace VL
open PySem PySem.Spec PyProof.Rows L2 VL
end VL
namespace VL
open PySem PySem.Spec PyProof.Rows L2 VL
mutual
def plN : Nat → D → Bool
  | _, .bl _ => true
  | _, .int _ => true
  | _, .str _ => true
  | n + 1, .tup xs => decide (xs.length < 1000000) && plNL n xs
  | n + 1, .lst m xs => !m && (decide (xs.length < 1000000) && plNL n xs)
  | _, _ => false
def plNL : Nat → List D → Bool
  | _, [] => true
  | n, d :: ds => plN n d && plNL n ds
end
theorem plNL_all : ∀ (n : Nat) (ds : List D), plNL n ds = ds.all (plN n)
  | _, [] => by rw [plNL]; rfl
  | n, d :: ds => by rw [plNL, plNL_all n ds, List.all_cons]
theorem plN_fz : ∀ (n : Nat) (d : D), plN n d = true → isFz d = true := by
  intro n
  induction n with
  | zero => intro d h; cases d <;> first | rfl | (simp [plN] at h; done)
  | succ n ih =>
    have l : ∀ xs, plNL n xs = true → isFzL xs = true := fun xs h => by
      rw [plNL_all] at h
      rw [isFzL_all]
      exact List.all_eq_true.mpr fun x hx => ih x (List.all_eq_true.mp h x hx)
    intro d h
    cases d with
    | tup xs => exact l xs (by simp [plN] at h; exact h.2)
    | lst m xs =>
      cases m with
      | true => simp [plN] at h
      | false => show (!false && isFzL xs) = true; rw [l xs (by simp [plN] at h; exact h.2)]; rfl
    | _ => first | rfl | (simp [plN] at h; done)
theorem plNL_fz {n : Nat} {xs : List D} (h : plNL n xs = true) : isFzL xs = true := by
  rw [plNL_all] at h
  rw [isFzL_all]
  exact List.all_eq_true.mpr fun x hx => plN_fz n x (List.all_eq_true.mp h x hx)
end VL
namespace VL
open PySem PySem.Spec PyProof.Rows L2 VL
mutual
/-- nothing in it that stood before but numbers, texts, tuples -/
def newD : D → Bool
  | .non => true
  | .bl _ => true
  | .int _ => true
  | .str _ => true
  | .ty _ => true
  | .tup ds => newDL ds
  | .lst m ds => m && newDL ds
  | .dK m _ ds => m && newDL ds
  | .dT m _ ds => m && newDL ds
  | _ => false
def newDL : List D → Bool
  | [] => true
  | d :: ds => newD d && newDL ds
end
theorem newDL_all : ∀ ds : List D, newDL ds = ds.all newD
  | [] => by rw [newDL]; rfl
  | d :: ds => by rw [newDL, newDL_all ds, List.all_cons]
section
variable {K : PySem.W.Frag} {G1 G2 H : Hp}
mutual
theorem Rp.lend (hs : ∀ a vs, G1 a = some (.tup vs) → G2 a = some (.tup vs)) : ∀ {d : D} {v : V} {F : List Addr}, newD d = true → Rp K G1 H d v F → Rp K G2 H d v F
  | .hole, _, _, n, _ => by cases n
  | .val _, _, _, n, _ => by cases n
  | .pin _ _, _, _, n, _ => by cases n
  | .exn _ _ _ _, _, _, n, _ => by cases n
  | .ins _ _ _ _, _, _, n, _ => by cases n
  | .non, _, _, _, h => h
  | .bl _, _, _, _, h => h
  | .int _, _, _, _, h => h
  | .str _, _, _, _, h => h
  | .ty _, _, _, _, h => h
  | .tup ds, v, F, n, h => by
    obtain ⟨a, vs, e, s, r⟩ := h
    exact ⟨a, vs, e, hs _ _ s, RpL.lend hs (by simpa [newD] using n) r⟩
  | .lst false ds, v, F, n, _ => by simp [newD] at n
  | .lst true ds, v, F, n, h => by
    obtain ⟨a, vs, F', e, s, rfl, r⟩ := h
    exact ⟨a, vs, F', e, s, rfl, RpL.lend hs (by simpa [newD] using n) r⟩
  | .dK false ks ds, v, F, n, _ => by simp [newD] at n
  | .dK true ks ds, v, F, n, h => by
    obtain ⟨a, vs, F', e, s, rfl, l, nd, r⟩ := h
    exact ⟨a, vs, F', e, s, rfl, l, nd, RpL.lend hs (by simpa [newD] using n) r⟩
  | .dT false ks ds, v, F, n, _ => by simp [newD] at n
  | .dT true ks ds, v, F, n, h => by
    obtain ⟨a, vs, F', e, s, rfl, l, nd, r⟩ := h
    exact ⟨a, vs, F', e, s, rfl, l, nd, RpL.lend hs (by simpa [newD] using n) r⟩
theorem RpL.lend (hs : ∀ a vs, G1 a = some (.tup vs) → G2 a = some (.tup vs)) : ∀ {ds : List D} {vs : List V} {F : List Addr}, newDL ds = true → RpL K G1 H ds vs F → RpL K G2 H ds vs F
  | [], _, _, _, h => h
  | d :: ds, vs, F, n, h => by
    obtain ⟨v, vs', F1, F2, rfl, rfl, r, rs⟩ := h
    have n2 : newD d = true ∧ newDL ds = true := by simpa [newDL] using n
    exact ⟨v, vs', F1, F2, rfl, rfl, Rp.lend hs n2.1 r, RpL.lend hs n2.2 rs⟩
end
end
def lendG (G G1 : Hp) : Hp := fun a => match G a with
  | some o => some o
  | none => match G1 a with
    | some (.tup vs) => some (.tup vs)
    | _ => none
theorem lendG_l {G G1 : Hp} {a : Addr} {o : HO} (h : G a = some o) : lendG G G1 a = some o := by unfold lendG; rw [h]
theorem lendG_cases {G G1 : Hp} {a : Addr} {o : HO} (h : lendG G G1 a = some o) : G a = some o ∨ (G a = none ∧ ∃ vs, o = .tup vs ∧ G1 a = some (.tup vs)) := by
  unfold lendG at h
  split at h
  · next e => exact .inl (e.trans h)
  · next e =>
    split at h
    · next vs e2 => cases h; exact .inr ⟨e, vs, rfl, e2⟩
    · cases h
section
variable {K : PySem.W.Frag} {b : Bs} {σ : L2.St} {H H' : Hp} {ε : Ep} {T : List D} {Tv : List V}
theorem SI.lend (I : SI K b σ H ε T Tv) {ds : List D} {vs : List V} {r : D} {v : V} (I' : SI K (callB H H []) [] H' [] (ds ++ [r]) (vs ++ [v])) (hl : ds.length = vs.length) (hz : newD r = true) : SI K b σ H' ε (T ++ [r]) (Tv ++ [v]) := by
  obtain ⟨G, F, Ft, J⟩ := I
  obtain ⟨G1, Fs, Ft', J'⟩ := I'
  obtain ⟨_, rfl⟩ := J'.slots
  obtain ⟨F1, F2, rfl, _, r2⟩ := J'.temps.split2 hl
  have r2 := RpL.one.mp r2
  have keep : ∀ a o, H a = some o → H' a = some o := fun a o e => J'.keep a o e fun z => nomatch z
  have new : ∀ a ∈ F2, H a = none := fun a z => by
    rcases J'.own a (by simp [z]) with h | h
    · exact nomatch h
    · exact h
  have there : ∀ a ∈ F ++ Ft, ∃ o, H a = some o ∧ Mut (some o) := fun a z => by
    rcases List.mem_append.mp z with z | z
    · exact J.slots.there a z
    · exact J.temps.there a z
  have same : ∀ a ∈ F ++ Ft, H' a = H a := fun a z => by
    obtain ⟨o, e, _⟩ := there a z
    rw [e, keep a o e]
  have sg : Sub G (lendG G G1) := fun a o e => lendG_l e
  have tp : ∀ a vs, G1 a = some (.tup vs) → lendG G G1 a = some (.tup vs) := fun a vs e => by
    cases h : G a with
    | none => unfold lendG; rw [h, e]
    | some o =>
      have h1 := J'.s0 a o (J.sub a o h)
      rw [e] at h1
      cases h1
      exact lendG_l h
  refine ⟨lendG G G1, F, Ft ++ F2, J.s0.trans sg, fun a o e => ?_, J.slots.mono sg fun a z => same a (List.mem_append_left _ z), (J.temps.mono sg fun a z => same a (List.mem_append_right _ z)).append (RpL.one.mpr (Rp.lend tp hz r2)), ?_, fun a z => ?_, fun a z => ?_, fun a o e => ?_, fun a o e n => keep a o (J.keep a o e n), J.kept⟩
  · rcases lendG_cases e with h | ⟨_, vs, rfl, h2⟩
    · exact keep a o (J.sub a o h)
    · exact J'.sub a _ h2
  · rw [← List.append_assoc]
    refine List.nodup_append.mpr ⟨J.nd, ?_, fun a z c hc e => ?_⟩
    · have := J'.nd
      rw [List.nil_append] at this
      exact (List.nodup_append.mp this).2.1
    · subst e
      obtain ⟨o, e, _⟩ := there a z
      rw [new a hc] at e
      cases e
  · rw [← List.append_assoc] at z
    rcases List.mem_append.mp z with z | z
    · have g0 := J.fr a z
      cases h : lendG G G1 a with
      | none => rfl
      | some o =>
        rcases lendG_cases h with h | ⟨_, vs, rfl, h2⟩
        · rw [g0] at h; cases h
        · have h1 := J'.sub a _ h2
          rw [same a z] at h1
          obtain ⟨o, e, m⟩ := there a z
          rw [h1] at e
          cases e
          exact m.elim
    · cases h : lendG G G1 a with
      | none => rfl
      | some o =>
        rcases lendG_cases h with h | ⟨_, vs, rfl, h2⟩
        · have := J.sub a o h
          rw [new a z] at this
          cases this
        · rw [J'.fr a (by simp [z])] at h2
          cases h2
  · rw [← List.append_assoc] at z
    rcases List.mem_append.mp z with z | z
    · exact J.own a z
    · exact J.h0 (new a z)
  · rcases lendG_cases e with h | ⟨_, vs, rfl, h2⟩
    · exact J.gn a o h
    · exact .inr (.inr (.inr ⟨vs, rfl⟩))
end
section
variable {X : Cv}
def vLend (vsp : VSp) (t : VTVs) : VTE := fun N ε Q => t ε fun ds => vsp ds (fun r ds' => newD r = true ∧ Q r ε) (fun cls row ds' => newD row = true ∧ N cls row ε)
theorem ve_lend {x : Str} {p pos : Pos} {e : Expr} {es : List Expr} {t : VTVs} {k n : Nat} {vsp : VSp} (F : Fv X.prog X.w X.K X.mg X.base x k n vsp) (m : Mono vsp) (hr : Room k X.A) (hg : Gl X.toCx x) (hn : (e :: es).length = n) (ha : VVs X (e :: es) t)
    (hdb : (x == ("__debug__" : Str)) = false := by decide) (he : starEach (e :: es) X.env = (false, eval e X.env) :: starEach es X.env := by rfl) (hpl : (backTo pos (starEach es X.env)).any (·.1) = false := by rfl) :
    VE X (.Call (.Name x p) (e :: es) [] pos) (vLend vsp t) := by
  obtain ⟨f, fd, ps, hm, hk, hb, F⟩ := F.ex
  obtain ⟨t', a1, a2⟩ := ha.ex
  refine ⟨fun W => tCallS (Lift X.K n vsp) (WE W) (t' W), fun W tk => pe_callS F hr hg hm hk hb (fun σ => passAt tk σ) (a1 W tk) hdb he hpl, fun b σ H ε T Tv W N Q Q' I q kk x => ?_⟩
  refine a2 b σ H ε T Tv W _ _ I q fun ds vs H1 s1 rr l z => ?_
  have I1 := I.grow s1
  have ll : ∀ {ds' : List D} {d : D} {v : V} {H' : Hp}, SI X.K (callB H1 H1 []) [] H' [] (ds' ++ [d]) (vs ++ [v]) → ds'.length = vs.length := fun I' => by
    have := I'.lenT
    simpa using this
  refine ⟨H1, [], ds, si_view rr, by rw [l, hn], m _ _ _ _ _ (fun r ds' q' v H' I' => ?_) (fun cls row ds' q' dd v H' I' e fr => ?_) z⟩
  · exact kk r v ε H' (I1.lend I' (ll I') q'.1) q'.2
  · refine x cls dd σ H' ε row v (I1.lend I' (ll I') q'.1) e ?_ q'.2
    rcases fr with h | h
    · exact nomatch h
    · obtain ⟨_, _, _, J⟩ := I1
      exact J.h0 h
end
end VL
namespace VL
open PySem PySem.Spec PyProof.Rows L2 VL
end VL
namespace VL
open PySem PySem.Spec PyProof.Rows L2 PySem.W
/-- below 2 ^ B either way -/
abbrev Bd (B : Nat) (i : Int) : Prop := i.natAbs < 2 ^ B
def MemB (B : Nat) (M : Mem) : Prop := ∀ p ∈ M, Bd B p.2
def OpB (B : Nat) : Opd → Prop
  | .inl i => Bd B i
  | .inr _ => True
end VL
namespace VL
open PySem PySem.Spec PyProof.Rows L2 VL
abbrev cRest : Cs := [114, 101, 115, 116]
def signOk (s : Cs) : Prop := s = [43] ∨ s = [45] ∨ s = [47] ∨ s = cRest ∨ s = [38] ∨ s = [94]
def testOk (s : Cs) : Prop := s = [60] ∨ s = [61]
/-- the deed of a row; none: refused -/
def deedR (M : Mem) : Rw → Option Dd
  | .sum _ x a s b => (madeV s (worthM M a) (worthM M b)).map fun v => .sum x (worthM M a) s (worthM M b) v
  | .test _ a s b _ => some (.test (worthM M a) s (worthM M b) (holdsV s (worthM M a) (worthM M b)))
  | _ => none
theorem cutL_maps {α β : Type} (f : α → β) (xs : List α) (lo hi : Option Int) : cutL (xs.map f) lo hi = (cutL xs lo hi).map f := by
  unfold cutL
  rw [List.length_map, List.map_take, List.map_drop]
theorem slice_script (ns : List Int) (lo hi : Option Int) : sliceD (scriptD ns) lo hi = some (.lst true ((cutL ns lo hi).map D.int)) := by
  show (if isFzL (ns.map D.int) = true then some (D.lst true (cutL (ns.map D.int) lo hi)) else none) = _
  rw [if_pos (show isFzL (ns.map D.int) = true from script_fz ns), cutL_maps]
theorem frz_ints (ns : List Int) : frzL (ns.map D.int) = ns.map D.int := frzL_id (show isFzL (ns.map D.int) = true from script_fz ns)
theorem new_dd (d : Dd) : newD (dedD d) = true := by cases d <;> rfl
theorem new_dds (ds : List Dd) : newDL (ds.map dedD) = true := by rw [newDL_all]; simp [new_dd]
theorem new_mm (M : Mem) : newD (mmD true M) = true := by
  show (true && newDL (M.map fun p : Cs × Int => D.int p.2)) = true
  rw [newDL_all]
  simp [newD]
theorem new_told (r : Told) : newD (toldD r) = true := by
  show newDL [.lst true (r.1.map dedD), .str r.2.1, mmD true r.2.2] = true
  show ((true && newDL (r.1.map dedD)) && (true && (newD (mmD true r.2.2) && true))) = true
  rw [new_dds, new_mm]
  rfl
end VL
namespace VL
open PySem PySem.Spec PyProof.Rows L2 VL
/-- along jumps to what is none; none: round and round -/
def folJ (nx : Nat → Option Nat) : Nat → Nat → Option Nat
  | 0, _ => none
  | f + 1, p => match nx p with
    | none => some p
    | some b => folJ nx f b
def fol (rs : List Rw) (p : Nat) : Option Nat := folJ (nxJ rs) (rs.length + 1) p
theorem folJ_none {nx : Nat → Option Nat} {f p : Nat} (h : nx p = none) : folJ nx (f + 1) p = some p := by
  show (match nx p with | none => some p | some b => folJ nx f b) = _
  rw [h]
theorem folJ_some {nx : Nat → Option Nat} {f p b : Nat} (h : nx p = some b) : folJ nx (f + 1) p = folJ nx f b := by
  show (match nx p with | none => some p | some b => folJ nx f b) = _
  rw [h]
theorem folJ_end {nx : Nat → Option Nat} : ∀ {f p q : Nat}, folJ nx f p = some q → nx q = none
  | 0, _, _, h => nomatch h
  | f + 1, p, q, h => by
    cases e : nx p with
    | none => rw [folJ_none e] at h; cases h; exact e
    | some b => rw [folJ_some e] at h; exact folJ_end h
/-- n steps of jumps -/
def itJ (nx : Nat → Option Nat) : Nat → Nat → Option Nat
  | 0, p => some p
  | n + 1, p => (nx p).bind (itJ nx n)
theorem itJ_add {nx : Nat → Option Nat} : ∀ {n m p q : Nat}, itJ nx n p = some q → itJ nx (n + m) p = itJ nx m q
  | 0, m, p, q, h => by cases h; rw [Nat.zero_add]
  | n + 1, m, p, q, h => by
    rw [Nat.succ_add]
    show (nx p).bind (itJ nx (n + m)) = _
    cases e : nx p with
    | none =>
      have h : (nx p).bind (itJ nx n) = some q := h
      rw [e] at h; cases h
    | some b =>
      have h : (nx p).bind (itJ nx n) = some q := h
      rw [e] at h
      exact itJ_add (p := b) h
theorem fol_end {rs : List Rw} {p q : Nat} (h : fol rs p = some q) : nxJ rs q = none := folJ_end h
theorem fol_self {rs : List Rw} {p : Nat} (h : nxJ rs p = none) : fol rs p = some p := folJ_none h
theorem fol_twice {rs : List Rw} {p q : Nat} (h : fol rs p = some q) : fol rs q = some q := fol_self (fol_end h)
/-- a run from a place, of at most so many deeds: the deeds, the word, the memory, where it came to -/
inductive MR (rs : List Rw) : Nat → Nat → Mem → List Dd → Cs → Mem → Option Nat → Prop
  | ring {m p : Nat} {M : Mem} : fol rs p = none → MR rs m p M [] cOn M none
  | fin {m p q n : Nat} {M : Mem} : fol rs p = some q → rs[q]? = some (.fin n) → MR rs m p M [] cEnd M (some q)
  | full {p q : Nat} {r : Rw} {M : Mem} : fol rs p = some q → rs[q]? = some r → r.falls = true → MR rs 0 p M [] cOn M (some q)
  | fault {m p q : Nat} {r : Rw} {M : Mem} : fol rs p = some q → rs[q]? = some r → r.falls = true → deedR M r = none → MR rs (m + 1) p M [] cFault M (some q)
  | sum {m p q n : Nat} {x s : Cs} {a b : Opd} {v : Int} {M M' : Mem} {ds : List Dd} {w : Cs} {z : Option Nat} : fol rs p = some q → rs[q]? = some (.sum n x a s b) → madeV s (worthM M a) (worthM M b) = some v →
      MR rs m (q + 1) (putM M x v) ds w M' z → MR rs (m + 1) p M (.sum x (worthM M a) s (worthM M b) v :: ds) w M' z
  | test {m p q n to : Nat} {s : Cs} {a b : Opd} {M M' : Mem} {ds : List Dd} {w : Cs} {z : Option Nat} : fol rs p = some q → rs[q]? = some (.test n a s b to) →
      MR rs m (if holdsV s (worthM M a) (worthM M b) = true then (nums rs).idxOf to else q + 1) M ds w M' z → MR rs (m + 1) p M (.test (worthM M a) s (worthM M b) (holdsV s (worthM M a) (worthM M b)) :: ds) w M' z
section
variable {rs : List Rw}
/-- only one answer -/
theorem MR.one {m p : Nat} {M : Mem} {ds ds' : List Dd} {w w' : Cs} {M1 M2 : Mem} {z z' : Option Nat} (h : MR rs m p M ds w M1 z) (k : MR rs m p M ds' w' M2 z') : ds = ds' ∧ w = w' ∧ M1 = M2 ∧ z = z' := by
  induction h generalizing ds' w' M2 z' with
  | ring h =>
    cases k with
    | ring _ => exact ⟨rfl, rfl, rfl, rfl⟩
    | fin e _ => rw [h] at e; cases e
    | full e _ _ => rw [h] at e; cases e
    | fault e _ _ _ => rw [h] at e; cases e
    | sum e _ _ _ => rw [h] at e; cases e
    | test e _ _ => rw [h] at e; cases e
  | fin h h2 =>
    cases k with
    | ring e => rw [h] at e; cases e
    | fin e _ => rw [h] at e; cases e; exact ⟨rfl, rfl, rfl, rfl⟩
    | full e e2 e3 => rw [h] at e; cases e; rw [h2] at e2; cases e2; cases e3
    | fault e e2 e3 _ => rw [h] at e; cases e; rw [h2] at e2; cases e2; cases e3
    | sum e e2 _ _ => rw [h] at e; cases e; rw [h2] at e2; cases e2
    | test e e2 _ => rw [h] at e; cases e; rw [h2] at e2; cases e2
  | full h h2 h3 =>
    cases k with
    | ring e => rw [h] at e; cases e
    | fin e e2 => rw [h] at e; cases e; rw [h2] at e2; cases e2; cases h3
    | full e _ _ => rw [h] at e; cases e; exact ⟨rfl, rfl, rfl, rfl⟩
  | fault h h2 h3 h4 =>
    cases k with
    | ring e => rw [h] at e; cases e
    | fin e e2 => rw [h] at e; cases e; rw [h2] at e2; cases e2; cases h3
    | fault e _ _ _ => rw [h] at e; cases e; exact ⟨rfl, rfl, rfl, rfl⟩
    | sum e e2 e3 _ => rw [h] at e; cases e; rw [h2] at e2; cases e2; simp [deedR, e3] at h4
    | test e e2 _ => rw [h] at e; cases e; rw [h2] at e2; cases e2; simp [deedR] at h4
  | sum h h2 h3 _ ih =>
    cases k with
    | ring e => rw [h] at e; cases e
    | fin e e2 => rw [h] at e; cases e; rw [h2] at e2; cases e2
    | fault e e2 e3 e4 => rw [h] at e; cases e; rw [h2] at e2; cases e2; simp [deedR, h3] at e4
    | sum e e2 e3 r =>
      rw [h] at e; cases e; rw [h2] at e2; cases e2; rw [h3] at e3; cases e3
      obtain ⟨rfl, rfl, rfl, rfl⟩ := ih r
      exact ⟨rfl, rfl, rfl, rfl⟩
    | test e e2 _ => rw [h] at e; cases e; rw [h2] at e2; cases e2
  | test h h2 _ ih =>
    cases k with
    | ring e => rw [h] at e; cases e
    | fin e e2 => rw [h] at e; cases e; rw [h2] at e2; cases e2
    | fault e e2 e3 e4 => rw [h] at e; cases e; rw [h2] at e2; cases e2; simp [deedR] at e4
    | sum e e2 e3 r => rw [h] at e; cases e; rw [h2] at e2; cases e2
    | test e e2 r =>
      rw [h] at e; cases e; rw [h2] at e2; cases e2
      obtain ⟨rfl, rfl, rfl, rfl⟩ := ih r
      exact ⟨rfl, rfl, rfl, rfl⟩
theorem MR.len {m p : Nat} {M : Mem} {ds : List Dd} {w : Cs} {M1 : Mem} {z : Option Nat} (h : MR rs m p M ds w M1 z) : ds.length ≤ m := by
  induction h with
  | sum _ _ _ _ ih => simpa using ih
  | test _ _ _ ih => simpa using ih
  | _ => simp
theorem MR.from {m p q : Nat} {M M1 : Mem} {ds : List Dd} {w : Cs} {z : Option Nat} (h : MR rs m q M ds w M1 z) (hf : fol rs p = fol rs q) : MR rs m p M ds w M1 z := by
  cases h with
  | ring h => exact .ring (hf.trans h)
  | fin h h2 => exact .fin (hf.trans h) h2
  | full h h2 h3 => exact .full (hf.trans h) h2 h3
  | fault h h2 h3 h4 => exact .fault (hf.trans h) h2 h3 h4
  | sum h h2 h3 r => exact .sum (hf.trans h) h2 h3 r
  | test h h2 r => exact .test (hf.trans h) h2 r
theorem MR.on {m p q : Nat} {M M1 : Mem} {ds : List Dd} {w : Cs} (h : MR rs m p M ds w M1 (some q)) {j : Nat} {ds2 : List Dd} {w2 : Cs} {M2 : Mem} {z2 : Option Nat} (k : MR rs (j + 1) q M1 ds2 w2 M2 z2) : MR rs (m + (j + 1)) p M (ds ++ ds2) w2 M2 z2 := by
  generalize hz : some q = z at h
  induction h with
  | ring _ => cases hz
  | fin h h2 =>
    cases hz
    have k2 := k.one (.fin (fol_twice h) h2)
    obtain ⟨rfl, rfl, rfl, rfl⟩ := k2
    exact .fin h h2
  | full h h2 h3 =>
    cases hz
    rw [Nat.zero_add]
    exact k.from (h.trans (fol_twice h).symm)
  | fault h h2 h3 h4 =>
    cases hz
    have k2 := k.one (.fault (fol_twice h) h2 h3 h4)
    obtain ⟨rfl, rfl, rfl, rfl⟩ := k2
    rw [Nat.succ_add]
    exact .fault h h2 h3 h4
  | sum h1 h2 h3 _ ih =>
    rw [Nat.succ_add]
    exact .sum h1 h2 h3 (ih k hz)
  | test h1 h2 _ ih =>
    rw [Nat.succ_add]
    exact .test h1 h2 (ih k hz)
end
end VL
namespace VL
open PySem PySem.Spec PyProof.Rows L2 VL
end VL
namespace VL
open PySem PySem.Spec PyProof.Rows L2 VL
theorem ded_frz (d : Dd) : frz (dedD d) = dedD d := frz_id (ded_fz d)
theorem rwD_frz (r : Rw) : frz (rwD r) = rwD r := frz_id (rwD_fz r)
section
variable {rs : List Rw}
/-- where a run ended -/
theorem MR.last {m p : Nat} {M : Mem} {ds : List Dd} {w : Cs} {M1 : Mem} {z : Option Nat} (h : MR rs m p M ds w M1 z) :
    (z = none ∧ w = cOn) ∨ (∃ q n, z = some q ∧ rs[q]? = some (.fin n) ∧ w = cEnd) ∨ ∃ q r, z = some q ∧ rs[q]? = some r ∧ r.falls = true ∧ ((ds.length = m ∧ w = cOn) ∨ (ds.length < m ∧ deedR M1 r = none ∧ w = cFault)) := by
  induction h with
  | ring _ => exact .inl ⟨rfl, rfl⟩
  | fin _ h2 => exact .inr (.inl ⟨_, _, rfl, h2, rfl⟩)
  | full _ h2 h3 => exact .inr (.inr ⟨_, _, rfl, h2, h3, .inl ⟨rfl, rfl⟩⟩)
  | fault _ h2 h3 h4 => exact .inr (.inr ⟨_, _, rfl, h2, h3, .inr ⟨Nat.succ_pos _, h4, rfl⟩⟩)
  | sum _ _ _ _ ih =>
    rcases ih with h | h | ⟨q, r, h1, h2, h3, h4⟩
    · exact .inl h
    · exact .inr (.inl h)
    · refine .inr (.inr ⟨q, r, h1, h2, h3, ?_⟩)
      rcases h4 with ⟨h, e⟩ | ⟨h, e⟩
      · exact .inl ⟨by simp [h], e⟩
      · exact .inr ⟨by simpa using h, e⟩
  | test _ _ _ ih =>
    rcases ih with h | h | ⟨q, r, h1, h2, h3, h4⟩
    · exact .inl h
    · exact .inr (.inl h)
    · refine .inr (.inr ⟨q, r, h1, h2, h3, ?_⟩)
      rcases h4 with ⟨h, e⟩ | ⟨h, e⟩
      · exact .inl ⟨by simp [h], e⟩
      · exact .inr ⟨by simpa using h, e⟩
end
end VL
namespace VL
open PySem PySem.Spec PyProof.Rows L2 VL
section
variable {X : Cv}
/-- a slice's part that is a literal -/
structure VOC (X : Cv) (e : Option Expr) (o : Option Int) : Prop where
  ex : ∃ l : TO, PO X.toCx e l ∧ ∀ (σ : L2.St) (H : Hp) (R : Option Int → Hp → Prop), R o H → l σ H R
theorem voc_none : VOC X none none := ⟨tNoPart, po_none, fun _ _ _ h => h⟩
theorem voc_int {i : Int} {j pos} : VOC X (some (.Constant (.int i) j pos)) (some i) := ⟨tPart (tC (.int i)), po_some pe_int, fun _ _ _ h => ⟨i, rfl, h⟩⟩
def vSlQ (t : VTE) (lo hi : Option Int) : VTE := fun N ε Q => t N ε fun x ε1 => ∃ d, sliceD x lo hi = some d ∧ Q d ε1
theorem vq_slice {e : Expr} {lo hi : Option Expr} {t : VTE} {o1 o2 : Option Int} {pos p2 : Pos} (h : VQ X e t) (hl : VOC X lo o1) (hh : VOC X hi o2) : VQ X (.Subscript e (.Slice lo hi none p2) pos) (vSlQ t o1 o2) := by
  obtain ⟨t', a1, a2⟩ := h.ex
  obtain ⟨l', b1, b2⟩ := hl.ex
  obtain ⟨h', c1, c2⟩ := hh.ex
  refine ⟨fun W => tSl (rSlD X.K) (t' W) l' h', fun W tk => pe_slice sl_any (a1 W tk) b1 c1, fun b σ H ε T Tv W N Q Q' I q k x => ?_⟩
  refine a2 b σ H ε T Tv W N _ _ I q (fun d v ε1 H1 s1 J z => ?_) x
  refine b2 σ H1 _ (c2 σ H1 _ ?_)
  obtain ⟨y, hy, z⟩ := z
  have op : OpN X.K (fun vs H Q => ∃ v, vs = [v] ∧ rSlD X.K v o1 o2 H Q) (fun ds Q => ∃ x d, ds = [x] ∧ sliceD x o1 o2 = some d ∧ Q d) := OpN.mk fun G H ds vs F Q Q' hs r q k => by
    obtain ⟨x, d, rfl, h, q⟩ := q
    obtain ⟨v, rfl, rx⟩ := r.one'
    exact ⟨v, rfl, sl_run hs rx h fun v H' nw => k d v H' nw q⟩
  obtain ⟨v', e', z'⟩ := op.runQ (ds := [d]) (vs := [v]) (Q := Q) (Q' := Q') I.lenT rfl s1 J ⟨d, y, rfl, hy, z⟩ k
  obtain ⟨rfl, _⟩ := List.cons.inj e'
  exact z'
end
end VL
namespace VL
open PySem PySem.Spec PyProof.Rows L2 VL
abbrev cIf : Cs := [105, 102]
abbrev cElse : Cs := [101, 108, 115, 101]
abbrev cDone : Cs := [100, 111, 110, 101]
abbrev cRound : Cs := [114, 111, 117, 110, 100]
abbrev cPart : Cs := [112, 97, 114, 116]
abbrev cLeave : Cs := [108, 101, 97, 118, 101]
abbrev cAgain : Cs := [97, 103, 97, 105, 110]
abbrev cChoice : Cs := [99, 104, 111, 105, 99, 101]
inductive Ln where
  | sum (x : Cs) (a : Opd) (s : Cs) (b : Opd)
  | iff (a : Opd) (s : Cs) (b : Opd)
  | els
  | done
  | round (n : Int)
  | part (n : Int)
  | leave (n : Int)
  | again (n : Int)
  | fin
def lnL : Ln → List D
  | .sum x a s b => [.str cSum, .str x, opD a, .str s, opD b]
  | .iff a s b => [.str cIf, opD a, .str s, opD b]
  | .els => [.str cElse]
  | .done => [.str cDone]
  | .round n => [.str cRound, .int n]
  | .part n => [.str cPart, .int n]
  | .leave n => [.str cLeave, .int n]
  | .again n => [.str cAgain, .int n]
  | .fin => [.str cEnd]
def lnD (l : Ln) : D := .tup (lnL l)
theorem ln_fzL (l : Ln) : isFzL (lnL l) = true := by cases l <;> simp [lnL, isFzL, isFz, opD_fz]
theorem ln_fz (l : Ln) : isFz (lnD l) = true := ln_fzL l
theorem ln_frz (l : Ln) : frz (lnD l) = lnD l := frz_id (ln_fz l)
theorem lns_fz (L : List Ln) : isFzL (L.map lnD) = true := by rw [isFzL_all]; simp [ln_fz]
theorem lns_frz (L : List Ln) : frzL (L.map lnD) = L.map lnD := frzL_id (lns_fz L)
theorem new_op (a : Opd) : newD (opD a) = true := by cases a <;> rfl
theorem new_ln (l : Ln) : newD (lnD l) = true := by cases l <;> simp [lnD, lnL, newD, newDL, new_op]
/-- what is open -/
inductive Tk where
  | iff
  | els
  | rnd (n : Int)
  | prt (n : Int)
def tkD : Tk → D
  | .iff => .tup [.str cIf, .int (-1)]
  | .els => .tup [.str cElse, .int (-1)]
  | .rnd n => .tup [.str cRound, .int n]
  | .prt n => .tup [.str cPart, .int n]
theorem tk_fz (k : Tk) : isFz (tkD k) = true := by cases k <;> rfl
theorem tks_fz (st : List Tk) : isFzL (st.map tkD) = true := by rw [isFzL_all]; simp [tk_fz]
theorem tks_frz (st : List Tk) : frzL (st.map tkD) = st.map tkD := frzL_id (tks_fz st)
/-- open ones as Python has them: the innermost last -/
def stD (st : List Tk) : List D := st.reverse.map tkD
theorem std_fz (st : List Tk) : isFzL (stD st) = true := tks_fz _
theorem std_frz (st : List Tk) : frzL (stD st) = stD st := tks_frz _
theorem std_len (st : List Tk) : (stD st).length = st.length := by simp [stD]
theorem std_cons (k : Tk) (st : List Tk) : stD st ++ [tkD k] = stD (k :: st) := by simp [stD]
def stepT (st : List Tk) : Ln → Option (List Tk)
  | .iff _ _ _ => some (.iff :: st)
  | .round n => some (.rnd n :: st)
  | .part n => some (.prt n :: st)
  | .els => match st with
    | .iff :: t => some (.els :: t)
    | _ => none
  | .done => match st with
    | _ :: t => some t
    | [] => none
  | _ => some st
def home (st : List Tk) (n : Int) : Prop := Tk.rnd n ∈ st ∨ Tk.prt n ∈ st
def okT (st : List Tk) : Ln → Prop
  | .iff _ _ _ => st.length < 60
  | .round _ => st.length < 60
  | .part _ => st.length < 60
  | .leave n => home st n
  | .again n => Tk.rnd n ∈ st
  | _ => True
inductive RunsP (P : List Tk → Ln → Prop) : List Tk → List Ln → List Tk → Prop
  | nil {st : List Tk} : RunsP P st [] st
  | cons {st st1 st2 : List Tk} {l : Ln} {L : List Ln} : stepT st l = some st1 → P st l → RunsP P st1 L st2 → RunsP P st (l :: L) st2
theorem RunsP.mono {P P' : List Tk → Ln → Prop} (h : ∀ st l, P st l → P' st l) {st st' : List Tk} {L : List Ln} (r : RunsP P st L st') : RunsP P' st L st' := by
  induction r with
  | nil => exact .nil
  | cons e p _ ih => exact .cons e (h _ _ p) ih
theorem RunsP.app {P : List Tk → Ln → Prop} {a b c : List Tk} {L M : List Ln} (h : RunsP P a L b) (k : RunsP P b M c) : RunsP P a (L ++ M) c := by
  induction h with
  | nil => exact k
  | cons e p _ ih => exact .cons e p (ih k)
theorem RunsP.snoc {P : List Tk → Ln → Prop} {a b c : List Tk} {L : List Ln} {l : Ln} (h : RunsP P a L b) (e : stepT b l = some c) (p : P b l) : RunsP P a (L ++ [l]) c := h.app (.cons e p .nil)
inductive Fm where
  | sum (x : Cs) (a : Opd) (s : Cs) (b : Opd)
  | choice (a : Opd) (s : Cs) (b : Opd) (yes no : List Fm) (e : Bool)
  | round (n : Int) (body : List Fm)
  | part (n : Int) (body : List Fm)
  | leave (n : Int)
  | again (n : Int)
  | fin
mutual
def lnsF : Fm → List Ln
  | .sum x a s b => [.sum x a s b]
  | .choice a s b y n e => .iff a s b :: (lnsL y ++ ((if e = true then .els :: lnsL n else []) ++ [.done]))
  | .round n b => .round n :: (lnsL b ++ [.done])
  | .part n b => .part n :: (lnsL b ++ [.done])
  | .leave n => [.leave n]
  | .again n => [.again n]
  | .fin => [.fin]
def lnsL : List Fm → List Ln
  | [] => []
  | f :: fs => lnsF f ++ lnsL fs
end
mutual
def fmD : Fm → D
  | .sum x a s b => .tup [.str cSum, .str x, opD a, .str s, opD b]
  | .choice a s b y n e => .tup [.str cChoice, opD a, .str s, opD b, .lst false (fmsD y), .lst false (if e = true then fmsD n else [])]
  | .round n b => .tup [.str cRound, .int n, .lst false (fmsD b)]
  | .part n b => .tup [.str cPart, .int n, .lst false (fmsD b)]
  | .leave n => .tup [.str cLeave, .int n]
  | .again n => .tup [.str cAgain, .int n]
  | .fin => .tup [.str cEnd]
def fmsD : List Fm → List D
  | [] => []
  | f :: fs => fmD f :: fmsD fs
end
mutual
/-- how deep: a list without lists is 1 deep -/
def dpF : Fm → Nat
  | .choice _ _ _ y n e => max (dpL y) (if e = true then dpL n else 0) + 1
  | .round _ b => dpL b + 1
  | .part _ b => dpL b + 1
  | _ => 0
def dpL : List Fm → Nat
  | [] => 0
  | f :: fs => max (dpF f) (dpL fs)
end
theorem fmsD_map : ∀ fs : List Fm, fmsD fs = fs.map fmD
  | [] => by rw [fmsD]; rfl
  | f :: fs => by rw [fmsD, fmsD_map fs, List.map_cons]
theorem lnsL_flat : ∀ fs : List Fm, lnsL fs = fs.flatMap lnsF
  | [] => by rw [lnsL]; rfl
  | f :: fs => by rw [lnsL, lnsL_flat fs, List.flatMap_cons]
theorem lnsL_app (fs gs : List Fm) : lnsL (fs ++ gs) = lnsL fs ++ lnsL gs := by rw [lnsL_flat, lnsL_flat, lnsL_flat, List.flatMap_append]
mutual
theorem fm_fz : ∀ f : Fm, isFz (fmD f) = true
  | .sum x a s b => by simp [fmD, isFz, isFzL, opD_fz]
  | .choice a s b y n e => by
    have h1 := fms_fz y
    have h2 := fms_fz n
    rw [fmD]
    cases e <;> simp [isFz, isFzL, opD_fz, h1, h2]
  | .round n b => by
    have h1 := fms_fz b
    simp [fmD, isFz, isFzL, h1]
  | .part n b => by
    have h1 := fms_fz b
    simp [fmD, isFz, isFzL, h1]
  | .leave n => by simp [fmD, isFz, isFzL]
  | .again n => by simp [fmD, isFz, isFzL]
  | .fin => by simp [fmD, isFz, isFzL]
theorem fms_fz : ∀ fs : List Fm, isFzL (fmsD fs) = true
  | [] => by rw [fmsD]; rfl
  | f :: fs => by
    rw [fmsD]
    show (isFz (fmD f) && isFzL (fmsD fs)) = true
    rw [fm_fz f, fms_fz fs]
    rfl
end
theorem fms_frz (fs : List Fm) : frzL (fmsD fs) = fmsD fs := frzL_id (fms_fz fs)
theorem fm_frz (f : Fm) : frz (fmD f) = fmD f := frz_id (fm_fz f)
/-- lines that end with nothing open are those of a form -/
theorem parse_lns {P : List Tk → Ln → Prop} : ∀ (N : Nat) (L : List Ln) (st : List Tk), L.length ≤ N → RunsP P st L [] →
    ∃ F, (st = [] ∧ L = lnsL F) ∨ (∃ k t M, st = k :: t ∧ L = lnsL F ++ .done :: M ∧ RunsP P t M []) ∨ (∃ t M, st = .iff :: t ∧ L = lnsL F ++ .els :: M ∧ RunsP P (.els :: t) M []) := by
  intro N
  induction N with
  | zero =>
    intro L st hl r
    cases r with
    | nil => exact ⟨[], .inl ⟨rfl, by rw [lnsL]⟩⟩
    | cons _ _ _ => cases hl
  | succ N ih =>
    intro L st hl r
    cases r with
    | nil => exact ⟨[], .inl ⟨rfl, by rw [lnsL]⟩⟩
    | @cons _ st1 _ l L e p r =>
      have hl2 : L.length ≤ N := Nat.le_of_succ_le_succ hl
      have simple : ∀ f : Fm, lnsF f = [l] → st1 = st → ∃ F, (st = [] ∧ l :: L = lnsL F) ∨ (∃ k t M, st = k :: t ∧ l :: L = lnsL F ++ .done :: M ∧ RunsP P t M []) ∨ (∃ t M, st = .iff :: t ∧ l :: L = lnsL F ++ .els :: M ∧ RunsP P (.els :: t) M []) := by
        intro f hf hs
        subst hs
        obtain ⟨F, h⟩ := ih L st1 hl2 r
        refine ⟨f :: F, ?_⟩
        rw [lnsL, hf]
        rcases h with ⟨h1, h2⟩ | ⟨k, t, M, h1, h2, h3⟩ | ⟨t, M, h1, h2, h3⟩
        · exact .inl ⟨h1, by rw [h2]; rfl⟩
        · exact .inr (.inl ⟨k, t, M, h1, by rw [h2]; rfl, h3⟩)
        · exact .inr (.inr ⟨t, M, h1, by rw [h2]; rfl, h3⟩)
      -- behind an opened list that is closed
      have rest : ∀ (f : Fm) (A M : List Ln), lnsF f = l :: (A ++ [.done]) → L = A ++ .done :: M → RunsP P st M [] → ∃ F, (st = [] ∧ l :: L = lnsL F) ∨ (∃ k t M, st = k :: t ∧ l :: L = lnsL F ++ .done :: M ∧ RunsP P t M []) ∨ (∃ t M, st = .iff :: t ∧ l :: L = lnsL F ++ .els :: M ∧ RunsP P (.els :: t) M []) := by
        intro f A M hf hL r2
        have hm : M.length ≤ N := by rw [hL] at hl2; simp at hl2; omega
        obtain ⟨F, h⟩ := ih M st hm r2
        refine ⟨f :: F, ?_⟩
        rw [lnsL, hf, hL]
        rcases h with ⟨h1, h2⟩ | ⟨k, t, M2, h1, h2, h3⟩ | ⟨t, M2, h1, h2, h3⟩
        · exact .inl ⟨h1, by rw [h2]; simp⟩
        · exact .inr (.inl ⟨k, t, M2, h1, by rw [h2]; simp, h3⟩)
        · exact .inr (.inr ⟨t, M2, h1, by rw [h2]; simp, h3⟩)
      cases l with
      | sum x a s b => exact simple (.sum x a s b) (by rw [lnsF]) (Option.some.inj e).symm
      | leave n => exact simple (.leave n) (by rw [lnsF]) (Option.some.inj e).symm
      | again n => exact simple (.again n) (by rw [lnsF]) (Option.some.inj e).symm
      | fin => exact simple .fin (by rw [lnsF]) (Option.some.inj e).symm
      | done =>
        cases st with
        | nil => cases e
        | cons k t =>
          cases (Option.some.inj e)
          exact ⟨[], .inr (.inl ⟨_, _, L, rfl, by rw [lnsL]; rfl, r⟩)⟩
      | els =>
        cases st with
        | nil => cases e
        | cons k t =>
          cases k with
          | iff =>
            cases (Option.some.inj e)
            exact ⟨[], .inr (.inr ⟨_, L, rfl, by rw [lnsL]; rfl, r⟩)⟩
          | _ => cases e
      | round n =>
        cases (Option.some.inj e)
        obtain ⟨B, h⟩ := ih L _ hl2 r
        rcases h with ⟨h1, _⟩ | ⟨k, t, M, h1, h2, h3⟩ | ⟨t, M, h1, _, _⟩
        · cases h1
        · cases h1
          exact rest (.round n B) (lnsL B) M (by rw [lnsF]) h2 h3
        · cases h1
      | part n =>
        cases (Option.some.inj e)
        obtain ⟨B, h⟩ := ih L _ hl2 r
        rcases h with ⟨h1, _⟩ | ⟨k, t, M, h1, h2, h3⟩ | ⟨t, M, h1, _, _⟩
        · cases h1
        · cases h1
          exact rest (.part n B) (lnsL B) M (by rw [lnsF]) h2 h3
        · cases h1
      | iff a s b =>
        cases (Option.some.inj e)
        obtain ⟨Y, h⟩ := ih L _ hl2 r
        rcases h with ⟨h1, _⟩ | ⟨k, t, M, h1, h2, h3⟩ | ⟨t, M, h1, h2, h3⟩
        · cases h1
        · cases h1
          exact rest (.choice a s b Y [] false) (lnsL Y) M (by rw [lnsF]; simp) h2 h3
        · cases h1
          have hm : M.length ≤ N := by rw [h2] at hl2; simp at hl2; omega
          obtain ⟨Z, h⟩ := ih M _ hm h3
          rcases h with ⟨h1, _⟩ | ⟨k, t, M2, h1, h4, h5⟩ | ⟨t, M2, h1, _, _⟩
          · cases h1
          · cases h1
            exact rest (.choice a s b Y Z true) (lnsL Y ++ .els :: lnsL Z) M2 (by rw [lnsF]; simp) (by rw [h2, h4]; simp) h5
          · cases h1
theorem form_of {P : List Tk → Ln → Prop} {L : List Ln} (r : RunsP P [] L []) : ∃ F, L = lnsL F := by
  obtain ⟨F, h⟩ := parse_lns L.length L [] (Nat.le_refl _) r
  rcases h with ⟨_, h⟩ | ⟨_, _, _, h, _⟩ | ⟨_, _, h, _⟩
  · exact ⟨F, h⟩
  · cases h
  · cases h
end VL
namespace VL
open PySem PySem.Spec PyProof.Rows L2 VL
def isLet (c : Nat) : Bool := decide (97 ≤ c ∧ c ≤ 122)
def isLd (c : Nat) : Bool := isLet c || decide (48 ≤ c ∧ c ≤ 57)
def keptW : List Cs := [[105, 102], [106, 117, 109, 112], [101, 110, 100], [114, 101, 115, 116], [114, 111, 117, 110, 100], [112, 97, 114, 116], [108, 101, 97, 118, 101], [97, 103, 97, 105, 110], [101, 108, 115, 101], [100, 111, 110, 101]]
/-- a letter ahead, then letters and figures -/
def wordOk (s : Cs) : Prop := (∃ c t, s = c :: t ∧ isLet c = true) ∧ ∀ c ∈ s, isLd c = true
def NameOk (s : Cs) : Prop := wordOk s ∧ s.length ≤ 8 ∧ s ∉ keptW
theorem ld_small {c : Nat} (h : isLd c = true) : c < 123 := by
  unfold isLd isLet at h
  rcases Bool.or_eq_true_iff.mp h with h | h
  · have := of_decide_eq_true h; omega
  · have := of_decide_eq_true h; omega
theorem name_good {s : Cs} (h : NameOk s) : Cs.good s = true := by
  unfold Cs.good
  rw [List.all_eq_true]
  intro c hc
  have := ld_small (h.1.2 c hc)
  exact decide_eq_true (by omega)
def OpdOk : Opd → Prop
  | .inl i => i.natAbs < 1000000000000000000
  | .inr s => NameOk s
def LnOk : Ln → Prop
  | .sum x a s b => NameOk x ∧ OpdOk a ∧ signOk s ∧ OpdOk b
  | .iff a s b => OpdOk a ∧ testOk s ∧ OpdOk b
  | _ => True
/-- the numbers of rounds and parts -/
def homes : List Ln → List Int
  | [] => []
  | .round n :: L => n :: homes L
  | .part n :: L => n :: homes L
  | _ :: L => homes L
theorem homes_app (L M : List Ln) : homes (L ++ M) = homes L ++ homes M := by
  induction L with
  | nil => rfl
  | cons l L ih => cases l <;> simp [homes, ih]
/-- lines as they are drawn, up to so many -/
structure GenOk (L : List Ln) : Prop where
  runs : RunsP okT [] L []
  ln : ∀ l ∈ L, LnOk l
  nd : (homes L).Nodup
  rng : ∀ n ∈ homes L, 0 ≤ n ∧ n ≤ 9999
  few : L.length ≤ 121
def rawI (ns : List Int) (k : Int) : Int := if ns.length = 0 then k else ns.getD (k % (ns.length : Int)).toNat 0
def mixI (ns : List Int) (k : Int) : Int := if ns.length = 0 then (k * k + 3) * 48271 % 2147483647 else
  (rawI ns k % 2147483629 + 2) * (48271 + 7 * (k / (ns.length : Int)) * (k / (ns.length : Int))) % 2147483647
theorem mix_lt (ns : List Int) (k : Int) : 0 ≤ mixI ns k ∧ mixI ns k < 2147483647 := by
  unfold mixI
  split
  · exact ⟨Int.emod_nonneg _ (by decide), Int.emod_lt_of_pos _ (by decide)⟩
  · exact ⟨Int.emod_nonneg _ (by decide), Int.emod_lt_of_pos _ (by decide)⟩
/-- five names -/
def Nms5 (nm : List Cs) : Prop := nm.length = 5 ∧ ∀ s ∈ nm, NameOk s
theorem nm5_at {nm : List Cs} (h : Nms5 nm) {z : Int} {P : D → Prop} (q : ∀ s ∈ nm, P (.str s)) : ∃ d, ((ixN (strsD nm).length (z % 5)).bind fun j => (strsD nm)[j]?) = some d ∧ isFz d = true ∧ P d := by
  have h0 := Int.emod_nonneg z (show (5 : Int) ≠ 0 by decide)
  have h1 := Int.emod_lt_of_pos z (show (0 : Int) < 5 by decide)
  obtain ⟨i, hi⟩ := Int.eq_ofNat_of_zero_le h0
  rw [hi] at h1 ⊢
  have hl : i < nm.length := by rw [h.1]; omega
  refine ⟨.str nm[i], ?_, rfl, q _ (List.getElem_mem hl)⟩
  rw [strs_len, ixN_nat hl]
  show (strsD nm)[i]? = _
  unfold strsD
  rw [List.getElem?_map, List.getElem?_eq_getElem hl]
  rfl
theorem ix_lits {ss : List Cs} (h : ss ≠ []) {z : Int} {P : D → Prop} (q : ∀ s ∈ ss, P (.str s)) : ∃ d, ((ixN ss.length (z % (ss.length : Int))).bind fun j => (ss.map D.str)[j]?) = some d ∧ isFz d = true ∧ P d := by
  have lp : 0 < ss.length := List.length_pos_iff.mpr h
  have h0 := Int.emod_nonneg z (show (ss.length : Int) ≠ 0 by omega)
  have h1 := Int.emod_lt_of_pos z (show (0 : Int) < ss.length by omega)
  obtain ⟨i, hi⟩ := Int.eq_ofNat_of_zero_le h0
  rw [hi] at h1 ⊢
  have hl : i < ss.length := by omega
  refine ⟨.str ss[i], ?_, rfl, q _ (List.getElem_mem hl)⟩
  rw [ixN_nat hl]
  show (ss.map D.str)[i]? = _
  rw [List.getElem?_map, List.getElem?_eq_getElem hl]
  rfl
theorem str_mod {S : Cs} {n : Nat} (hn : S.length = n) (h0 : 0 < n) (h1 : n < 1000) {z : Int} {P : D → Prop} (q : ∀ c ∈ S, P (.str [c])) : ∃ d, ixD (.str S) (.int (z % (n : Int))) = some d ∧ isFz d = true ∧ P d := by
  have a0 := Int.emod_nonneg z (show (n : Int) ≠ 0 by omega)
  have a1 := Int.emod_lt_of_pos z (show (0 : Int) < n by omega)
  exact ⟨_, ix_str a0 (by omega) (by omega), rfl, q _ (List.getElem_mem _)⟩
end VL
namespace VL
open PySem PySem.Spec PyProof.Rows L2 VL
theorem deqL_0 {xs : List D} : deqL xs [] = xs.isEmpty := by cases xs <;> rfl
theorem okDL_of {n : Nat} : ∀ {xs : List D}, (∀ x ∈ xs, okD n x = true) → okDL n xs = true
  | [], _ => by rw [okDL]
  | x :: xs, h => by rw [okDL, h x List.mem_cons_self, okDL_of fun y hy => h y (List.mem_cons_of_mem _ hy)]; rfl
theorem eqOk_0 {m n : Bool} {xs : List D} (h : ∀ x ∈ xs, okD 63 x = true) : eqOk (.lst m xs) (.lst n []) := .inr ⟨by show okDL 63 xs = true; exact okDL_of h, rfl⟩
theorem okD_tk (k : Tk) : okD 63 (tkD k) = true := by cases k <;> rfl
theorem eqOk_st {m n : Bool} {st : List Tk} : eqOk (.lst m (stD st)) (.lst n []) ↔ True := ⟨fun _ => trivial, fun _ => eqOk_0 fun x hx => by
  unfold stD at hx
  obtain ⟨k, _, rfl⟩ := List.mem_map.mp hx
  exact okD_tk k⟩
theorem deqL_st {st : List Tk} : deqL (stD st) [] = st.isEmpty := by
  rw [deqL_0]
  cases st with
  | nil => rfl
  | cons k t => rw [← std_cons]; cases stD t <;> rfl
/-- what a drawn line keeps: the rounds and parts that are open -/
def hm (f k : Int) : Int := (f + 97 * k) % 10000
theorem hm_rng (f k : Int) : 0 ≤ hm f k ∧ hm f k ≤ 9999 := by
  unfold hm
  have h1 := Int.emod_nonneg (f + 97 * k) (show (10000 : Int) ≠ 0 by decide)
  have h2 := Int.emod_lt_of_pos (f + 97 * k) (show (0 : Int) < 10000 by decide)
  omega
theorem hm_inj {f : Int} {i j : Nat} (hi : i < 1000) (hj : j < 1000) (h : hm f (i : Int) = hm f (j : Int)) : i = j := by
  unfold hm at h
  omega
/-- k steps are done -/
structure GSt (f : Int) (k : Nat) (L : List Ln) (st : List Tk) : Prop where
  runs : RunsP okT [] L st
  ln : ∀ l ∈ L, LnOk l
  hs : ∃ js : List Nat, homes L = js.map (fun j : Nat => hm f (j : Int)) ∧ js.Pairwise (· < ·) ∧ ∀ j ∈ js, j < k
  len : L.length = k
  few : st.length ≤ 60
  pos : ∀ n, home st n → 0 ≤ n
/-- one line more -/
structure GLn (f : Int) (k : Nat) (st : List Tk) (l : Ln) (st' : List Tk) : Prop where
  step : stepT st l = some st'
  ok : okT st l
  ln : LnOk l
  hm : homes [l] = [] ∨ homes [l] = [hm f (k : Int)]
theorem stepT_len {st st' : List Tk} {l : Ln} (h : stepT st l = some st') (ho : okT st l) (hl : st.length ≤ 60) : st'.length ≤ 60 := by
  cases l with
  | iff a s b => cases h; have : st.length < 60 := ho; simp; omega
  | round n => cases h; have : st.length < 60 := ho; simp; omega
  | part n => cases h; have : st.length < 60 := ho; simp; omega
  | els =>
    cases st with
    | nil => cases h
    | cons k t => cases k <;> cases h; simpa using hl
  | done =>
    cases st with
    | nil => cases h
    | cons k t => cases h; simp at hl; omega
  | _ => cases h; exact hl
theorem stepT_home {st st' : List Tk} {l : Ln} (h : stepT st l = some st') {n : Int} (hn : home st' n) : home st n ∨ n ∈ homes [l] := by
  cases l with
  | iff a s b =>
    cases h
    rcases hn with hn | hn
    · exact .inl (.inl (by simpa using hn))
    · exact .inl (.inr (by simpa using hn))
  | round m =>
    cases h
    rcases hn with hn | hn
    · rcases List.mem_cons.mp hn with e | hn
      · cases e; exact .inr (by simp [homes])
      · exact .inl (.inl hn)
    · exact .inl (.inr (by simpa using hn))
  | part m =>
    cases h
    rcases hn with hn | hn
    · exact .inl (.inl (by simpa using hn))
    · rcases List.mem_cons.mp hn with e | hn
      · cases e; exact .inr (by simp [homes])
      · exact .inl (.inr hn)
  | els =>
    cases st with
    | nil => cases h
    | cons k t =>
      cases k <;> cases h
      rcases hn with hn | hn
      · exact .inl (.inl (by simpa using hn))
      · exact .inl (.inr (by simpa using hn))
  | done =>
    cases st with
    | nil => cases h
    | cons k t =>
      cases h
      rcases hn with hn | hn
      · exact .inl (.inl (List.mem_cons_of_mem _ hn))
      · exact .inl (.inr (List.mem_cons_of_mem _ hn))
  | _ => cases h; exact .inl hn
theorem GSt.next {f : Int} {k : Nat} {L : List Ln} {st st' : List Tk} {l : Ln} (G : GSt f k L st) (h : GLn f k st l st') : GSt f (k + 1) (L ++ [l]) st' where
  runs := G.runs.snoc h.step h.ok
  ln := fun x hx => by
    rcases List.mem_append.mp hx with hx | hx
    · exact G.ln x hx
    · rw [List.mem_singleton.mp hx]; exact h.ln
  hs := by
    obtain ⟨js, e, pw, lt⟩ := G.hs
    rw [homes_app, e]
    rcases h.hm with e2 | e2
    · exact ⟨js, by rw [e2, List.append_nil], pw, fun j hj => by have := lt j hj; omega⟩
    · refine ⟨js ++ [k], by rw [e2, List.map_append]; rfl, ?_, fun j hj => ?_⟩
      · exact List.pairwise_append.mpr ⟨pw, List.pairwise_singleton _ _, fun a ha b hb => by rw [List.mem_singleton.mp hb]; exact lt a ha⟩
      · rcases List.mem_append.mp hj with hj | hj
        · have := lt j hj; omega
        · rw [List.mem_singleton.mp hj]; omega
  len := by rw [List.length_append, G.len]; rfl
  few := stepT_len h.step h.ok G.few
  pos := fun n hn => by
    rcases stepT_home h.step hn with hn | hn
    · exact G.pos n hn
    · rcases h.hm with e | e
      · rw [e] at hn; cases hn
      · rw [e] at hn
        rw [List.mem_singleton.mp hn]
        exact (hm_rng f k).1
/-- what is open at the end is closed -/
theorem close_runs : ∀ (st : List Tk), RunsP okT st (List.replicate st.length .done) []
  | [] => .nil
  | _ :: t => .cons (st1 := t) rfl trivial (close_runs t)
theorem homes_done (n : Nat) : homes (List.replicate n .done) = [] := by
  induction n with
  | zero => rfl
  | succ n ih => exact ih
theorem GSt.gen {f : Int} {k : Nat} {L : List Ln} {st : List Tk} (G : GSt f k L st) (hk : k ≤ 61) : GenOk (L ++ List.replicate st.length .done) where
  runs := G.runs.app (close_runs st)
  ln := fun x hx => by
    rcases List.mem_append.mp hx with hx | hx
    · exact G.ln x hx
    · rw [(List.mem_replicate.mp hx).2]; trivial
  nd := by
    obtain ⟨js, e, pw, lt⟩ := G.hs
    rw [homes_app, homes_done, List.append_nil, e]
    refine List.pairwise_map.mpr (pw.imp_of_mem fun {a b} ha hb hab e => ?_)
    have := hm_inj (by have := lt a ha; omega) (by have := lt b hb; omega) e
    omega
  rng := fun n hn => by
    obtain ⟨js, e, pw, lt⟩ := G.hs
    rw [homes_app, homes_done, List.append_nil, e] at hn
    obtain ⟨j, _, rfl⟩ := List.mem_map.mp hn
    exact hm_rng f j
  few := by
    have := G.few
    have := G.len
    simp
    omega
end VL
namespace VL
open PySem PySem.Spec PyProof.Rows L2 VL
theorem e_intB {b : Bool} {Q : D → Prop} : sInt [.bl b] Q ↔ Q (.int (if b then 1 else 0)) := by
  constructor
  · rintro (⟨_, e, _⟩ | ⟨b', e, q⟩)
    · cases e
    · cases e; exact q
  · exact fun q => .inr ⟨b, rfl, q⟩
theorem ixN_last {n : Nat} : ixN (n + 1) (-1) = some n := ixN_neg (Nat.succ_pos n)
theorem names3L {m : Bool} {i j k : Nat} {a b c : D} {ε : Ep} {Q : Ep → Prop} : vNames [i, j, k] (.lst m [a, b, c]) ε Q ↔ i < ε.length ∧ j < ε.length ∧ k < ε.length ∧ Q (((ε.set i (some a)).set j (some b)).set k (some c)) :=
  ⟨fun ⟨_, e, _, h, q⟩ => by cases e; exact ⟨h i (by simp), h j (by simp), h k (by simp), q⟩, fun ⟨h, h2, h3, q⟩ => ⟨_, rfl, rfl, fun j hj => by simp at hj; rcases hj with rfl | rfl | rfl <;> assumption, q⟩⟩
theorem vq_still {X : Cv} {e : Expr} {t : VTE} (h : VQ X e t) : VQ X e (vStill t) := by
  obtain ⟨t', h1, h2⟩ := h.ex
  refine ⟨t', h1, fun b σ H ε T Tv W N Q Q' I q k x => ?_⟩
  exact h2 b σ H ε T Tv W N _ _ I q (fun d v ε1 H1 s J z => k (frz d) v ε1 H1 s (J.freeze I.lenT) z) x
end VL
namespace VL
open PySem PySem.Spec PyProof.Rows L2 VL
theorem lnsF_pos (f : Fm) : 0 < (lnsF f).length := by cases f <;> rw [lnsF] <;> simp
def intsD (xs : List Int) : List D := xs.map D.int
theorem intsD_fz (xs : List Int) : isFzL (intsD xs) = true := by rw [isFzL_all]; simp [intsD, isFz]
theorem intsD_frz (xs : List Int) : frzL (intsD xs) = intsD xs := frzL_id (intsD_fz xs)
theorem intsD_len (xs : List Int) : (intsD xs).length = xs.length := by simp [intsD]
theorem intsD_app (xs : List Int) (n : Int) : intsD xs ++ [.int n] = intsD (xs ++ [n]) := by simp [intsD]
/-- numbers that were met, as the keys of a dict -/
def usedD (U : List Int) : D := .dK true (U.map .inl) (U.map fun _ => .bl true)
mutual
/-- what is used behind it, if it is sound -/
def sndF (W R U : List Int) : Fm → Option (List Int)
  | .leave n => if n ∈ W then some U else none
  | .again n => if n ∈ R then some U else none
  | .round n B => if n ∈ U ∨ n < 0 ∨ 9999 < n then none else sndL (W ++ [n]) (R ++ [n]) (U ++ [n]) B
  | .part n B => if n ∈ U ∨ n < 0 ∨ 9999 < n then none else sndL (W ++ [n]) R (U ++ [n]) B
  | .choice _ _ _ Y Z e => (sndL W R U Y).bind fun U => if e = true then sndL W R U Z else some U
  | .sum _ _ _ _ => some U
  | .fin => some U
def sndL (W R U : List Int) : List Fm → Option (List Int)
  | [] => some U
  | f :: fs => (sndF W R U f).bind fun U => sndL W R U fs
end
theorem sndL_app (W R : List Int) : ∀ (U : List Int) (A B : List Fm), sndL W R U (A ++ B) = (sndL W R U A).bind fun U => sndL W R U B
  | U, [], B => by rw [sndL]; rfl
  | U, f :: A, B => by
    rw [List.cons_append, sndL, sndL]
    cases sndF W R U f with
    | none => rfl
    | some V => exact sndL_app W R V A B
mutual
theorem sndF_len : ∀ (f : Fm) {W R U V : List Int}, sndF W R U f = some V → V.length ≤ U.length + (lnsF f).length
  | .sum _ _ _ _, W, R, U, V, h => by rw [sndF] at h; cases h; omega
  | .fin, W, R, U, V, h => by rw [sndF] at h; cases h; omega
  | .leave _, W, R, U, V, h => by
    rw [sndF] at h
    split at h
    · cases h; omega
    · cases h
  | .again _, W, R, U, V, h => by
    rw [sndF] at h
    split at h
    · cases h; omega
    · cases h
  | .round n B, W, R, U, V, h => by
    rw [sndF] at h
    split at h
    · cases h
    · have := sndL_len B h
      rw [lnsF]
      simp at this ⊢
      omega
  | .part n B, W, R, U, V, h => by
    rw [sndF] at h
    split at h
    · cases h
    · have := sndL_len B h
      rw [lnsF]
      simp at this ⊢
      omega
  | .choice a s b Y Z e, W, R, U, V, h => by
    rw [sndF] at h
    cases hy : sndL W R U Y with
    | none => rw [hy] at h; cases h
    | some U2 =>
      rw [hy] at h
      have h : (if e = true then sndL W R U2 Z else some U2) = some V := h
      have h1 := sndL_len Y hy
      rw [lnsF]
      cases e with
      | false =>
        rw [if_neg (by decide)] at h
        cases h
        simp
        omega
      | true =>
        rw [if_pos rfl] at h
        have h2 := sndL_len Z h
        simp
        omega
theorem sndL_len : ∀ (F : List Fm) {W R U V : List Int}, sndL W R U F = some V → V.length ≤ U.length + (lnsL F).length
  | [], W, R, U, V, h => by rw [sndL] at h; cases h; omega
  | f :: F, W, R, U, V, h => by
    rw [sndL] at h
    cases hf : sndF W R U f with
    | none => rw [hf] at h; cases h
    | some U2 =>
      rw [hf] at h
      have h1 := sndF_len f hf
      have h2 := sndL_len F h
      rw [lnsL, List.length_append]
      omega
end
def okW (st : List Tk) (l : Ln) : Prop := (match l with | .iff _ _ _ => True | .round _ => True | .part _ => True | _ => False) → st.length < 60
theorem okT_okW {st : List Tk} {l : Ln} (h : okT st l) : okW st l := by
  cases l with
  | iff a s b => exact fun _ => h
  | round n => exact fun _ => h
  | part n => exact fun _ => h
  | _ => exact fun h => h.elim
theorem RunsP.inv {P : List Tk → Ln → Prop} {st st' : List Tk} {l : Ln} {L : List Ln} (r : RunsP P st (l :: L) st') : ∃ st1, stepT st l = some st1 ∧ P st l ∧ RunsP P st1 L st' := by
  cases r with
  | cons e p r => exact ⟨_, e, p, r⟩
mutual
theorem deepF : ∀ (f : Fm) {st st' : List Tk} {M : List Ln}, st.length ≤ 60 → RunsP okW st (lnsF f ++ M) st' → st.length + dpF f ≤ 60 ∧ RunsP okW st M st'
  | .sum x a s b, st, st', M, h, r => by
    rw [lnsF] at r
    obtain ⟨st1, e, p, r⟩ := r.inv
    cases e
    exact ⟨by simp [dpF]; exact h, r⟩
  | .leave n, st, st', M, h, r => by
    rw [lnsF] at r
    obtain ⟨st1, e, p, r⟩ := r.inv
    cases e
    exact ⟨by simp [dpF]; exact h, r⟩
  | .again n, st, st', M, h, r => by
    rw [lnsF] at r
    obtain ⟨st1, e, p, r⟩ := r.inv
    cases e
    exact ⟨by simp [dpF]; exact h, r⟩
  | .fin, st, st', M, h, r => by
    rw [lnsF] at r
    obtain ⟨st1, e, p, r⟩ := r.inv
    cases e
    exact ⟨by simp [dpF]; exact h, r⟩
  | .round n B, st, st', M, h, r => by
    rw [lnsF, List.cons_append, List.append_assoc] at r
    obtain ⟨st1, e, p, r⟩ := r.inv
    cases e
    have p : st.length < 60 := p trivial
    obtain ⟨h1, r⟩ := deepL B (by simp; omega) r
    obtain ⟨st1, e, _, r⟩ := r.inv
    cases e
    simp at h1
    exact ⟨by rw [dpF]; omega, r⟩
  | .part n B, st, st', M, h, r => by
    rw [lnsF, List.cons_append, List.append_assoc] at r
    obtain ⟨st1, e, p, r⟩ := r.inv
    cases e
    have p : st.length < 60 := p trivial
    obtain ⟨h1, r⟩ := deepL B (by simp; omega) r
    obtain ⟨st1, e, _, r⟩ := r.inv
    cases e
    simp at h1
    exact ⟨by rw [dpF]; omega, r⟩
  | .choice a s b Y Z false, st, st', M, h, r => by
    rw [lnsF, List.cons_append, List.append_assoc, List.append_assoc] at r
    obtain ⟨st1, e, p, r⟩ := r.inv
    cases e
    have p : st.length < 60 := p trivial
    obtain ⟨h1, r⟩ := deepL Y (by simp; omega) r
    obtain ⟨st1, e, _, r⟩ := r.inv
    cases e
    simp at h1
    exact ⟨by rw [dpF]; simp; omega, r⟩
  | .choice a s b Y Z true, st, st', M, h, r => by
    rw [lnsF, List.cons_append, List.append_assoc, List.append_assoc] at r
    obtain ⟨st1, e, p, r⟩ := r.inv
    cases e
    have p : st.length < 60 := p trivial
    obtain ⟨h1, r⟩ := deepL Y (by simp; omega) r
    rw [if_pos rfl, List.cons_append] at r
    obtain ⟨st1, e, _, r⟩ := r.inv
    cases e
    obtain ⟨h2, r⟩ := deepL Z (by simp; omega) r
    obtain ⟨st1, e, _, r⟩ := r.inv
    cases e
    simp at h1 h2
    exact ⟨by rw [dpF, if_pos rfl]; omega, r⟩
theorem deepL : ∀ (F : List Fm) {st st' : List Tk} {M : List Ln}, st.length ≤ 60 → RunsP okW st (lnsL F ++ M) st' → st.length + dpL F ≤ 60 ∧ RunsP okW st M st'
  | [], st, st', M, h, r => by
    rw [lnsL] at r
    exact ⟨by rw [dpL]; exact h, r⟩
  | f :: F, st, st', M, h, r => by
    rw [lnsL, List.append_assoc] at r
    obtain ⟨h1, r⟩ := deepF f h r
    obtain ⟨h2, r⟩ := deepL F h r
    exact ⟨by rw [dpL]; omega, r⟩
end
theorem deep_of {F : List Fm} (r : RunsP okW [] (lnsL F) []) : dpL F ≤ 60 := by
  rw [← List.append_nil (lnsL F)] at r
  have := (deepL F (st := []) (by decide) r).1
  simpa using this
theorem lnsL_len : ∀ F : List Fm, F.length ≤ (lnsL F).length
  | [] => Nat.zero_le _
  | f :: F => by
    rw [lnsL, List.length_append, List.length_cons]
    have := lnsF_pos f
    have := lnsL_len F
    omega
end VL
namespace VL
open PySem PySem.Spec PyProof.Rows L2 VL
theorem kIx_ints_none : ∀ {U : List Int} {n : Int}, kIx (U.map (Sum.inl : Int → Kc)) (.inl n) = none ↔ n ∉ U
  | [], n => ⟨fun _ h => (nomatch h), fun _ => rfl⟩
  | a :: U, n => by
    show (if (Sum.inl a : Kc) = .inl n then some 0 else (kIx (U.map Sum.inl) (.inl n)).map (· + 1)) = none ↔ _
    by_cases h : a = n
    · subst h
      rw [if_pos rfl]
      exact ⟨fun z => (nomatch z), fun z => (z List.mem_cons_self).elim⟩
    · rw [if_neg (fun z => h (Sum.inl.inj z)), Option.map_eq_none_iff, kIx_ints_none]
      exact ⟨fun z w => by rcases List.mem_cons.mp w with w | w; exact h w.symm; exact z w, fun z w => z (List.mem_cons_of_mem _ w)⟩
theorem vmem_used {n : Int} {m : Bool} {ds : List D} {U : List Int} {P : Bool → Prop} : (∃ r, memD (.int n) (.dK m (U.map Sum.inl) ds) = some r ∧ P r) ↔ P (decide (n ∈ U)) := by
  have e : memD (.int n) (.dK m (U.map Sum.inl) ds) = some (decide (n ∈ U)) := by
    show some (kIx (U.map (Sum.inl : Int → Kc)) (.inl n)).isSome = _
    congr 1
    rw [Bool.eq_iff_iff, decide_eq_true_iff]
    constructor
    · intro h
      refine Decidable.not_not.mp fun z => ?_
      rw [kIx_ints_none.mpr z] at h
      cases h
    · intro h
      cases e : kIx (U.map (Sum.inl : Int → Kc)) (.inl n) with
      | none => exact (kIx_ints_none.mp e h).elim
      | some _ => rfl
  rw [e]
  exact ⟨fun ⟨_, e, p⟩ => by cases e; exact p, fun p => ⟨_, rfl, p⟩⟩
theorem put_used {n : Int} {U : List Int} (hl : U.length < 1000000) (h : n ∉ U) : putD (usedD U) (.int n) (.bl true) = some (usedD (U ++ [n])) := by
  unfold usedD
  show (if (U.map fun _ => D.bl true).length < 1000000 then (keyD (.int n)).map fun k => match kIx (U.map Sum.inl) k with | some j => D.dK true (U.map Sum.inl) ((U.map fun _ => D.bl true).set j (D.bl true)) | none => D.dK true (U.map Sum.inl ++ [k]) ((U.map fun _ => D.bl true) ++ [D.bl true]) else none) = _
  rw [if_pos (by simpa using hl)]
  simp only [keyD, Option.map_some]
  rw [kIx_ints_none.mpr h]
  simp
theorem vmem_ints {n : Int} {m : Bool} {U : List Int} {P : Bool → Prop} : (∃ r, memD (.int n) (.lst m (intsD U)) = some r ∧ P r) ↔ P (decide (n ∈ U)) := by
  have e : memD (.int n) (.lst m (intsD U)) = some (decide (n ∈ U)) := by
    show (if flatD (.int n) && (intsD U).all flatD then some ((intsD U).any fun y => deq y (.int n)) else _) = _
    rw [if_pos (by simp [intsD, flatD])]
    congr 1
    rw [Bool.eq_iff_iff, decide_eq_true_iff, List.any_eq_true]
    constructor
    · rintro ⟨y, hy, h⟩
      unfold intsD at hy
      obtain ⟨z, hz, rfl⟩ := List.mem_map.mp hy
      rw [deq_i] at h
      exact (of_decide_eq_true h) ▸ hz
    · intro h
      exact ⟨.int n, List.mem_map.mpr ⟨n, h, rfl⟩, by rw [deq_i]; exact decide_eq_true rfl⟩
  rw [e]
  exact ⟨fun ⟨_, e, p⟩ => by cases e; exact p, fun p => ⟨_, rfl, p⟩⟩
def SndPre (W R U : List Int) (d l : Nat) : Prop := W.length + d < 1000 ∧ R.length + d < 1000 ∧ U.length + l < 1000
def SndPost (o : Option (List Int)) (a : List D) (r : D) (l : List D) : Prop := (∃ V, o = some V ∧ r = .bl true ∧ l = a ++ [usedD V]) ∨ (o = none ∧ r = .bl false ∧ ∃ d, l = a ++ [d])
inductive All2 {α β : Type} (R : α → β → Prop) : List α → List β → Prop
  | nil : All2 R [] []
  | cons {a : α} {b : β} {l : List α} {m : List β} : R a b → All2 R l m → All2 R (a :: l) (b :: m)
theorem All2.app {α β : Type} {R : α → β → Prop} {a c : List α} {b d : List β} (h : All2 R a b) (k : All2 R c d) : All2 R (a ++ c) (b ++ d) := by
  induction h with
  | nil => exact k
  | cons r _ ih => exact .cons r ih
theorem All2.id {α : Type} {R : α → α → Prop} (h : ∀ a, R a a) : ∀ l : List α, All2 R l l
  | [] => .nil
  | a :: l => .cons (h a) (All2.id h l)
theorem All2.len {α β : Type} {R : α → β → Prop} {a : List α} {b : List β} (h : All2 R a b) : a.length = b.length := by
  induction h with
  | nil => rfl
  | cons _ _ ih => simp [ih]
/-- numbers changed, rounds and parts, leave and again: the same nesting -/
def sameSh : Ln → Ln → Prop
  | .round _, .round _ => True
  | .round _, .part _ => True
  | .part _, .round _ => True
  | .part _, .part _ => True
  | .leave _, .leave _ => True
  | .leave _, .again _ => True
  | .again _, .leave _ => True
  | .again _, .again _ => True
  | a, b => a = b
theorem sameSh.refl (l : Ln) : sameSh l l := by cases l <;> simp [sameSh]
end VL
namespace VL
open PySem PySem.Spec PyProof.Rows L2 VL
theorem wk_zipT {K : PySem.W.Frag} {ds es : List D} {a c : Addr} (hd1 : isFzL ds = true) (he1 : isFzL es = true) : Wk K (RZ.ItzT K a c) (zipD ds es) [.tup ds, .tup es] [.ref a, .ref c] := fun b σ H ε T Tv i hl I => by
  obtain ⟨G, F, Ft, J⟩ := id I
  obtain ⟨F1, F2, rfl, r1, r2⟩ := J.temps.split2 hl
  obtain ⟨v', vs', A, B, e1, rfl, ra, v2, vs2, A2, B2, e2, rfl, rb, rfl, rfl⟩ := r2
  cases e1
  cases e2
  obtain ⟨a', vs, e, s, r⟩ := ra
  cases e
  obtain ⟨c', us, e, s', r'⟩ := rb
  cases e
  have f1 := r.fz hd1
  have f2 := r'.fz he1
  subst f1 f2
  have s2 : SqT K H a vs := SqT.of (J.sub _ _ s)
  have s3 : SqT K H c us := SqT.of (J.sub _ _ s')
  refine ⟨fun d hd => ?_, fun h => ⟨vs, us, s2, s3, by rw [zipD_len] at h; rw [← r.len, ← r'.len]; omega⟩⟩
  obtain ⟨x, y, hx, hy, rfl⟩ := zipD_get hd
  obtain ⟨v, hv, rv⟩ := r.get hx
  obtain ⟨u, hu, ru⟩ := r'.get hy
  refine ⟨⟨vs, us, v, u, s2, s3, hv, hu⟩, fun z H' q => ?_⟩
  obtain ⟨p, w1, w2, rfl, hp, rfl, y1, y2⟩ := q
  have e1 := y1 vs s2
  rw [hv] at e1
  cases e1
  have e2 := y2 us s3
  rw [hu] at e2
  cases e2
  have J1 := J.push (rv.mono (H' := H) Sub.refl fun _ z => nomatch z)
  have J2 := J1.push (ru.mono (H' := H) Sub.refl fun _ z => nomatch z)
  have I2 : SI K b σ H ε ((T ++ [.tup ds, .tup es]) ++ [x, y]) ((Tv ++ [.ref a, .ref c]) ++ [v, u]) := ⟨G, F, _, by simpa only [List.append_assoc, List.cons_append, List.nil_append] using J2⟩
  have I3 := I2.newTup (lenApp hl rfl) hp
  simpa only [List.append_assoc] using I3
section
variable {X : Cv}
def viZipA (t : VTA) : VTA := fun N ε Q => t N ε fun ds ε1 => ∃ xs ys, (ds = [.lst false xs, .lst false ys] ∨ ds = [.tup xs, .tup ys] ∧ isFzL xs = true ∧ isFzL ys = true) ∧ Q (zipD xs ys) ε1
theorem vi_zipA {e e2 : Expr} {t : VTA} {p pos tpos : Pos} {elts : List Expr} {kk : Nat} (hg : Gl X.toCx "zip") (hm : X.mg "zip" = none) (ha : VA X [e, e2] [none, none] t)
    (hs : starEach [e, e2] X.env = (false, eval e X.env) :: starEach [e2] X.env := by rfl) (hpl : (backTo pos (starEach [e2] X.env)).any (·.1) = false := by rfl) : VI X (.Tuple elts kk tpos) (.Call (.Name "zip" p) [e, e2] [] pos) (viZipA t) := by
  obtain ⟨t', a1, a2⟩ := ha.ex
  refine ⟨fun W => RZ.iZipA X.K (t' W), fun W tk => RZ.pi_zipA hg hm (a1 W tk) hs hpl, fun b σ H ε T Tv W N Q Q' I q k x => ?_⟩
  refine a2 b σ H ε T Tv W N _ _ I q (fun ds vs ε1 H1 J l hh z => ?_) x
  obtain ⟨xs, ys, rfl | ⟨rfl, f1, f2⟩, z⟩ := z
  · obtain ⟨v, w, rfl⟩ := len2 l
    obtain ⟨G, F, F2, su, r, r'⟩ := J.last2 I.lenT
    obtain ⟨a, us, rfl, s, _, _⟩ := r
    obtain ⟨c, ws, rfl, s', _, _⟩ := r'
    exact ⟨a, c, us, ws, rfl, .inl ⟨su.sqL s, su.sqL s', k _ [.lst false xs, .lst false ys] [.ref a, .ref c] _ ε1 H1 J rfl wk_zip z⟩⟩
  · obtain ⟨v, w, rfl⟩ := len2 l
    obtain ⟨G, F, F2, su, r, r'⟩ := J.last2 I.lenT
    obtain ⟨a, us, rfl, s, _⟩ := r
    obtain ⟨c, ws, rfl, s', _⟩ := r'
    exact ⟨a, c, us, ws, rfl, .inr ⟨SqT.of (su _ _ s), SqT.of (su _ _ s'), k _ [.tup xs, .tup ys] [.ref a, .ref c] _ ε1 H1 J rfl (wk_zipT f1 f2) z⟩⟩
end
end VL
namespace VL
open PySem PySem.Spec PyProof.Rows L2 VL
/-- where a list goes -/
inductive Gs where
  | nil
  | leave (n : Int)
  | again (n : Int)
  | fin
  | on
abbrev Rs := Dds × Option Gs
def testD (d : Dds) (a : Opd) (s : Cs) (b : Opd) : Dds := ⟨d.mem, d.most, d.done ++ [.test (worthM d.mem a) s (worthM d.mem b) (holdsV s (worthM d.mem a) (worthM d.mem b))]⟩
inductive Opn where
  | sum (x : Cs) (a : Opd) (s : Cs) (b : Opd) (to : Nat)
  | test (a : Opd) (s : Cs) (b : Opd) (yes no : Nat)
  | stop
structure Cd where
  nx : Nat → Option Nat
  op : Nat → Opn
section
variable {c : Cd}
/-- in silence -/
def Sl (c : Cd) (p q : Nat) : Prop := ∃ n, itJ c.nx n p = some q
def Sl1 (c : Cd) (p q : Nat) : Prop := ∃ n, itJ c.nx (n + 1) p = some q
def Fol (c : Cd) (p q : Nat) : Prop := Sl c p q ∧ c.nx q = none
theorem Sl.refl {p : Nat} : Sl c p p := ⟨0, rfl⟩
theorem Sl.trans {p q r : Nat} (h : Sl c p q) (k : Sl c q r) : Sl c p r := by
  obtain ⟨n, h⟩ := h
  obtain ⟨m, k⟩ := k
  exact ⟨n + m, by rw [itJ_add h]; exact k⟩
theorem Sl1.sl {p q : Nat} (h : Sl1 c p q) : Sl c p q := let ⟨n, h⟩ := h; ⟨n + 1, h⟩
theorem Sl.then1 {p q r : Nat} (h : Sl c p q) (k : Sl1 c q r) : Sl1 c p r := by
  obtain ⟨n, h⟩ := h
  obtain ⟨m, k⟩ := k
  exact ⟨n + m, by rw [show n + m + 1 = n + (m + 1) by omega, itJ_add h]; exact k⟩
theorem it_stop {p q : Nat} (h : c.nx p = none) : ∀ {n : Nat}, itJ c.nx n p = some q → n = 0 ∧ q = p
  | 0, e => ⟨rfl, (Option.some.inj e).symm⟩
  | n + 1, e => by
    have e : (c.nx p).bind (itJ c.nx n) = some q := e
    rw [h] at e
    cases e
theorem Fol.one {p q r : Nat} (h : Fol c p q) (k : Fol c p r) : q = r := by
  obtain ⟨⟨n, h⟩, hq⟩ := h
  obtain ⟨⟨m, k⟩, hr⟩ := k
  rcases Nat.le_total n m with l | l
  · have e := itJ_add (m := m - n) h
    rw [show n + (m - n) = m by omega, k] at e
    exact (it_stop hq e.symm).2.symm
  · have e := itJ_add (m := n - m) k
    rw [show m + (n - m) = n by omega, h] at e
    exact (it_stop hr e.symm).2
theorem Fol.self {p : Nat} (h : c.nx p = none) : Fol c p p := ⟨.refl, h⟩
theorem Fol.back {p q r : Nat} (h : Sl c p q) (k : Fol c q r) : Fol c p r := ⟨h.trans k.1, k.2⟩
theorem Fol.on {p q r : Nat} (h : Sl c p q) (k : Fol c p r) : Fol c q r := by
  obtain ⟨n, h⟩ := h
  obtain ⟨⟨m, k⟩, hr⟩ := k
  rcases Nat.le_total n m with l | l
  · have e := itJ_add (m := m - n) h
    rw [show n + (m - n) = m by omega, k] at e
    exact ⟨⟨_, e.symm⟩, hr⟩
  · have e := itJ_add (m := n - m) k
    rw [show m + (n - m) = n by omega, h] at e
    rw [(it_stop hr e.symm).2]
    exact .self hr
/-- a run of code from deed to deed -/
inductive MG (c : Cd) : Nat → Nat → Mem → List Dd → Cs → Mem → Prop
  | ring {m p : Nat} {M : Mem} : (∀ q, ¬Fol c p q) → MG c m p M [] cOn M
  | fin {m p q : Nat} {M : Mem} : Fol c p q → c.op q = .stop → MG c m p M [] cEnd M
  | full {p q : Nat} {M : Mem} : Fol c p q → c.op q ≠ .stop → MG c 0 p M [] cOn M
  | fault {m p q : Nat} {x s : Cs} {a b : Opd} {t : Nat} {M : Mem} : Fol c p q → c.op q = .sum x a s b t → madeV s (worthM M a) (worthM M b) = none → MG c (m + 1) p M [] cFault M
  | sum {m p q t : Nat} {x s : Cs} {a b : Opd} {v : Int} {M M' : Mem} {ds : List Dd} {w : Cs} : Fol c p q → c.op q = .sum x a s b t → madeV s (worthM M a) (worthM M b) = some v →
      MG c m t (putM M x v) ds w M' → MG c (m + 1) p M (.sum x (worthM M a) s (worthM M b) v :: ds) w M'
  | test {m p q y n : Nat} {s : Cs} {a b : Opd} {M M' : Mem} {ds : List Dd} {w : Cs} : Fol c p q → c.op q = .test a s b y n →
      MG c m (if holdsV s (worthM M a) (worthM M b) = true then y else n) M ds w M' → MG c (m + 1) p M (.test (worthM M a) s (worthM M b) (holdsV s (worthM M a) (worthM M b)) :: ds) w M'
theorem MG.from {m p q : Nat} {M M1 : Mem} {ds : List Dd} {w : Cs} (s : Sl c p q) (h : MG c m q M ds w M1) : MG c m p M ds w M1 := by
  cases h with
  | ring h => exact .ring fun r k => h r (k.on s)
  | fin h h2 => exact .fin (.back s h) h2
  | full h h2 => exact .full (.back s h) h2
  | fault h h2 h3 => exact .fault (.back s h) h2 h3
  | sum h h2 h3 r => exact .sum (.back s h) h2 h3 r
  | test h h2 r => exact .test (.back s h) h2 r
theorem MG.one {m p : Nat} {M M1 M2 : Mem} {ds ds' : List Dd} {w w' : Cs} (h : MG c m p M ds w M1) (k : MG c m p M ds' w' M2) : ds = ds' ∧ w = w' ∧ M1 = M2 := by
  induction h generalizing ds' w' M2 with
  | ring h =>
    cases k with
    | ring _ => exact ⟨rfl, rfl, rfl⟩
    | fin e _ => exact (h _ e).elim
    | full e _ => exact (h _ e).elim
    | fault e _ _ => exact (h _ e).elim
    | sum e _ _ _ => exact (h _ e).elim
    | test e _ _ => exact (h _ e).elim
  | fin h h2 =>
    cases k with
    | ring e => exact (e _ h).elim
    | fin _ _ => exact ⟨rfl, rfl, rfl⟩
    | full e e2 => cases h.one e; exact (e2 h2).elim
    | fault e e2 _ => cases h.one e; rw [h2] at e2; cases e2
    | sum e e2 _ _ => cases h.one e; rw [h2] at e2; cases e2
    | test e e2 _ => cases h.one e; rw [h2] at e2; cases e2
  | full h h2 =>
    cases k with
    | ring e => exact (e _ h).elim
    | fin e e2 => cases h.one e; exact (h2 e2).elim
    | full _ _ => exact ⟨rfl, rfl, rfl⟩
  | fault h h2 h3 =>
    cases k with
    | ring e => exact (e _ h).elim
    | fin e e2 => cases h.one e; rw [h2] at e2; cases e2
    | fault _ _ _ => exact ⟨rfl, rfl, rfl⟩
    | sum e e2 e3 _ => cases h.one e; rw [h2] at e2; cases e2; rw [h3] at e3; cases e3
    | test e e2 _ => cases h.one e; rw [h2] at e2; cases e2
  | sum h h2 h3 _ ih =>
    cases k with
    | ring e => exact (e _ h).elim
    | fin e e2 => cases h.one e; rw [h2] at e2; cases e2
    | fault e e2 e3 => cases h.one e; rw [h2] at e2; cases e2; rw [h3] at e3; cases e3
    | sum e e2 e3 r =>
      cases h.one e; rw [h2] at e2; cases e2; rw [h3] at e3; cases e3
      obtain ⟨rfl, rfl, rfl⟩ := ih r
      exact ⟨rfl, rfl, rfl⟩
    | test e e2 _ => cases h.one e; rw [h2] at e2; cases e2
  | test h h2 _ ih =>
    cases k with
    | ring e => exact (e _ h).elim
    | fin e e2 => cases h.one e; rw [h2] at e2; cases e2
    | fault e e2 e3 => cases h.one e; rw [h2] at e2; cases e2
    | sum e e2 e3 r => cases h.one e; rw [h2] at e2; cases e2
    | test e e2 r =>
      cases h.one e; rw [h2] at e2; cases e2
      obtain ⟨rfl, rfl, rfl⟩ := ih r
      exact ⟨rfl, rfl, rfl⟩
mutual
def At (c : Cd) (lv ag : Int → Nat) : Nat → Fm → Nat → Prop
  | p, .sum x a s b, q => c.nx p = none ∧ ∃ t, c.op p = .sum x a s b t ∧ Sl c t q
  | p, .choice a s b Y Z e, q => c.nx p = none ∧ ∃ y n, c.op p = .test a s b y n ∧ AtL c lv ag y Y q ∧ (e = true → AtL c lv ag n Z q) ∧ (e = false → Sl c n q)
  | p, .round n B, q => Sl c p (ag n) ∧ (∃ r, AtL c lv ag (ag n) B r ∧ Sl1 c r (ag n)) ∧ Sl c (lv n) q
  | p, .part n B, q => (∃ b, Sl c p b ∧ AtL c lv ag b B q) ∧ Sl c (lv n) q
  | p, .leave n, _ => Sl1 c p (lv n)
  | p, .again n, _ => Sl1 c p (ag n)
  | p, .fin, _ => c.nx p = none ∧ c.op p = .stop
def AtL (c : Cd) (lv ag : Int → Nat) : Nat → List Fm → Nat → Prop
  | p, [], q => Sl c p q
  | p, f :: fs, q => ∃ r, At c lv ag p f r ∧ AtL c lv ag r fs q
end
def Dds.rem (d : Dds) : Nat := (d.most - (d.done.length : Int)).toNat
def To (c : Cd) (d d' : Dds) (p t : Nat) (ds : List Dd) : Prop :=
  (∀ ds2 w M2, MG c d'.rem t d'.mem ds2 w M2 → MG c d.rem p d.mem (ds ++ ds2) w M2) ∧ (ds = [] → d'.mem = d.mem ∧ Sl c p t)
def To1 (c : Cd) (d d' : Dds) (p t : Nat) (ds : List Dd) : Prop :=
  (∀ ds2 w M2, MG c d'.rem t d'.mem ds2 w M2 → MG c d.rem p d.mem (ds ++ ds2) w M2) ∧ (ds = [] → d'.mem = d.mem ∧ Sl1 c p t)
def Out (c : Cd) (lv ag : Int → Nat) (d d' : Dds) (p q : Nat) (ds : List Dd) : Option Gs → Prop
  | none => MG c d.rem p d.mem ds cFault d'.mem
  | some .on => MG c d.rem p d.mem ds cOn d'.mem
  | some .fin => MG c d.rem p d.mem ds cEnd d'.mem
  | some .nil => To c d d' p q ds
  | some (.leave n) => To1 c d d' p (lv n) ds
  | some (.again n) => To1 c d d' p (ag n) ds
structure Grow (d d' : Dds) (ds : List Dd) : Prop where
  done : d'.done = d.done ++ ds
  most : d'.most = d.most
  fit : ds = [] ∨ ((d.done ++ ds).length : Int) ≤ d.most
theorem Grow.refl (d : Dds) : Grow d d [] := ⟨by simp, rfl, .inl rfl⟩
theorem Grow.trans {d1 d2 d3 : Dds} {a b : List Dd} (h : Grow d1 d2 a) (k : Grow d2 d3 b) : Grow d1 d3 (a ++ b) where
  done := by rw [k.done, h.done, List.append_assoc]
  most := k.most.trans h.most
  fit := by
    rcases k.fit with e | f
    · subst e
      rw [List.append_nil]
      exact h.fit
    · right
      rw [h.done, h.most, List.append_assoc] at f
      exact f
theorem Grow.rem {d d' : Dds} {ds : List Dd} (h : Grow d d' ds) : d'.rem + ds.length = d.rem := by
  unfold Dds.rem
  rw [h.most, h.done]
  rcases h.fit with e | f
  · subst e; simp
  · simp at f ⊢; omega
def Simd (c : Cd) (lv ag : Int → Nat) (d : Dds) (p q : Nat) (r : Rs) : Prop := ∃ ds, Grow d r.1 ds ∧ Out c lv ag d r.1 p q ds r.2
theorem To.trans {d1 d2 d3 : Dds} {p q r : Nat} {a b : List Dd} (h : To c d1 d2 p q a) (k : To c d2 d3 q r b) : To c d1 d3 p r (a ++ b) :=
  ⟨fun ds2 w M2 g => by rw [List.append_assoc]; exact h.1 _ _ _ (k.1 _ _ _ g), fun e => by
    obtain ⟨rfl, rfl⟩ := List.append_eq_nil_iff.mp e
    exact ⟨(k.2 rfl).1.trans (h.2 rfl).1, (h.2 rfl).2.trans (k.2 rfl).2⟩⟩
theorem To.trans1 {d1 d2 d3 : Dds} {p q r : Nat} {a b : List Dd} (h : To c d1 d2 p q a) (k : To1 c d2 d3 q r b) : To1 c d1 d3 p r (a ++ b) :=
  ⟨fun ds2 w M2 g => by rw [List.append_assoc]; exact h.1 _ _ _ (k.1 _ _ _ g), fun e => by
    obtain ⟨rfl, rfl⟩ := List.append_eq_nil_iff.mp e
    exact ⟨(k.2 rfl).1.trans (h.2 rfl).1, (h.2 rfl).2.then1 (k.2 rfl).2⟩⟩
theorem To.sl {d : Dds} {p q : Nat} (h : Sl c p q) : To c d d p q [] := ⟨fun _ _ _ g => g.from h, fun _ => ⟨rfl, h⟩⟩
theorem To1.sl {d : Dds} {p q : Nat} (h : Sl1 c p q) : To1 c d d p q [] := ⟨fun _ _ _ g => g.from h.sl, fun _ => ⟨rfl, h⟩⟩
section
variable {lv ag : Int → Nat}
theorem Simd.pre {d1 d2 : Dds} {p q z : Nat} {r : Rs} {a : List Dd} (g : Grow d1 d2 a) (h : To c d1 d2 p q a) (k : Simd c lv ag d2 q z r) : Simd c lv ag d1 p z r := by
  obtain ⟨ds, g2, o⟩ := k
  refine ⟨a ++ ds, g.trans g2, ?_⟩
  obtain ⟨d3, e⟩ := r
  cases e with
  | none => exact h.1 _ _ _ o
  | some e =>
    cases e with
    | on => exact h.1 _ _ _ o
    | fin => exact h.1 _ _ _ o
    | nil => exact h.trans o
    | leave n => exact h.trans1 o
    | again n => exact h.trans1 o
end
end
end VL
namespace VL
open PySem PySem.Spec PyProof.Rows L2 VL
abbrev cHome : Cs := [104, 111, 109, 101]
/-- marks: what stands where -/
abbrev Mks := Cs → Int → Option Nat
def Mks.v (μ : Mks) (c : Cs) (i : Int) : Nat := (μ c i).getD 0
theorem Mks.v_of {μ : Mks} {c : Cs} {i : Int} {n : Nat} (h : μ c i = some n) : μ.v c i = n := by unfold Mks.v; rw [h]; rfl
end VL
namespace VL
open PySem PySem.Spec PyProof.Rows L2 VL
def CtxW (L : List Ln) (μ : Mks) (W : List Int) : Prop := ∀ n ∈ W, ∃ p q, μ cHome n = some p ∧ μ cDone (p : Int) = some q ∧ p < L.length ∧ q < L.length
theorem CtxW.snoc {L : List Ln} {μ : Mks} {W : List Int} (h : CtxW L μ W) {n : Int} {p q : Nat} (h1 : μ cHome n = some p) (h2 : μ cDone (p : Int) = some q) (h3 : p < L.length) (h4 : q < L.length) : CtxW L μ (W ++ [n]) := fun m hm => by
  rcases List.mem_append.mp hm with hm | hm
  · exact h m hm
  · rw [List.mem_singleton.mp hm]; exact ⟨p, q, h1, h2, h3, h4⟩
mutual
theorem gen_sndF : ∀ (f : Fm) {st z : List Tk} {M : List Ln} {W R U : List Int}, RunsP okT st (lnsF f ++ M) z → (∀ n, home st n → n ∈ W) → (∀ n, Tk.rnd n ∈ st → n ∈ R) → (∀ n ∈ homes (lnsF f), n ∉ U ∧ 0 ≤ n ∧ n ≤ 9999) → (homes (lnsF f)).Nodup →
    ∃ V, sndF W R U f = some V ∧ RunsP okT st M z ∧ ∀ n ∈ V, n ∈ U ∨ n ∈ homes (lnsF f)
  | .sum x a s b, st, z, M, W, R, U, r, hw, hr, hu, nd => by
    rw [lnsF] at r
    obtain ⟨st1, e, p, r⟩ := r.inv
    cases e
    exact ⟨U, by rw [sndF], r, fun n h => .inl h⟩
  | .fin, st, z, M, W, R, U, r, hw, hr, hu, nd => by
    rw [lnsF] at r
    obtain ⟨st1, e, p, r⟩ := r.inv
    cases e
    exact ⟨U, by rw [sndF], r, fun n h => .inl h⟩
  | .leave n, st, z, M, W, R, U, r, hw, hr, hu, nd => by
    rw [lnsF] at r
    obtain ⟨st1, e, p, r⟩ := r.inv
    cases e
    exact ⟨U, by rw [sndF, if_pos (hw n p)], r, fun n h => .inl h⟩
  | .again n, st, z, M, W, R, U, r, hw, hr, hu, nd => by
    rw [lnsF] at r
    obtain ⟨st1, e, p, r⟩ := r.inv
    cases e
    exact ⟨U, by rw [sndF, if_pos (hr n p)], r, fun n h => .inl h⟩
  | .round n B, st, z, M, W, R, U, r, hw, hr, hu, nd => by
    have el : lnsF (.round n B) = .round n :: (lnsL B ++ [.done]) := by rw [lnsF]
    have eh : homes (lnsF (.round n B)) = n :: homes (lnsL B) := by rw [el]; show n :: homes (lnsL B ++ [.done]) = _; rw [homes_app]; simp [homes]
    rw [el, List.cons_append, List.append_assoc] at r
    rw [eh] at hu nd ⊢
    obtain ⟨st1, e, p, r⟩ := r.inv
    cases e
    obtain ⟨nd1, nd2⟩ := List.nodup_cons.mp nd
    obtain ⟨u1, u2, u3⟩ := hu n List.mem_cons_self
    obtain ⟨V, h1, r, h2⟩ := gen_sndL B (W := W ++ [n]) (R := R ++ [n]) (U := U ++ [n]) r (fun m hm => by
      rcases hm with hm | hm
      · rcases List.mem_cons.mp hm with e | hm
        · cases e; simp
        · exact List.mem_append_left _ (hw m (.inl hm))
      · rcases List.mem_cons.mp hm with e | hm
        · cases e
        · exact List.mem_append_left _ (hw m (.inr hm))) (fun m hm => by
      rcases List.mem_cons.mp hm with e | hm
      · cases e; simp
      · exact List.mem_append_left _ (hr m hm)) (fun m hm => ⟨fun hmu => by
        rcases List.mem_append.mp hmu with hmu | hmu
        · exact (hu m (List.mem_cons_of_mem _ hm)).1 hmu
        · rw [List.mem_singleton.mp hmu] at hm; exact nd1 hm, (hu m (List.mem_cons_of_mem _ hm)).2⟩) nd2
    obtain ⟨st1, e, p, r⟩ := r.inv
    cases e
    refine ⟨V, ?_, r, fun m hm => ?_⟩
    · rw [sndF, if_neg (fun z => by rcases z with z | z | z; exact u1 z; omega; omega)]
      exact h1
    · rcases h2 m hm with h | h
      · rcases List.mem_append.mp h with h | h
        · exact .inl h
        · exact .inr (by rw [List.mem_singleton.mp h]; exact List.mem_cons_self)
      · exact .inr (List.mem_cons_of_mem _ h)
  | .part n B, st, z, M, W, R, U, r, hw, hr, hu, nd => by
    have el : lnsF (.part n B) = .part n :: (lnsL B ++ [.done]) := by rw [lnsF]
    have eh : homes (lnsF (.part n B)) = n :: homes (lnsL B) := by rw [el]; show n :: homes (lnsL B ++ [.done]) = _; rw [homes_app]; simp [homes]
    rw [el, List.cons_append, List.append_assoc] at r
    rw [eh] at hu nd ⊢
    obtain ⟨st1, e, p, r⟩ := r.inv
    cases e
    obtain ⟨nd1, nd2⟩ := List.nodup_cons.mp nd
    obtain ⟨u1, u2, u3⟩ := hu n List.mem_cons_self
    obtain ⟨V, h1, r, h2⟩ := gen_sndL B (W := W ++ [n]) (R := R) (U := U ++ [n]) r (fun m hm => by
      rcases hm with hm | hm
      · rcases List.mem_cons.mp hm with e | hm
        · cases e
        · exact List.mem_append_left _ (hw m (.inl hm))
      · rcases List.mem_cons.mp hm with e | hm
        · cases e; simp
        · exact List.mem_append_left _ (hw m (.inr hm))) (fun m hm => by
      rcases List.mem_cons.mp hm with e | hm
      · cases e
      · exact hr m hm) (fun m hm => ⟨fun hmu => by
        rcases List.mem_append.mp hmu with hmu | hmu
        · exact (hu m (List.mem_cons_of_mem _ hm)).1 hmu
        · rw [List.mem_singleton.mp hmu] at hm; exact nd1 hm, (hu m (List.mem_cons_of_mem _ hm)).2⟩) nd2
    obtain ⟨st1, e, p, r⟩ := r.inv
    cases e
    refine ⟨V, ?_, r, fun m hm => ?_⟩
    · rw [sndF, if_neg (fun z => by rcases z with z | z | z; exact u1 z; omega; omega)]
      exact h1
    · rcases h2 m hm with h | h
      · rcases List.mem_append.mp h with h | h
        · exact .inl h
        · exact .inr (by rw [List.mem_singleton.mp h]; exact List.mem_cons_self)
      · exact .inr (List.mem_cons_of_mem _ h)
  | .choice i s j Y Z false, st, z, M, W, R, U, r, hw, hr, hu, nd => by
    have el : lnsF (.choice i s j Y Z false) = .iff i s j :: (lnsL Y ++ [.done]) := by rw [lnsF]; rfl
    have eh : homes (lnsF (.choice i s j Y Z false)) = homes (lnsL Y) := by rw [el]; show homes (lnsL Y ++ [.done]) = _; rw [homes_app]; simp [homes]
    rw [el, List.cons_append, List.append_assoc] at r
    rw [eh] at hu nd ⊢
    obtain ⟨st1, e, p, r⟩ := r.inv
    cases e
    obtain ⟨V, h1, r, h2⟩ := gen_sndL Y (W := W) (R := R) (U := U) r (fun m hm => by
      rcases hm with hm | hm
      · exact hw m (.inl (by simpa using hm))
      · exact hw m (.inr (by simpa using hm))) (fun m hm => hr m (by simpa using hm)) hu nd
    obtain ⟨st1, e, p, r⟩ := r.inv
    cases e
    exact ⟨V, by rw [sndF, h1]; rfl, r, h2⟩
  | .choice i s j Y Z true, st, z, M, W, R, U, r, hw, hr, hu, nd => by
    have el : lnsF (.choice i s j Y Z true) = .iff i s j :: (lnsL Y ++ .els :: (lnsL Z ++ [.done])) := by rw [lnsF]; rfl
    have eh : homes (lnsF (.choice i s j Y Z true)) = homes (lnsL Y) ++ homes (lnsL Z) := by
      rw [el]
      show homes (lnsL Y ++ .els :: (lnsL Z ++ [.done])) = _
      rw [homes_app]
      show homes (lnsL Y) ++ homes (lnsL Z ++ [.done]) = _
      rw [homes_app]
      simp [homes]
    rw [el, List.cons_append, List.append_assoc, List.cons_append, List.append_assoc] at r
    rw [eh] at hu nd ⊢
    obtain ⟨nd1, nd2, nd3⟩ := List.nodup_append.mp nd
    obtain ⟨st1, e, p, r⟩ := r.inv
    cases e
    obtain ⟨V, h1, r, h2⟩ := gen_sndL Y (W := W) (R := R) (U := U) r (fun m hm => by
      rcases hm with hm | hm
      · exact hw m (.inl (by simpa using hm))
      · exact hw m (.inr (by simpa using hm))) (fun m hm => hr m (by simpa using hm)) (fun m hm => hu m (List.mem_append_left _ hm)) nd1
    obtain ⟨st1, e, p, r⟩ := r.inv
    cases e
    obtain ⟨V2, h3, r, h4⟩ := gen_sndL Z (W := W) (R := R) (U := V) r (fun m hm => by
      rcases hm with hm | hm
      · exact hw m (.inl (by simpa using hm))
      · exact hw m (.inr (by simpa using hm))) (fun m hm => hr m (by simpa using hm)) (fun m hm => ⟨fun hv => by
        rcases h2 m hv with h | h
        · exact (hu m (List.mem_append_right _ hm)).1 h
        · exact nd3 m h m hm rfl, (hu m (List.mem_append_right _ hm)).2⟩) nd2
    obtain ⟨st1, e, p, r⟩ := r.inv
    cases e
    refine ⟨V2, by rw [sndF, h1]; exact h3, r, fun m hm => ?_⟩
    rcases h4 m hm with h | h
    · rcases h2 m h with h | h
      · exact .inl h
      · exact .inr (List.mem_append_left _ h)
    · exact .inr (List.mem_append_right _ h)
theorem gen_sndL : ∀ (F : List Fm) {st z : List Tk} {M : List Ln} {W R U : List Int}, RunsP okT st (lnsL F ++ M) z → (∀ n, home st n → n ∈ W) → (∀ n, Tk.rnd n ∈ st → n ∈ R) → (∀ n ∈ homes (lnsL F), n ∉ U ∧ 0 ≤ n ∧ n ≤ 9999) → (homes (lnsL F)).Nodup →
    ∃ V, sndL W R U F = some V ∧ RunsP okT st M z ∧ ∀ n ∈ V, n ∈ U ∨ n ∈ homes (lnsL F)
  | [], st, z, M, W, R, U, r, hw, hr, hu, nd => by
    rw [lnsL] at r
    exact ⟨U, by rw [sndL], r, fun n h => .inl h⟩
  | f :: F, st, z, M, W, R, U, r, hw, hr, hu, nd => by
    rw [lnsL, List.append_assoc] at r
    rw [lnsL, homes_app] at hu nd ⊢
    obtain ⟨nd1, nd2, nd3⟩ := List.nodup_append.mp nd
    obtain ⟨V, h1, r, h2⟩ := gen_sndF f (W := W) (R := R) (U := U) r hw hr (fun m hm => hu m (List.mem_append_left _ hm)) nd1
    obtain ⟨V2, h3, r, h4⟩ := gen_sndL F (W := W) (R := R) (U := V) r hw hr (fun m hm => ⟨fun hv => by
        rcases h2 m hv with h | h
        · exact (hu m (List.mem_append_right _ hm)).1 h
        · exact nd3 m h m hm rfl, (hu m (List.mem_append_right _ hm)).2⟩) nd2
    refine ⟨V2, by rw [sndL, h1]; exact h3, r, fun m hm => ?_⟩
    rcases h4 m hm with h | h
    · rcases h2 m h with h | h
      · exact .inl h
      · exact .inr (List.mem_append_left _ h)
    · exact .inr (List.mem_append_right _ h)
end
theorem gen_sound {F : List Fm} (h : GenOk (lnsL F)) : sndL [] [] [] F ≠ none := by
  obtain ⟨V, h1, _⟩ := gen_sndL F (M := []) (W := []) (R := []) (U := []) (by rw [List.append_nil]; exact h.runs) (fun n hn => by rcases hn with hn | hn <;> cases hn) (fun n hn => by cases hn) (fun n hn => ⟨fun z => (nomatch z), h.rng n hn⟩) h.nd
  rw [h1]
  exact fun z => nomatch z
end VL
namespace VL
open PySem PySem.Spec PyProof.Rows L2 VL
def gsD : Gs → D
  | .nil => .non
  | .leave n => .tup [.str cLeave, .int n]
  | .again n => .tup [.str cAgain, .int n]
  | .fin => .tup [.str cEnd]
  | .on => .tup [.str cOn]
/-- small enough -/
structure SOk (d : Dds) : Prop where
  mem : MemB (61 + d.done.length) d.mem
  few : d.mem.length ≤ 10 + d.done.length
  done : d.done.length ≤ 180
  most : d.most ≤ 180
/-- a line whose numbers are bounded -/
def LnB : Ln → Prop
  | .sum _ a _ b => OpB 61 a ∧ OpB 61 b
  | _ => True
end VL
namespace VL
open PySem PySem.Spec PyProof.Rows L2 VL
end VL
namespace VL
open PySem PySem.Spec PyProof.Rows L2 VL
def RunPre (d : Dds) (L : List Ln) : Prop := SOk d ∧ d.rem < 200 ∧ ∀ l ∈ L, LnB l
/-- told by what it runs to -/
def RsOut (o : Rs) (f : Dds → List D) (A : D → List D → Prop) (B : Value → D → List D → Prop) : Prop := match o with
  | (d', some g) => A (gsD g) (f d')
  | (d', none) => B (.type "ByNought") .non (f d')
theorem RsOut.mono {o : Rs} {f : Dds → List D} {A A' : D → List D → Prop} {B B' : Value → D → List D → Prop} (hA : ∀ r l, A r l → A' r l) (hB : ∀ c r l, B c r l → B' c r l) (q : RsOut o f A B) : RsOut o f A' B' := by
  obtain ⟨d', g⟩ := o
  cases g with
  | none => exact hB _ _ _ q
  | some g => exact hA _ _ q
theorem RsOut.of {o : Rs} {f : Dds → List D} {A : D → List D → Prop} {B : Value → D → List D → Prop} (q1 : ∀ d' g, o = (d', some g) → A (gsD g) (f d')) (q2 : ∀ d', o = (d', none) → B (.type "ByNought") .non (f d')) : RsOut o f A B := by
  obtain ⟨d', g⟩ := o
  cases g with
  | none => exact q2 d' rfl
  | some g => exact q1 d' g rfl
theorem RsOut.yes {o : Rs} {f : Dds → List D} {A : D → List D → Prop} {B : Value → D → List D → Prop} (q : RsOut o f A B) {d' : Dds} {g : Gs} (e : o = (d', some g)) : A (gsD g) (f d') := by
  subst e
  exact q
theorem RunPre.mono {d : Dds} {L M : List Ln} (h : RunPre d L) (s : ∀ l ∈ M, l ∈ L) : RunPre d M := ⟨h.1, h.2.1, fun l hl => h.2.2 l (s l hl)⟩
theorem RunPre.on {d d' : Dds} {L M : List Ln} {ds : List Dd} (h : RunPre d L) (g : Grow d d' ds) (o : SOk d') (s : ∀ l ∈ M, l ∈ L) : RunPre d' M := ⟨o, by have := g.rem; have := h.2.1; omega, fun l hl => h.2.2 l (s l hl)⟩
end VL
namespace VL
open PySem PySem.Spec PyProof.Rows L2 VL
def keyCI (c : Cs) (i : Int) : List Kc := [.inr c, .inl i]
structure RepM (μ : Mks) (ks : List (List Kc)) (js : List Nat) : Prop where
  len : ks.length = js.length
  at_ : ∀ c i, ((kIx ks (keyCI c i)).bind fun j => js[j]?) = μ c i
theorem RepM.nil : RepM (fun _ _ => none) [] [] := ⟨rfl, fun _ _ => rfl⟩
end VL
namespace VL
open PySem PySem.Spec PyProof.Rows L2 VL
/-- nothing else is changed -/
structure FrM (μ μ' : Mks) (p q : Nat) (hs : List Int) : Prop where
  pos : ∀ c, c ≠ cHome → ∀ k : Nat, (k < p ∨ q ≤ k) → μ' c (k : Int) = μ c (k : Int)
  hm : ∀ n, n ∉ hs → μ' cHome n = μ cHome n
theorem FrM.refl {μ : Mks} {p q : Nat} {hs : List Int} : FrM μ μ p q hs := ⟨fun _ _ _ _ => rfl, fun _ _ => rfl⟩
theorem FrM.trans {μ1 μ2 μ3 : Mks} {p q r s : Nat} {a b : List Int} (h : FrM μ1 μ2 p q a) (k : FrM μ2 μ3 r s b) {P Q : Nat} {hs : List Int} (h1 : P ≤ p) (h2 : q ≤ Q) (h3 : P ≤ r) (h4 : s ≤ Q) (h5 : ∀ n ∈ a, n ∈ hs) (h6 : ∀ n ∈ b, n ∈ hs) : FrM μ1 μ3 P Q hs :=
  ⟨fun c hc i hi => by rw [k.pos c hc i (by omega), h.pos c hc i (by omega)], fun n hn => by rw [k.hm n (fun z => hn (h6 n z)), h.hm n (fun z => hn (h5 n z))]⟩
end VL
namespace VL
open PySem PySem.Spec PyProof.Rows L2 VL
end VL
namespace VL
open PySem PySem.Spec PyProof.Rows L2 VL
section
variable {K : PySem.W.Frag}
theorem strs_rp {G H : Hp} : ∀ ns : List Cs, RpL K G H (strsD ns) ((ns.map toS).map V.str) []
  | [] => ⟨rfl, rfl⟩
  | n :: ns => ⟨.str (toS n), (ns.map toS).map V.str, [], [], rfl, rfl, ⟨rfl, rfl⟩, strs_rp ns⟩
end
/-- a def whose last parameter, of the name y, is named by the asker -/
structure Fk (P : Program) (w : World) (K : PySem.W.Frag) (mg : Str → Option Value) (base : Heap) (x y : Str) (k n : Nat) (vsp : VSp) : Prop where
  ex : ∃ f fd ps, mg x = some (.ref f) ∧ PySem.W.keepIn K (.ref f) = true ∧ KBn K fd ps (n - 1) [y] (fun us ws => us ++ ws) (fun vs zs => vs ++ zs) ∧ FnOk P w K mg base (VL.CX P w) k f fd ps (Lift K n vsp)
/-- a def whose last parameter has a number as default and is named by some askers -/
structure Fdk (P : Program) (w : World) (K : PySem.W.Frag) (mg : Str → Option Value) (base : Heap) (x y : Str) (z : Int) (k n : Nat) (vsp : VSp) : Prop where
  ex : ∃ f fd ps, mg x = some (.ref f) ∧ PySem.W.keepIn K (.ref f) = true ∧ Binds K fd ps [] ∧ (∃ ds, Vals [.int z] ds ∧ Binds K fd ps ds) ∧ KBn K fd ps (n - 1) [y] (fun us ws => us ++ ws) (fun vs zs => vs ++ zs) ∧ FnOk P w K mg base (VL.CX P w) k f fd ps (Lift K n vsp)
theorem Fdk.d {P w K mg base x y z k n vsp} (F : Fdk P w K mg base x y z k n vsp) : Fd P w K mg base x z k n vsp := let ⟨f, fd, ps, a, b, c, d, _, e⟩ := F.ex; ⟨f, fd, ps, a, b, c, d, e⟩
theorem Fdk.k {P w K mg base x y z k n vsp} (F : Fdk P w K mg base x y z k n vsp) : Fk P w K mg base x y k n vsp := let ⟨f, fd, ps, a, b, _, _, c, e⟩ := F.ex; ⟨f, fd, ps, a, b, c, e⟩
section
variable {P : Program} {w : World} {K : PySem.W.Frag} {mg : Str → Option Value} {base : Heap} {x : Str} {st : Stmt} {N ps : List Str} {κ : List Bool} {k n : Nat} {vsp : VSp} {t : VTS}
theorem Fdk.make {z : Int} {y : Str} (hF : ∃ f fd, mg x = some (.ref f) ∧ FunD K x x (defArgs st) (defBody st) (defScope st) [.int z] [] f fd) (S : FnScope N ps (defScope st))
    (hb : ∀ {f fd}, FunD K x x (defArgs st) (defBody st) (defScope st) [.int z] [] f fd → (∃ ds, Vals [] ds ∧ Binds K fd ps ds) ∧ (∃ ds, Vals [.int z] ds ∧ Binds K fd ps ds) ∧ KBn K fd ps (n - 1) [y] (fun us ws => us ++ ws) (fun vs zs => vs ++ zs)) (hn : ps.length = n) (hN : n ≤ N.length)
    (hbody : ∀ (f : Addr) (cdv : Value) (A : Around) (outer : List Env) (s : Shared) (H : Hp) (E : XK), Room k (A.deeper (envOfC x (defScope st) s.heap.objs.size f cdv)) → VSs (bodyX P w K mg base N κ x (defScope st) f cdv A outer s H E) (defBody st) t)
    (mo : Mono vsp) (rd : Rd n κ N.length vsp t) : Fdk P w K mg base x y z (k + 1) n vsp := by
  obtain ⟨f, fd, h1, F⟩ := hF
  obtain ⟨⟨d0, v0, b0⟩, b1, b2⟩ := hb F
  cases v0
  exact ⟨f, fd, ps, h1, F.kp, b0, b1, b2, fn_ok F S hn hN (hbody f) mo rd⟩
end
end VL
namespace VL
open PySem PySem.Spec PyProof.Rows L2 VL
def osR (rs : List Rw) : List Nat := orderAt (glOf (rawOf rs)) (rawOf rs).length (comeTo rs 0)
theorem osR_ok {rs : List Rw} (R : RwOk rs) : OrdOk (glOf (rawOf rs)) (rawOf rs).length (comeTo rs 0) (osR rs) :=
  order_ok (by rw [rawOf_len]; exact come_lt R R.pos) fun x hx g hg => by
    obtain ⟨h1, _⟩ := raw_ok R
    unfold glOf at hg
    rw [List.getElem?_eq_getElem hx] at hg
    exact h1 _ (List.getElem_mem hx) g hg
theorem os_first {rs : List Rw} (R : RwOk rs) : comeTo rs 0 ∈ osR rs ∧ (osR rs).idxOf (comeTo rs 0) = 0 := by
  have h := (osR_ok R).head
  cases e : osR rs with
  | nil => rw [e] at h; cases h
  | cons a t =>
    rw [e] at h
    cases h
    exact ⟨List.mem_cons_self, by simp⟩
end VL
namespace VL
open PySem PySem.Spec PyProof.Rows L2 VL
structure KeysIn (nm : List Cs) (M : Mem) : Prop where
  nd : (M.map (·.1)).Nodup
  sub : ∀ s ∈ M.map (·.1), s ∈ nm
theorem nd_sub_len {α : Type} [DecidableEq α] : ∀ {xs ys : List α}, xs.Nodup → (∀ x ∈ xs, x ∈ ys) → xs.length ≤ ys.length
  | [], ys, _, _ => Nat.zero_le _
  | x :: xs, ys, nd, h => by
    obtain ⟨h1, h2⟩ := List.nodup_cons.mp nd
    have hx : x ∈ ys := h x List.mem_cons_self
    have := nd_sub_len (xs := xs) (ys := ys.erase x) h2 fun y hy => (List.mem_erase_of_ne (fun e => h1 (by rw [← e]; exact hy))).mpr (h y (List.mem_cons_of_mem _ hy))
    rw [List.length_erase_of_mem hx] at this
    have lp : 0 < ys.length := List.length_pos_of_mem hx
    rw [List.length_cons]
    omega
theorem KeysIn.len {nm : List Cs} {M : Mem} (h : KeysIn nm M) : M.length ≤ nm.length := by
  have := nd_sub_len h.nd h.sub
  simpa using this
theorem KeysIn.nil {nm : List Cs} : KeysIn nm [] := ⟨List.nodup_nil, fun _ h => nomatch h⟩
end VL
namespace VL
open PySem PySem.Spec PyProof.Rows L2 VL
end VL
namespace VL
open PySem PySem.Spec PyProof.Rows L2 VL
abbrev cYes : Cs := [121, 101, 115]
/-- a row whose goals are told by keys -/
inductive Sr where
  | sum (x : Cs) (a : Opd) (s : Cs) (b : Opd)
  | test (a : Opd) (s : Cs) (b : Opd) (h : Nat)
  | jump (c : Cs) (i : Int)
  | fin
def DefS (S : List Sr) (μ : Mks) (k : Nat) : Prop := match S[k]? with
  | some (.jump c i) => ∃ q, μ c i = some q ∧ q < S.length
  | some (.test _ _ _ h) => ∃ q, μ cYes (h : Int) = some q ∧ q < S.length
  | _ => True
def CtxS (S : List Sr) (μ : Mks) (c : Cs) (W : List Int) : Prop := ∀ n ∈ W, ∃ q, μ c n = some q ∧ q < S.length
theorem CtxS.snoc {S : List Sr} {μ : Mks} {c : Cs} {W : List Int} (h : CtxS S μ c W) {n : Int} {q : Nat} (h1 : μ c n = some q) (h2 : q < S.length) : CtxS S μ c (W ++ [n]) := fun m hm => by
  rcases List.mem_append.mp hm with hm | hm
  · exact h m hm
  · rw [List.mem_singleton.mp hm]; exact ⟨q, h1, h2⟩
end VL
namespace VL
open PySem PySem.Spec PyProof.Rows L2 VL
/-- nothing else is changed -/
structure FrR (μ μ' : Mks) (p q : Nat) (hs : List Int) : Prop where
  pos : ∀ c, c ≠ cLeave → c ≠ cAgain → ∀ k : Nat, (k < p ∨ q ≤ k) → μ' c (k : Int) = μ c (k : Int)
  hm : ∀ c, (c = cLeave ∨ c = cAgain) → ∀ n, n ∉ hs → μ' c n = μ c n
theorem FrR.refl {μ : Mks} {p q : Nat} {hs : List Int} : FrR μ μ p q hs := ⟨fun _ _ _ _ _ => rfl, fun _ _ _ _ => rfl⟩
theorem FrR.trans {μ1 μ2 μ3 : Mks} {p q r s : Nat} {a b : List Int} (h : FrR μ1 μ2 p q a) (k : FrR μ2 μ3 r s b) {P Q : Nat} {hs : List Int} (h1 : P ≤ p) (h2 : q ≤ Q) (h3 : P ≤ r) (h4 : s ≤ Q) (h5 : ∀ n ∈ a, n ∈ hs) (h6 : ∀ n ∈ b, n ∈ hs) : FrR μ1 μ3 P Q hs where
  pos c c1 c2 n hn := (k.pos c c1 c2 n (by omega)).trans (h.pos c c1 c2 n (by omega))
  hm c hc n hn := (k.hm c hc n fun z => hn (h6 n z)).trans (h.hm c hc n fun z => hn (h5 n z))
section
variable {S : List Sr} {μ : Mks}
theorem DefS.jump {k : Nat} {c : Cs} {i : Int} (d : DefS S μ k) (h : S[k]? = some (.jump c i)) : μ.v c i < S.length := by
  unfold DefS at d
  rw [h] at d
  obtain ⟨q, h1, h2⟩ := d
  rw [Mks.v_of h1]
  exact h2
theorem DefS.test {k : Nat} {a : Opd} {s : Cs} {b : Opd} {h0 : Nat} (d : DefS S μ k) (h : S[k]? = some (.test a s b h0)) : μ.v cYes (h0 : Int) < S.length := by
  unfold DefS at d
  rw [h] at d
  obtain ⟨q, h1, h2⟩ := d
  rw [Mks.v_of h1]
  exact h2
end
theorem MG.on {c : Cd} {m p q : Nat} {M M1 : Mem} {ds : List Dd} {w : Cs} (s : Sl c p q) (h : MG c m p M ds w M1) : MG c m q M ds w M1 := by
  cases h with
  | ring h => exact .ring fun r k => h r (.back s k)
  | fin h h2 => exact .fin (.on s h) h2
  | full h h2 => exact .full (.on s h) h2
  | fault h h2 h3 => exact .fault (.on s h) h2 h3
  | sum h h2 h3 h4 => exact .sum (.on s h) h2 h3 h4
  | test h h2 h3 => exact .test (.on s h) h2 h3
end VL
namespace VL
open PySem PySem.Spec PyProof.Rows L2 VL
theorem homes_round (k : Int) (B : List Fm) : homes (lnsF (.round k B)) = k :: homes (lnsL B) := by rw [lnsF]; show k :: homes (lnsL B ++ [.done]) = _; rw [homes_app]; simp [homes]
theorem homes_part (k : Int) (B : List Fm) : homes (lnsF (.part k B)) = k :: homes (lnsL B) := by rw [lnsF]; show k :: homes (lnsL B ++ [.done]) = _; rw [homes_app]; simp [homes]
end VL
namespace VL
open PySem PySem.Spec PyProof.Rows L2 VL
end VL
namespace VL
open PySem PySem.Spec PyProof.Rows L2 VL
/-- the signs of a number -/
def intC (i : Int) : Cs := (Str.ofString (toString i)).cps.toList
theorem toS_intC (i : Int) : toS (intC i) = Str.ofString (toString i) := toS_cps _
theorem intC_nat (n : Nat) : intC (n : Int) = TL.numL n := TL.tl_num n
theorem intC_neg (n : Nat) : intC (-((n + 1 : Nat) : Int)) = 45 :: TL.numL (n + 1) := by
  have e : toString (-((n + 1 : Nat) : Int)) = "-" ++ toString ((n + 1 : Nat) : Int) := rfl
  rw [← TL.tl_num]
  show (Str.ofString _).cps.toList = 45 :: (Str.ofString _).cps.toList
  rw [signs_ofString, signs_ofString, e, String.toList_append, List.map_append]
  rfl
def sStr : List D → (D → Prop) → Prop := fun ds Q => (∃ i : Int, ds = [.int i] ∧ i.natAbs.log2 < 1920 ∧ Q (.str (intC i))) ∨ ∃ s, ds = [.str s] ∧ Q (.str s)
theorem call_strA {X : Cx} : CallR X (.type "str") (fun xs H Q => (∃ i : Int, xs = [.int i] ∧ i.natAbs.log2 < 1920 ∧ Q (.str (toString i)) H) ∨ ∃ a, xs = [.str a] ∧ Q (.str a) H) := fun pins s σ H xs us Q I r q => q.elim (call_str_int pins s σ H xs us Q I r) (SkE.call_str_str pins s σ H xs us Q I r)
section
variable {K : PySem.W.Frag}
theorem nwC {G H : Hp} (s : Cs) : Nw K G H (.str s) (.str (toS s)) H := .val fun _ _ _ => ⟨rfl, rfl⟩
theorem opn_str : OpN K (fun xs H Q => (∃ i : Int, xs = [.int i] ∧ i.natAbs.log2 < 1920 ∧ Q (.str (toString i)) H) ∨ ∃ a, xs = [.str a] ∧ Q (.str a) H) sStr := OpN.mk fun G H ds vs F Q Q' hs r q k => by
  rcases q with ⟨i, rfl, h, q⟩ | ⟨s, rfl, q⟩
  · obtain ⟨v, rfl, rfl, _⟩ := r.one'
    refine .inl ⟨i, rfl, h, ?_⟩
    have := k _ _ _ (nwC (intC i)) q
    rw [toS_intC] at this
    exact this
  · obtain ⟨v, rfl, rfl, _⟩ := r.one'
    exact .inr ⟨_, rfl, k _ _ _ (nwC s) q⟩
end
theorem e_strS {s : Cs} {Q : D → Prop} : sStr [.str s] Q ↔ Q (.str s) := ⟨fun h => by rcases h with ⟨i, e, _⟩ | ⟨t, e, q⟩ <;> cases e; exact q, fun q => .inr ⟨s, rfl, q⟩⟩
theorem e_strI {i : Int} {Q : D → Prop} (h : i.natAbs < 2 ^ 1000) (q : Q (.str (intC i))) : sStr [.int i] Q := by
  refine .inl ⟨i, rfl, ?_, q⟩
  by_cases e : i.natAbs = 0
  · rw [e]; decide
  · exact Nat.lt_trans ((Nat.log2_lt e).mpr h) (by decide)
/-- int(text) -/
def sIntS : List D → (D → Prop) → Prop := fun ds Q => ∃ n : Nat, ds = [.str (TL.numL n)] ∧ (TL.numL n).length ≤ 640 ∧ Q (.int (n : Int))
section
variable {K : PySem.W.Frag}
theorem opn_intS : OpN K (fun xs H Q => ∃ a n, xs = [.str a] ∧ PySem.intText? a = some n ∧ a.length ≤ 640 ∧ Q (.int n) H) sIntS := OpN.mk fun G H ds vs F Q Q' hs r q k => by
  obtain ⟨n, rfl, h, q⟩ := q
  obtain ⟨v, rfl, rfl, _⟩ := r.one'
  refine ⟨_, (n : Int), rfl, ?_, by rw [toS_len]; exact h, k (.int (n : Int)) _ _ (.val fun _ _ _ => ⟨rfl, rfl⟩) q⟩
  have e := TL.int_num (n := n) (by omega)
  rw [SX.num_S] at e
  exact e
end
/-- sep.join(texts) -/
def sJoin : List D → (D → Prop) → Prop := fun ds Q => ∃ a m ss, ds = [.str a, .lst m (strsD ss)] ∧ (ss.map (·.length)).sum + ss.length * a.length ≤ 16777216 ∧ Q (.str (TL.joinL a ss))
/-- text.split(sep) -/
def sSplit : List D → (D → Prop) → Prop := fun ds Q => ∃ a b, ds = [.str a, .str b] ∧ b ≠ [] ∧ b.all (· < 256) = true ∧ a.length < 1000000 ∧ Q (.lst true (strsD (TL.spl b 0 [] a)))
/-- text.partition(sep) -/
def partC (a b : Cs) : Cs × Cs × Cs := match TL.par b [] a with
  | some (p, q) => (p, b, q)
  | none => (a, [], [])
def sPart : List D → (D → Prop) → Prop := fun ds Q => ∃ a b, ds = [.str a, .str b] ∧ b ≠ [] ∧ a.length < 1000000 ∧ Q (.tup [.str (partC a b).1, .str (partC a b).2.1, .str (partC a b).2.2])
/-- text.startswith(start) -/
def sStarts : List D → (D → Prop) → Prop := fun ds Q => ∃ a b, ds = [.str a, .str b] ∧ Q (.bl (b.isPrefixOf a))
theorem starts_S (a b : Cs) : Txt.startswith (toS a) (toS b) = b.isPrefixOf a := by
  unfold Txt.startswith
  rw [toS_len, toS_len, Nat.zero_add]
  have e : Builtin.Str.subAt (toS a) (toS b) 0 = (a.take b.length == b) := by
    unfold Builtin.Str.subAt
    rw [toS_len, Nat.zero_add]
    show ((a.toArray).extract 0 b.length == b.toArray) = _
    rw [Bool.eq_iff_iff, beq_iff_eq, beq_iff_eq]
    constructor
    · intro h
      have := congrArg Array.toList h
      simpa using this
    · intro h
      apply Array.ext'
      simpa using h
  rw [e]
  by_cases h : b.length ≤ a.length
  · rw [decide_eq_true h, Bool.true_and, Bool.eq_iff_iff, beq_iff_eq, List.isPrefixOf_iff_prefix, List.prefix_iff_eq_take]
    exact ⟨fun h => h.symm, fun h => h.symm⟩
  · rw [decide_eq_false h, Bool.false_and]
    symm
    rw [Bool.eq_false_iff]
    intro z
    exact h (List.isPrefixOf_iff_prefix.mp z).length_le
section
variable {K : PySem.W.Frag}
theorem strs_vs {G H : Hp} : ∀ {ss : List Cs} {us : List V} {F : List Addr}, RpL K G H (strsD ss) us F → us = (ss.map toS).map V.str
  | [], us, F, ⟨e, _⟩ => e
  | s :: ss, us, F, ⟨v, vs', F1, F2, e, _, rv, rs⟩ => by
    obtain ⟨rfl, _⟩ := rv
    rw [e, strs_vs (ss := ss) rs]
    rfl
theorem big_line : 1000000 + 2 ≤ sizeLine := by decide
theorem opn_split : OpN K (fun vs H Q => ∃ x xs, vs = x :: xs ∧ ∃ a b, x = .str a ∧ xs = [.str b] ∧ (b.length == 0) = false ∧ a.length + 2 ≤ sizeLine ∧ rNewStrs (Txt.split a b) H Q) sSplit := OpN.mk fun G H ds vs F Q Q' hs r q k => by
  obtain ⟨a, b, rfl, h1, h2, h3, q⟩ := q
  obtain ⟨v, w, F1, F2, rfl, ⟨rfl, _⟩, ⟨rfl, _⟩⟩ := r.two
  refine ⟨_, _, rfl, _, _, rfl, rfl, ?_, by rw [toS_len]; have := big_line; omega, fun p hp => ?_⟩
  · rw [toS_len, beq_eq_false_iff_ne]
    exact fun z => h1 (List.length_eq_zero_iff.mp z)
  · have e := SX.split_S (a := a) (b := b) h1 h2
    rw [show Txt.split (toS a) (toS b) = (TL.spl b 0 [] a).map toS from e]
    exact k _ _ _ (.lst (strs_rp _) hp) q
theorem opn_starts : OpN K (fun vs H Q => ∃ x xs, vs = x :: xs ∧ ∃ a b, x = .str a ∧ xs = [.str b] ∧ Q (.bl (Txt.startswith a b)) H) sStarts := OpN.mk fun G H ds vs F Q Q' hs r q k => by
  obtain ⟨a, b, rfl, q⟩ := q
  obtain ⟨v, w, F1, F2, rfl, ⟨rfl, _⟩, ⟨rfl, _⟩⟩ := r.two
  refine ⟨_, _, rfl, _, _, rfl, rfl, ?_⟩
  rw [starts_S]
  exact k (.bl (b.isPrefixOf a)) _ _ (.val fun _ _ _ => ⟨rfl, rfl⟩) q
end
section
variable {a b : Cs} {m : Bool} {ss : List Cs} {Q : D → Prop}
theorem e_join : sJoin [.str a, .lst m (strsD ss)] Q ↔ (ss.map (·.length)).sum + ss.length * a.length ≤ 16777216 ∧ Q (.str (TL.joinL a ss)) := by
  refine ⟨fun ⟨_, _, _, e, h, q⟩ => ?_, fun ⟨h, q⟩ => ⟨_, _, _, rfl, h, q⟩⟩
  obtain ⟨e1, e2⟩ := List.cons.inj e
  cases e1
  have e3 := (List.map_inj_right (f := D.str) (fun _ _ h => D.str.inj h)).mp (D.lst.inj (List.cons.inj e2).1).2
  subst e3
  exact ⟨h, q⟩
theorem e_split : sSplit [.str a, .str b] Q ↔ b ≠ [] ∧ b.all (· < 256) = true ∧ a.length < 1000000 ∧ Q (.lst true (strsD (TL.spl b 0 [] a))) := ⟨fun ⟨_, _, e, h⟩ => by cases e; exact h, fun h => ⟨_, _, rfl, h⟩⟩
theorem e_part : sPart [.str a, .str b] Q ↔ b ≠ [] ∧ a.length < 1000000 ∧ Q (.tup [.str (partC a b).1, .str (partC a b).2.1, .str (partC a b).2.2]) := ⟨fun ⟨_, _, e, h⟩ => by cases e; exact h, fun h => ⟨_, _, rfl, h⟩⟩
theorem e_starts : sStarts [.str a, .str b] Q ↔ Q (.bl (b.isPrefixOf a)) := ⟨fun ⟨_, _, e, h⟩ => by cases e; exact h, fun h => ⟨_, _, rfl, h⟩⟩
end
end VL
namespace VL
open PySem PySem.Spec PyProof.Rows L2 VL
def sJoinA (a : Cs) : List D → (D → Prop) → Prop := fun ds Q => ∃ m ss, ds = [.lst m (strsD ss)] ∧ (ss.map (·.length)).sum + ss.length * a.length ≤ 16777216 ∧ Q (.str (TL.joinL a ss))
section
variable {X : Cv}
theorem opn_joinA (a : Cs) : OpN X.K (r1N fun v H Q => ∃ b p, ∃ ys : List Str, (V.str (toS a)) = .str b ∧ [v] = [.ref p] ∧ (SqL X.K H p (ys.map V.str) ∨ SqT X.K H p (ys.map V.str)) ∧ (ys.map (·.length)).sum + ys.length * b.length ≤ 16777216 ∧ Q (.str (Txt.join b ys)) H) (sJoinA a) := OpN.mk fun G H ds vs F Q Q' hs r q k => by
  obtain ⟨m, ss, rfl, h, q⟩ := q
  obtain ⟨w, rfl, rx⟩ := r.one'
  have hx : ∃ p us F', w = .ref p ∧ SqL X.K H p us ∧ RpL X.K G H (strsD ss) us F' := by
    cases m with
    | false => obtain ⟨p, us, e, s, _, r⟩ := rx; exact ⟨p, us, _, e, hs.sqL s, r⟩
    | true => obtain ⟨p, us, F', e, s, _, r⟩ := rx; exact ⟨p, us, _, e, SqL.of s, r⟩
  obtain ⟨p, us, F', rfl, s, r⟩ := hx
  rw [strs_vs r] at s
  refine ⟨_, rfl, toS a, p, ss.map toS, rfl, rfl, .inl s, ?_, ?_⟩
  · rw [List.length_map, toS_len, List.map_map]
    have : (ss.map ((fun x : Str => x.length) ∘ toS)) = ss.map (·.length) := List.map_congr_left fun s _ => toS_len s
    rw [this]
    exact h
  · have e := SX.join_S a ss
    have := k _ _ _ (nwC (TL.joinL a ss)) q
    rw [show toS (TL.joinL a ss) = Txt.join (toS a) (ss.map toS) from e.symm] at this
    exact this
theorem ve_join {a : Cs} {x : Str} {e : Expr} {r : Option Nat} {t : VTE} {j pos0 apos pos} (hx : x.cps.toList = a) (h : VG X e r t)
    (hs : starEach [e] X.env = [(false, eval e X.env)] := by rfl) (hbase : attributeBase (.Constant (.str x) j pos0) "join" X.env (eval (.Constant (.str x) j pos0) X.env) = eval (.Constant (.str x) j pos0) X.env := by rfl) (hline : (apos.endLine == pos.line) = true := by rfl) :
    VE X (.Call (.Attribute (.Constant (.str x) j pos0) "join" apos) [e] [] pos) (vOp (sJoinA a) [r] (va1 t)) := by
  have ex : toS a = x := by rw [← hx]; exact toS_cps x
  obtain ⟨t', a1, a2⟩ := h.ex
  refine ⟨fun W => tM1 _ (tC (.str x)) (t' W), fun W tk => pe_join pe_str (a1 W tk) hs hbase hline, fun b σ H ε T Tv W N Q Q' I q k xl => ?_⟩
  refine ⟨⟨x, rfl⟩, a2 b σ H ε T Tv W N _ _ I q (fun d v ε1 H1 J hd z => ?_) xl⟩
  have := one_run (opn_joinA (X := X) a) I.lenT J hd z k
  rw [ex] at this
  exact this
end
theorem e_joinA {a : Cs} {m : Bool} {ss : List Cs} {Q : D → Prop} : sJoinA a [.lst m (strsD ss)] Q ↔ (ss.map (·.length)).sum + ss.length * a.length ≤ 16777216 ∧ Q (.str (TL.joinL a ss)) := by
  refine ⟨fun ⟨_, _, e, h, q⟩ => ?_, fun ⟨h, q⟩ => ⟨_, _, rfl, h, q⟩⟩
  have e3 := (List.map_inj_right (f := D.str) (fun _ _ h => D.str.inj h)).mp (D.lst.inj (List.cons.inj e).1).2
  subst e3
  exact ⟨h, q⟩
end VL
namespace VL
open PySem PySem.Spec PyProof.Rows L2 VL
def strsB : List Value → List Cs → Bool
  | [], [] => true
  | .str x _ :: vs, s :: ss => decide (x = toS s) && strsB vs ss
  | _, _ => false
theorem strsB_ok : ∀ {vs : List Value} {ss : List Cs}, strsB vs ss = true → Vals ((ss.map toS).map V.str) vs
  | [], [], _ => .nil
  | [], _ :: _, h => by simp [strsB] at h
  | v :: vs, [], h => by cases v <;> simp [strsB] at h
  | v :: vs, s :: ss, h => by
    cases v with
    | str x t =>
      obtain ⟨h1, h2⟩ := Bool.and_eq_true_iff.mp (show (decide (x = toS s) && strsB vs ss) = true from h)
      exact .cons ⟨t, by rw [of_decide_eq_true h1]⟩ (strsB_ok h2)
    | _ => simp [strsB] at h
/-- the tuple at an address of the text's own -/
def SqK (K : PySem.W.Frag) (a : Addr) (ss : List Cs) : Prop := ∃ (o : Obj) (its : Array Value) (n : Nat), K.lookup a = some o ∧ o.cls = .type "tuple" ∧ o.data = .seq its n ∧ its.size ≤ sizeLine ∧ Vals ((ss.map toS).map V.str) its.toList
def tupB (K : PySem.W.Frag) (a : Addr) (ss : List Cs) : Bool := match K.lookup a with
  | some o => decide (o.cls = .type "tuple") && (match o.data with | .seq its _ => decide (its.size ≤ 1000) && strsB its.toList ss | _ => false)
  | none => false
theorem tupB_ok {K : PySem.W.Frag} {a : Addr} {ss : List Cs} (h : tupB K a ss = true) : SqK K a ss := by
  unfold tupB at h
  cases e : K.lookup a with
  | none => rw [e] at h; cases h
  | some o =>
    rw [e] at h
    obtain ⟨h1, h2⟩ := Bool.and_eq_true_iff.mp h
    cases e2 : o.data with
    | seq its n =>
      rw [e2] at h2
      obtain ⟨h3, h4⟩ := Bool.and_eq_true_iff.mp h2
      have l := of_decide_eq_true h3
      exact ⟨o, its, n, e, of_decide_eq_true h1, e2, k1000 l, strsB_ok h4⟩
    | _ => rw [e2] at h2; cases h2
def sInG (neg : Bool) (ss : List Cs) : List D → (D → Prop) → Prop := fun ds Q => ∃ s, ds = [.str s] ∧ Q (.bl (if neg then !decide (s ∈ ss) else decide (s ∈ ss)))
theorem inV_strs (s : Cs) : ∀ ss : List Cs, inV (.str (toS s)) ((ss.map toS).map V.str) = decide (s ∈ ss)
  | [] => by simp [inV]
  | t :: ss => by
    have ih := inV_strs s ss
    show (eqV (.str (toS t)) (.str (toS s)) || inV (.str (toS s)) ((ss.map toS).map V.str)) = _
    rw [ih]
    show (decide (toS t = toS s) || _) = _
    by_cases h : t = s
    · subst h; simp
    · have h2 : toS t ≠ toS s := fun e => h (toS_inj e)
      rw [decide_eq_false h2, Bool.false_or, decide_eq_decide]
      exact ⟨fun z => List.mem_cons_of_mem _ z, fun z => (List.mem_cons.mp z).resolve_left fun e => h e.symm⟩
section
variable {X : Cv}
theorem opn_inG {K : PySem.W.Frag} {neg : Bool} {a : Addr} {ss : List Cs} (hk : SqK K a ss) : OpN K (r1N fun v H Q => rIn K neg v (.ref a) H Q) (sInG neg ss) := OpN.mk fun G H ds vs F Q Q' hs r q k => by
  obtain ⟨s, rfl, q⟩ := q
  obtain ⟨v, rfl, rfl, _⟩ := r.one'
  refine ⟨_, rfl, a, _, rfl, .inr (.inr hk), rfl, ?_, ?_⟩
  · rw [List.all_map, List.all_eq_true]
    intro x _
    rfl
  · rw [inV_strs]
    exact k (.bl _) _ _ (.val fun _ _ _ => ⟨rfl, rfl⟩) q
theorem vt_inG {x : Str} {ss : List Cs} {e : Expr} {r : Option Nat} {t : VTE} {p pos : Pos} (hg : Gl X.toCx x) (hm : ∃ a, X.mg x = some (.ref a) ∧ SqK X.K a ss) (h : VG X e r t) (hd : (x == ("__debug__" : Str)) = false := by decide) (hmk : behindInMarks .In (.Name x p) = false := by rfl) :
    VT X (.Compare e [.In] [.Name x p] pos) (vB (vOp (sInG false ss) [r] (va1 t))) := by
  obtain ⟨a, ha, hk⟩ := hm
  obtain ⟨t', a1, a2⟩ := h.ex
  refine ⟨fun W => tTest (tOp (rIn X.K false) (t' W) (tC (.ref a))), fun W tk => pt_cmpR op_in_seq (a1 W tk) (pe_glob (v := .ref a) hg ha rfl hd) hmk, fun b σ H ε T Tv W N Q Q' I q k xl => ?_⟩
  refine a2 b σ H ε T Tv W N _ _ I q (fun d v ε1 H1 J hd z => ?_) xl
  show rIn X.K false v (.ref a) H1 (fun x H' => ∃ k, x = V.bl k ∧ Q' k H')
  refine one_run (Q := fun d ε1 => ∃ c, d = .bl c ∧ Q c ε1) (opn_inG hk) I.lenT J hd z fun d u ε1 H1 J1 z1 => ?_
  obtain ⟨c, rfl, z1⟩ := z1
  obtain ⟨G, F, _, rv, _⟩ := J1.last I.lenT
  exact ⟨c, rv, k c ε1 H1 (J1.pop I.lenT) z1⟩
theorem vt_notInG {x : Str} {ss : List Cs} {e : Expr} {r : Option Nat} {t : VTE} {p pos : Pos} (hg : Gl X.toCx x) (hm : ∃ a, X.mg x = some (.ref a) ∧ SqK X.K a ss) (h : VG X e r t) (hd : (x == ("__debug__" : Str)) = false := by decide) (hmk : behindInMarks .NotIn (.Name x p) = false := by rfl) :
    VT X (.Compare e [.NotIn] [.Name x p] pos) (vB (vOp (sInG true ss) [r] (va1 t))) := by
  obtain ⟨a, ha, hk⟩ := hm
  obtain ⟨t', a1, a2⟩ := h.ex
  refine ⟨fun W => tTest (tOp (rIn X.K true) (t' W) (tC (.ref a))), fun W tk => pt_cmpR op_notIn_seq (a1 W tk) (pe_glob (v := .ref a) hg ha rfl hd) hmk, fun b σ H ε T Tv W N Q Q' I q k xl => ?_⟩
  refine a2 b σ H ε T Tv W N _ _ I q (fun d v ε1 H1 J hd z => ?_) xl
  show rIn X.K true v (.ref a) H1 (fun x H' => ∃ k, x = V.bl k ∧ Q' k H')
  refine one_run (Q := fun d ε1 => ∃ c, d = .bl c ∧ Q c ε1) (opn_inG hk) I.lenT J hd z fun d u ε1 H1 J1 z1 => ?_
  obtain ⟨c, rfl, z1⟩ := z1
  obtain ⟨G, F, _, rv, _⟩ := J1.last I.lenT
  exact ⟨c, rv, k c ε1 H1 (J1.pop I.lenT) z1⟩
end
theorem and_l {a b : Bool} (h : (a && b) = true) : a = true := (Bool.and_eq_true_iff.mp h).1
theorem and_r {a b : Bool} (h : (a && b) = true) : b = true := (Bool.and_eq_true_iff.mp h).2
theorem e_inG {neg : Bool} {s : Cs} {ss : List Cs} {Q : D → Prop} : sInG neg ss [.str s] Q ↔ Q (.bl (if neg then !decide (s ∈ ss) else decide (s ∈ ss))) := ⟨fun ⟨_, e, q⟩ => by cases e; exact q, fun q => ⟨_, rfl, q⟩⟩
end VL
namespace VL
open PySem PySem.Spec PyProof.Rows L2 VL
def isFig (c : Nat) : Bool := decide (48 ≤ c ∧ c ≤ 57)
/-- the number that a word tells -/
def numR (w : Cs) (most : Nat) : Option Nat := if w = [] ∨ most < w.length then none else if w.all isFig = false then none else if w.head? = some 48 ∧ 1 < w.length then none else some (NumText.digitsVal w)
def isNameC (w : Cs) : Bool := decide (w ≠ [] ∧ w.length ≤ 8 ∧ w ∉ keptW) && w.all isLd && (match w with | c :: _ => isLet c | [] => false)
def opR (w : Cs) : Option Opd := if isNameC w = true then some (.inr w) else if List.isPrefixOf [45] w = false then (numR w 18).map fun n : Nat => .inl (n : Int) else match numR (w.drop 1) 18 with
  | none => none
  | some 0 => none
  | some (n + 1) => some (.inl (-((n + 1 : Nat) : Int)))
def sumSg : List Cs := [[43], [45], [47], [114, 101, 115, 116], [38], [94]]
def testSg : List Cs := [[60], [61]]
def sumWR (ws : List Cs) : Option (Cs × Opd × Cs × Opd) := match ws with
  | [x, q, a, s, b] => if q ≠ [61] ∨ s ∉ sumSg ∨ isNameC x = false then none else match opR a, opR b with
    | some a, some b => some (x, a, s, b)
    | _, _ => none
  | _ => none
def testR (ws : List Cs) : Option (Opd × Cs × Opd) := match ws with
  | [f, a, s, b] => if f ≠ [105, 102] ∨ s ∉ testSg then none else match opR a, opR b with
    | some a, some b => some (a, s, b)
    | _, _ => none
  | _ => none
theorem all_fig {w : Cs} (h : NumText.AllDigits w) : w.all isFig = true := by
  rw [List.all_eq_true]
  intro c hc
  have := h c hc
  exact decide_eq_true ⟨by omega, by omega⟩
theorem digitsVal_snoc' (u : Cs) (c : Nat) : NumText.digitsVal (u ++ [c]) = NumText.digitsVal u * 10 + (c - 48) := by
  unfold NumText.digitsVal
  rw [List.foldl_append]
  rfl
theorem digitsVal_pos : ∀ {w : Cs}, w.all isFig = true → w ≠ [] → w.head? ≠ some 48 → 0 < NumText.digitsVal w := by
  have key : ∀ (l : Cs) (a : Nat), 0 < a → 0 < l.foldl (fun acc c => acc * 10 + (c - 48)) a := by
    intro l
    induction l with
    | nil => exact fun a h => h
    | cons c l ih => intro a h; exact ih _ (by show 0 < a * 10 + (c - 48); omega)
  intro w hw hn hh
  cases w with
  | nil => exact absurd rfl hn
  | cons c l =>
    have hc := of_decide_eq_true (List.all_eq_true.mp hw c List.mem_cons_self)
    have h48 : c ≠ 48 := fun e => hh (by rw [e]; rfl)
    exact key l _ (by show 0 < 0 * 10 + (c - 48); omega)
/-- figures without a nought ahead are a number's -/
theorem numL_back : ∀ (k : Nat) {w : Cs}, w.length = k → w.all isFig = true → w ≠ [] → ¬(w.head? = some 48 ∧ 1 < w.length) → TL.numL (NumText.digitsVal w) = w
  | 0, w, hl, _, hn, _ => absurd (List.length_eq_zero_iff.mp hl) hn
  | k + 1, w, hl, hw, hn, hh => by
    obtain ⟨u, c, rfl⟩ : ∃ u c, w = u ++ [c] := ⟨w.dropLast, w.getLast hn, (List.dropLast_concat_getLast hn).symm⟩
    rw [List.all_append, Bool.and_eq_true] at hw
    have hc := of_decide_eq_true (List.all_eq_true.mp hw.2 c (List.mem_singleton.mpr rfl))
    rw [digitsVal_snoc']
    by_cases e : u = []
    · subst e
      show TL.numL (0 * 10 + (c - 48)) = [c]
      rw [TL.numL_lt (by omega)]
      congr 1
      omega
    · have h1 : u.head? = (u ++ [c]).head? := by cases u with | nil => exact absurd rfl e | cons a l => rfl
      have h2 : u.head? ≠ some 48 := fun z => hh ⟨by rw [← h1]; exact z, by have := List.length_pos_iff.mpr e; simp; omega⟩
      have hp := digitsVal_pos hw.1 e h2
      have ih := numL_back k (w := u) (by simpa using hl) hw.1 e fun z => h2 z.1
      rw [TL.numL_step (by omega)]
      have d1 : (NumText.digitsVal u * 10 + (c - 48)) / 10 = NumText.digitsVal u := by omega
      have d2 : (NumText.digitsVal u * 10 + (c - 48)) % 10 = c - 48 := by omega
      rw [d1, d2, ih]
      congr 2
      omega
theorem numR_num {n most : Nat} (hm : 0 < most) (h : n < 10 ^ most) : numR (TL.numL n) most = some n := by
  unfold numR
  have h1 := TL.numL_ne n
  have h2 := TL.numL_len hm h
  rw [if_neg (by intro z; rcases z with z | z; exact h1 z; omega), all_fig (TL.numL_digits n), if_neg (by decide), if_neg, TL.numL_val]
  rintro ⟨z1, z2⟩
  by_cases e : n < 10
  · rw [TL.numL_lt e] at z2; simp at z2
  · -- a number of two figures or more has no nought ahead
    have key : ∀ m : Nat, 1 ≤ m → (TL.numL m).head? ≠ some 48 := by
      intro m
      induction m using Nat.strongRecOn with
      | _ m ih =>
        intro hm
        by_cases e : m < 10
        · rw [TL.numL_lt e]
          show some (48 + m) ≠ some 48
          intro z
          have := Option.some.inj z
          omega
        · rw [TL.numL_step (by omega)]
          have ih := ih (m / 10) (by omega) (by omega)
          have hne := TL.numL_ne (m / 10)
          cases h : TL.numL (m / 10) with
          | nil => exact absurd h hne
          | cons a l => rw [h] at ih; exact ih
    exact key n (by omega) z1
def opC : Opd → Cs
  | .inl i => intC i
  | .inr s => s
theorem nameC_of {s : Cs} (h : NameOk s) : isNameC s = true := by
  obtain ⟨⟨⟨c, t, rfl, hc⟩, hl⟩, h8, hk⟩ := h
  unfold isNameC
  rw [decide_eq_true ⟨by simp, h8, hk⟩, List.all_eq_true.mpr hl]
  exact hc
theorem fig_not_name {w : Cs} (h : NumText.AllDigits w) : isNameC w = false := by
  cases w with
  | nil => rfl
  | cons c t =>
    unfold isNameC
    have hc := h c List.mem_cons_self
    have : isLet c = false := by unfold isLet; rw [decide_eq_false_iff_not]; omega
    show (_ && _ && isLet c) = false
    rw [this, Bool.and_false]
theorem opR_op {a : Opd} (h : OpdOk a) : opR (opC a) = some a := by
  cases a with
  | inr s =>
    show opR s = _
    unfold opR
    rw [if_pos (nameC_of h)]
  | inl i =>
    have h : i.natAbs < 10 ^ 18 := h
    rw [show opC (Sum.inl i) = intC i from rfl]
    rcases Int.lt_or_le i 0 with hi | hi
    · obtain ⟨n, rfl⟩ : ∃ n : Nat, i = -((n + 1 : Nat) : Int) := ⟨i.natAbs - 1, by omega⟩
      rw [intC_neg]
      have h1 : isNameC (45 :: TL.numL (n + 1)) = false := by
        unfold isNameC
        show (_ && _ && isLet 45) = false
        rw [show isLet 45 = false from rfl, Bool.and_false]
      have h2 : List.isPrefixOf [45] (45 :: TL.numL (n + 1)) = true := by simp [List.isPrefixOf]
      have h3 : numR ((45 :: TL.numL (n + 1)).drop 1) 18 = some (n + 1) := numR_num (by decide) (by omega)
      unfold opR
      rw [h1, h2, h3]
      rfl
    · obtain ⟨n, rfl⟩ := Int.eq_ofNat_of_zero_le hi
      rw [intC_nat]
      have h2 : List.isPrefixOf [45] (TL.numL n) = false := by
        have hd := TL.numL_digits n
        cases e : TL.numL n with
        | nil => rfl
        | cons c t =>
          rw [e] at hd
          have := hd c List.mem_cons_self
          show (45 == c && _) = false
          have : (45 == c) = false := by rw [beq_eq_false_iff_ne]; omega
          rw [this, Bool.false_and]
      unfold opR
      rw [fig_not_name (TL.numL_digits n), h2, numR_num (by decide) (by omega)]
      rfl
theorem name_free {s : Cs} (h : NameOk s) {c : Nat} (hc : isLd c = false) : c ∉ s := fun z => by
  have := h.1.2 c z
  rw [hc] at this
  cases this
theorem op_free {a : Opd} (h : OpdOk a) {c : Nat} (hc : isLd c = false) (hm : c ≠ 45) : c ∉ opC a := by
  cases a with
  | inr s => exact name_free h hc
  | inl i =>
    show c ∉ intC i
    have hf : c < 48 ∨ 57 < c := by
      unfold isLd at hc
      rw [Bool.or_eq_false_iff, decide_eq_false_iff_not] at hc
      omega
    rcases Int.lt_or_le i 0 with hi | hi
    · obtain ⟨n, rfl⟩ : ∃ n : Nat, i = -((n + 1 : Nat) : Int) := ⟨i.natAbs - 1, by omega⟩
      rw [intC_neg]
      intro z
      rcases List.mem_cons.mp z with e | z
      · exact hm e
      · exact TL.numL_free hf z
    · obtain ⟨n, rfl⟩ := Int.eq_ofNat_of_zero_le hi
      rw [intC_nat]
      exact TL.numL_free hf
theorem joinL_free {sep : Cs} {c : Nat} (hs : c ∉ sep) : ∀ {ws : List Cs}, (∀ w ∈ ws, c ∉ w) → c ∉ TL.joinL sep ws
  | [], _ => by simp [TL.joinL]
  | [w], h => h w (List.mem_singleton.mpr rfl)
  | w :: v :: ws, h => by
    show c ∉ w ++ (sep ++ TL.joinL sep (v :: ws))
    intro z
    rcases List.mem_append.mp z with z | z
    · exact h w List.mem_cons_self z
    · rcases List.mem_append.mp z with z | z
      · exact hs z
      · exact joinL_free hs (ws := v :: ws) (fun u hu => h u (List.mem_cons_of_mem _ hu)) z
end VL
namespace VL
open PySem PySem.Spec PyProof.Rows L2 VL
def vM1 (op : List D → (D → Prop) → Prop) (ra rb : Option Nat) (to te : VTE) : VTE := fun N ε Q => to N ε fun x ε1 => (∃ s, x = .str s) ∧ te N ε1 fun y ε2 => op [x, y] fun d => Q d (restore [ra, rb] [x, y] ε2)
section
variable {X : Cv}
theorem ve_m1 {o e : Expr} {ra rb : Option Nat} {to te : VTE} {op : List D → (D → Prop) → Prop} {id : String} {name : Str} {apos pos : Pos} {r : V → List V → Hp → VK → Prop} (slot : Slot "str" name id) (ty : typeOf (.builtin id) = pure (.type "method_descriptor"))
    (rule : MtR X.toCx id r) (hp : OpN X.K (fun vs H Q => ∃ x xs, vs = x :: xs ∧ r x xs H Q) op) (ho : VG X o ra to) (he : VG X e rb te)
    (hs : starEach [e] X.env = [(false, eval e X.env)] := by rfl) (hbase : attributeBase o name X.env (eval o X.env) = eval o X.env := by rfl) (hline : (apos.endLine == pos.line) = true := by rfl) :
    VE X (.Call (.Attribute o name apos) [e] [] pos) (vM1 op ra rb to te) := by
  obtain ⟨to', a1, a2⟩ := ho.ex
  obtain ⟨te', b1, b2⟩ := he.ex
  refine ⟨fun W => tM1 r (to' W) (te' W), fun W tk => pe_m1 slot ty rule (a1 W tk) (b1 W tk) hs hbase hline, fun b σ H ε T Tv W N Q Q' I q k xl => ?_⟩
  refine a2 b σ H ε T Tv W N _ _ I q (fun d v ε1 H1 J hd ⟨⟨s, es⟩, q1⟩ => ?_) xl
  have hv : ∃ a, v = .str a := by
    subst es
    obtain ⟨G, F, Ft, J⟩ := J
    obtain ⟨F1, F2, rfl, r1, r2⟩ := J.temps.split2 I.lenT
    obtain ⟨w, e, hr, _⟩ := r2.one'
    cases e
    exact ⟨_, hr⟩
  refine ⟨hv, b2 b σ H1 ε1 (T ++ [d]) (Tv ++ [v]) W N _ _ J q1 (fun d2 w ε2 H2 J2 h2 q2 => ?_) (xl.more I.lenT rfl)⟩
  obtain ⟨x, xs, e, z⟩ := hp.run I.lenT (ds := [d, d2]) (vs := [v, w]) rfl (by simpa only [List.append_assoc, List.cons_append, List.nil_append] using J2) (Held.append (rs := [ra]) (vs := [v]) hd h2) q2 k
  cases e
  exact z
theorem ve_split {o e : Expr} {ra rb : Option Nat} {to te : VTE} {apos pos : Pos} (ho : VG X o ra to) (he : VG X e rb te)
    (hs : starEach [e] X.env = [(false, eval e X.env)] := by rfl) (hbase : attributeBase o "split" X.env (eval o X.env) = eval o X.env := by rfl) (hline : (apos.endLine == pos.line) = true := by rfl) :
    VE X (.Call (.Attribute o "split" apos) [e] [] pos) (vM1 sSplit ra rb to te) := ve_m1 F.slot_str_split F.type_str_split mt_split opn_split ho he hs hbase hline
end
theorem spl_len (b : Cs) : ∀ (a : Cs) (k : Nat) (acc : Cs), ∀ w ∈ TL.spl b k acc a, w.length ≤ acc.length + a.length := by
  intro a
  induction a with
  | nil =>
    intro k acc w hw
    rw [TL.spl_nil, List.mem_singleton] at hw
    rw [hw]
    simp
  | cons c r ih =>
    intro k acc w hw
    cases k with
    | zero =>
      unfold TL.spl at hw
      split at hw
      · rcases List.mem_cons.mp hw with rfl | hw
        · omega
        · have := ih _ _ w hw
          simp at this ⊢
          omega
      · have := ih _ _ w hw
        simp at this ⊢
        omega
    | succ k =>
      unfold TL.spl at hw
      have := ih _ _ w hw
      simp
      omega
theorem spl_many (b : Cs) : ∀ (a : Cs) (k : Nat) (acc : Cs), (TL.spl b k acc a).length ≤ a.length + 1 := by
  intro a
  induction a with
  | nil => intro k acc; rw [TL.spl_nil]; simp
  | cons c r ih =>
    intro k acc
    cases k with
    | zero =>
      unfold TL.spl
      split
      · have := ih (b.length - 1) []
        simp
        omega
      · have := ih 0 (acc ++ [c])
        simp
        omega
    | succ k =>
      unfold TL.spl
      have := ih k acc
      simp
      omega
def Sgs (w : Cs) : Prop := ∀ c ∈ w, c < 1114112
theorem strs_okD {ss : List Cs} (h : ∀ s ∈ ss, Sgs s) : ∀ x ∈ strsD ss, okD 63 x = true := by
  intro x hx
  obtain ⟨s, hs, rfl⟩ := List.mem_map.mp hx
  show okD 63 (.str s) = true
  unfold okD
  exact List.all_eq_true.mpr fun c hc => decide_eq_true (h s hs c hc)
theorem eqOk_ss {m n : Bool} {ss : List Cs} {c : Cs} (h : ∀ s ∈ ss, Sgs s) (hc : Sgs c) : eqOk (.lst m (strsD ss)) (.lst n [.str c]) := by
  refine .inr ⟨by show okDL 63 (strsD ss) = true; exact okDL_of (strs_okD h), ?_⟩
  show okDL 63 (strsD [c]) = true
  exact okDL_of (strs_okD fun s hs => by rw [List.mem_singleton.mp hs]; exact hc)
theorem deqL_s1 {ss : List Cs} {c : Cs} : deqL (strsD ss) [.str c] = decide (ss = [c]) := by
  match ss with
  | [] => rfl
  | [s] =>
    show (deq (.str s) (.str c) && deqL [] []) = _
    rw [deq_s]
    simp [deqL]
  | s :: t :: ss =>
    show (deq (.str s) (.str c) && deqL (.str t :: strsD ss) []) = _
    rw [deqL_0]
    simp
end VL
namespace VL
open PySem PySem.Spec PyProof.Rows L2 VL
/-- for .. in zip(still, ours) -/
def vForZO (j i : Nat) (g : VTG) (body : VTS) : VTS := fun N ε => ∃ ts m xs, ε[j]? = some (some (.lst false ts)) ∧ ε[i]? = some (some (.lst m xs)) ∧ isFzL ts = true ∧ isFzL xs = true ∧
  vForL g body (zipD ts xs) { nx := fun ε' => N.nx (ε'.set i (some (.lst m xs))), rt := fun d ε' => N.rt d (ε'.set i (some (.lst m xs))), rx := N.rx } (ε.set i none)
section
variable {X : Cv}
/-- a block over a list of ours, that is ours behind it -/
def vLcO (i : Nat) (own : List Nat) (w : List D → List D) (g : VTG) (tt : VTT) (te : VTE) : VTE := fun _ ε Q => ∃ m xs, ε[i]? = some (some (.lst m xs)) ∧ isFzL xs = true ∧
  vLcL own g tt te (w xs) [] (pull own (ε.set i none)).2.2 fun acc ε' => Q (.lst true acc) ((restore (pull own (ε.set i none)).1 (pull own (ε.set i none)).2.1 ε').set i (some (.lst m xs)))
end
end VL
namespace VL
open PySem PySem.Spec PyProof.Rows L2 VL
theorem num_len4 {n : Nat} (h : n ≤ 9999) : (TL.numL n).length ≤ 4 := TL.numL_len (by decide) (by omega)
theorem opC_len {a : Opd} (h : OpdOk a) : (opC a).length ≤ 19 := by
  cases a with
  | inr s => have := h.2.1; show s.length ≤ 19; omega
  | inl i =>
    have h : i.natAbs < 1000000000000000000 := h
    show (intC i).length ≤ 19
    by_cases hi : i < 0
    · obtain ⟨n, rfl⟩ : ∃ n : Nat, i = -((n + 1 : Nat) : Int) := ⟨i.natAbs - 1, by omega⟩
      rw [intC_neg]
      have := TL.numL_len (n := n + 1) (k := 18) (by decide) (by omega)
      simp
      omega
    · obtain ⟨n, rfl⟩ := Int.eq_ofNat_of_zero_le (show 0 ≤ i by omega)
      rw [intC_nat]
      have := TL.numL_len (n := n) (k := 18) (by decide) (by omega)
      omega
theorem sign_len {s : Cs} (h : signOk s) : s.length ≤ 4 := by
  have h : s ∈ [[43], [45], [47], [114, 101, 115, 116], [38], [94]] := by simpa [signOk] using h
  exact (by decide : ∀ s ∈ ([[43], [45], [47], [114, 101, 115, 116], [38], [94]] : List Cs), s.length ≤ 4) s h
theorem test_len {s : Cs} (h : testOk s) : s.length ≤ 4 := by
  have h : s ∈ [[60], [61]] := by simpa [testOk] using h
  exact (by decide : ∀ s ∈ ([[60], [61]] : List Cs), s.length ≤ 4) s h
theorem sgs_num (n : Nat) : Sgs (TL.numL n) := fun c hc => by have := TL.numL_digits n c hc; omega
theorem sgs_good {s : Cs} (h : Cs.good s = true) : Sgs s := fun c hc => of_decide_eq_true (List.all_eq_true.mp h c hc)
theorem join_len (sep : Cs) : ∀ xs : List Cs, (TL.joinL sep xs).length ≤ (xs.map (·.length)).sum + xs.length * sep.length
  | [] => by show (0 : Nat) ≤ _; omega
  | [x] => by show x.length ≤ _; simp
  | x :: y :: xs => by
    have ih := join_len sep (y :: xs)
    show (x ++ (sep ++ TL.joinL sep (y :: xs))).length ≤ _
    rw [List.length_append, List.length_append, List.map_cons, List.sum_cons, List.length_cons, Nat.succ_mul]
    omega
theorem sum_le {k : Nat} : ∀ {xs : List Cs}, (∀ l ∈ xs, l.length ≤ k) → (xs.map (·.length)).sum ≤ xs.length * k
  | [], _ => by simp
  | x :: xs, h => by
    have a := h x List.mem_cons_self
    have b := sum_le (xs := xs) fun l hl => h l (List.mem_cons_of_mem _ hl)
    rw [List.map_cons, List.sum_cons, List.length_cons, Nat.succ_mul]
    omega
theorem sgs_opC {a : Opd} (h : OpdOk a) : Sgs (opC a) := by
  cases a with
  | inr s => exact sgs_good (name_good h)
  | inl i =>
    show Sgs (intC i)
    by_cases hi : i < 0
    · obtain ⟨n, rfl⟩ : ∃ n : Nat, i = -((n + 1 : Nat) : Int) := ⟨i.natAbs - 1, by omega⟩
      rw [intC_neg]
      exact fun c hc => by
        rcases List.mem_cons.mp hc with rfl | hc
        · decide
        · exact sgs_num _ c hc
    · obtain ⟨n, rfl⟩ := Int.eq_ofNat_of_zero_le (show 0 ≤ i by omega)
      rw [intC_nat]
      exact sgs_num n
theorem sign_good {s : Cs} (h : signOk s) : Cs.good s = true := by
  have h : s ∈ [[43], [45], [47], [114, 101, 115, 116], [38], [94]] := by simpa [signOk] using h
  exact (by decide : ∀ s ∈ ([[43], [45], [47], [114, 101, 115, 116], [38], [94]] : List Cs), Cs.good s = true) s h
theorem test_good {s : Cs} (h : testOk s) : Cs.good s = true := by
  have h : s ∈ [[60], [61]] := by simpa [testOk] using h
  exact (by decide : ∀ s ∈ ([[60], [61]] : List Cs), Cs.good s = true) s h
end VL
namespace VL
open PySem PySem.Spec PyProof.Rows L2 VL
mutual
/-- the numbers of rounds and parts, in the order of the text -/
def hmF : Fm → List Int
  | .choice _ _ _ Y Z e => hmL Y ++ (if e = true then hmL Z else [])
  | .round n B => n :: hmL B
  | .part n B => n :: hmL B
  | .sum _ _ _ _ => []
  | .leave _ => []
  | .again _ => []
  | .fin => []
def hmL : List Fm → List Int
  | [] => []
  | f :: fs => hmF f ++ hmL fs
end
/-- a word at the tail is none -/
def tl (lv : Bool) (n : Int) : Rs → Rs
  | (d, some (.leave m)) => if lv = true ∧ m = n then (d, some .nil) else (d, some (.leave m))
  | (d, some (.again m)) => if lv = false ∧ m = n then (d, some .nil) else (d, some (.again m))
  | r => r
/-- leaves of another -/
def rn (o m : Int) : Rs → Rs
  | (d, some (.leave n)) => (d, some (.leave (if n = o then m else n)))
  | r => r
mutual
def okF (W R : Int → Prop) : Fm → Prop
  | .leave n => W n
  | .again n => R n
  | .round n B => okL (fun k => k = n ∨ W k) (fun k => k = n ∨ R k) B
  | .part n B => okL (fun k => k = n ∨ W k) R B
  | .choice _ _ _ Y Z e => okL W R Y ∧ (if e = true then okL W R Z else True)
  | .sum _ _ _ _ => True
  | .fin => True
def okL (W R : Int → Prop) : List Fm → Prop
  | [] => True
  | f :: fs => okF W R f ∧ okL W R fs
end
mutual
theorem ok_monoF : ∀ (f : Fm) {W R W' R' : Int → Prop}, (∀ k, W k → W' k) → (∀ k, R k → R' k) → okF W R f → okF W' R' f
  | .leave n, W, R, W', R', hw, hr, h => by rw [okF] at h ⊢; exact hw n h
  | .again n, W, R, W', R', hw, hr, h => by rw [okF] at h ⊢; exact hr n h
  | .round n B, W, R, W', R', hw, hr, h => by
    rw [okF] at h ⊢
    exact ok_monoL B (fun k z => z.imp id (hw k)) (fun k z => z.imp id (hr k)) h
  | .part n B, W, R, W', R', hw, hr, h => by
    rw [okF] at h ⊢
    exact ok_monoL B (fun k z => z.imp id (hw k)) hr h
  | .choice a s b Y Z e, W, R, W', R', hw, hr, h => by
    rw [okF] at h ⊢
    refine ⟨ok_monoL Y hw hr h.1, ?_⟩
    cases e with
    | true => exact ok_monoL Z hw hr h.2
    | false => trivial
  | .sum x a s b, W, R, W', R', hw, hr, h => by rw [okF]; trivial
  | .fin, W, R, W', R', hw, hr, h => by rw [okF]; trivial
theorem ok_monoL : ∀ (F : List Fm) {W R W' R' : Int → Prop}, (∀ k, W k → W' k) → (∀ k, R k → R' k) → okL W R F → okL W' R' F
  | [], W, R, W', R', hw, hr, h => by rw [okL]; trivial
  | f :: fs, W, R, W', R', hw, hr, h => by
    rw [okL] at h ⊢
    exact ⟨ok_monoF f hw hr h.1, ok_monoL fs hw hr h.2⟩
end
end VL
namespace VL
open PySem PySem.Spec PyProof.Rows L2 PySem.Calls
section
variable {X : Cv}
/-- o.setdefault(n, m): n's number, or m as n's number -/
def vSetd (i : Nat) (t : VTP) (te : VTVs) : VTE := fun N ε Q => t N ε fun p => ∃ d0 ks ds, ε[i]? = some (some d0) ∧ getP d0 p = some (.dK true ks ds) ∧ te ε fun es => ∃ n m : Int, es = [.int n, .int m] ∧ ds.length < 1000000 ∧ isFzL ds = true ∧
  match kIx ks (.inl n) with
  | some j => ∃ z : Int, ds[j]? = some (.int z) ∧ Q (.int z) ε
  | none => Q (.int m) (ε.set i (some (setP d0 p (.dK true (ks ++ [.inl n]) (ds ++ [.int m])))))
end
end VL
namespace VL
open PySem PySem.Spec PyProof.Rows L2 VL
def vAddL (t1 t2 : VTE) : VTE := fun N ε Q => t1 N ε fun x ε1 => t2 N ε1 fun y ε2 => ∃ m xs ys, x = .lst m xs ∧ y = .lst true ys ∧ isFzL xs = true ∧ xs.length + ys.length < 1000000 ∧ Q (.lst true (xs ++ ys)) ε2
end VL
namespace VL
open PySem PySem.Spec PyProof.Rows L2 VL
section
variable {K : PySem.W.Frag} {G H : Hp}
theorem RpS.view (hs : Sub G H) : ∀ {ε : Ep} {σ : L2.St} {F : List Addr}, RpS K G H ε σ F → RpS K H H (ε.map (Option.map frz)) σ []
  | [], σ, F, h => ⟨h.1, rfl⟩
  | od :: ε, σ, F, h => by
    obtain ⟨ov, σ', F1, F2, rfl, rfl, r, rs⟩ := h
    refine ⟨ov, σ', [], [], rfl, rfl, ?_, rs.view hs⟩
    cases od with
    | none => rfl
    | some d =>
      obtain ⟨v, e, r⟩ := r
      exact ⟨v, e, r.view hs⟩
end
def vPeek (t : VTE) : VTE := fun _ ε Q => t noX (ε.map (Option.map frz)) fun d _ => ∃ ds, d = .lst true ds ∧ ds.all flatD = true ∧ Q (.lst true ds) ε
/-- seen as if all stood still -/
theorem SI.look {K : PySem.W.Frag} {b : Bs} {σ : L2.St} {H : Hp} {ε : Ep} {T : List D} {Tv : List V} (I : SI K b σ H ε T Tv) : SI K (callB H H []) σ H (ε.map (Option.map frz)) [] [] := by
  obtain ⟨G, F, Ft, J⟩ := I
  exact ⟨H, [], [], Sub.refl, Sub.refl, J.slots.view J.sub, ⟨rfl, rfl⟩, List.nodup_nil, (fun _ z => nomatch z), (fun _ z => nomatch z), (fun a o e => .inl e), (fun a o e _ => e), fun j v e => by simp [callB] at e⟩
end VL
namespace VL
open PySem PySem.Spec PyProof.Rows L2 VL
mutual
def gdF : Fm → Bool
  | .sum x a s b => Cs.good x && (a.good && (Cs.good s && b.good))
  | .choice a s b Y Z e => (a.good && (Cs.good s && b.good)) && (gdL Y && (if e = true then gdL Z else true))
  | .round _ B => gdL B
  | .part _ B => gdL B
  | .leave _ => true
  | .again _ => true
  | .fin => true
def gdL : List Fm → Bool
  | [] => true
  | f :: fs => gdF f && gdL fs
end
mutual
def nsF : Fm → Nat
  | .choice _ _ _ Y Z e => nsL Y + (if e = true then nsL Z else 0) + 1
  | .round _ B => nsL B + 1
  | .part _ B => nsL B + 1
  | .sum _ _ _ _ => 1
  | .leave _ => 1
  | .again _ => 1
  | .fin => 1
def nsL : List Fm → Nat
  | [] => 0
  | f :: fs => nsF f + nsL fs
end
end VL
namespace VL
open PySem PySem.Spec PyProof.Rows L2 VL
end VL
namespace VL
open PySem PySem.Spec PyProof.Rows L2 VL
inductive FrH where
  | form
  | choice (a : Opd) (s : Cs) (b : Opd)
  | part (n : Int)
  | round (n : Int)
structure Fr where
  h : FrH
  yes : Option (List Fm)
  own : List Fm
def FrH.ns : FrH → List Int
  | .part n => [n]
  | .round n => [n]
  | _ => []
def FrH.isForm : FrH → Bool
  | .form => true
  | _ => false
def FrH.isCh : FrH → Bool
  | .choice _ _ _ => true
  | _ => false
def FrH.ok : FrH → Prop
  | .choice a s b => a.good = true ∧ Cs.good s = true ∧ b.good = true
  | _ => True
/-- the names that the laws of tidying draw -/
def allNm : List Cs := [[120], [121], [122], [119], [97, 98], [97, 97], [98, 98], [98, 97], [113, 49], [113], [113, 49, 49], [113, 50], [115, 117, 109, 49, 97, 97, 97, 97], [115, 117, 109, 49, 97, 97, 97, 98], [115, 117, 109, 50, 97, 97, 97, 97], [116, 117, 109, 49, 97, 97, 97, 97]]
def LnC : Ln → Prop
  | .sum x a _ b => (OpB 61 a ∧ OpB 61 b) ∧ x ∈ allNm
  | _ => True
/-- what a list of statements keeps -/
structure FmsOk (W R : Int → Prop) (F : List Fm) : Prop where
  ok : okL W R F
  gd : gdL F = true
  lb : ∀ l ∈ lnsL F, LnC l
theorem FmsOk.nil {W R : Int → Prop} : FmsOk W R [] := ⟨by rw [okL]; trivial, rfl, fun l hl => by rw [lnsL] at hl; exact nomatch hl⟩
def LvS (st : List Fr) (k : Int) : Prop := ∃ f ∈ st, f.h = .round k ∨ f.h = .part k
def AgS (st : List Fr) (k : Int) : Prop := ∃ f ∈ st, f.h = .round k
/-- a stack of frames, the top first -/
def StOk : List Fr → Prop
  | [] => True
  | f :: st => (FmsOk (LvS (f :: st)) (AgS (f :: st)) f.own ∧ dpL f.own + st.length ≤ 30) ∧ (∀ Y, f.yes = some Y → FmsOk (LvS (f :: st)) (AgS (f :: st)) Y ∧ dpL Y + st.length ≤ 30) ∧ f.h.ok ∧ (f.h.isForm = true ↔ st = []) ∧ StOk st
def frN (f : Fr) : List Int := f.h.ns ++ ((f.yes.elim [] hmL) ++ hmL f.own)
def stN (st : List Fr) : List Int := st.flatMap frN
def frC (f : Fr) : Nat := 1 + ((f.yes.elim 0 nsL) + nsL f.own)
def stC : List Fr → Nat
  | [] => 0
  | f :: st => frC f + stC st
theorem FmsOk.mono {W R W' R' : Int → Prop} {F : List Fm} (hw : ∀ k, W k → W' k) (hr : ∀ k, R k → R' k) (h : FmsOk W R F) : FmsOk W' R' F := ⟨ok_monoL F hw hr h.ok, h.gd, h.lb⟩
end VL
namespace VL
open PySem PySem.Spec PyProof.Rows L2 VL
structure FrsOk (k : Nat) (st : List Fr) : Prop where
  ok : StOk st
  ne : st ≠ []
  nd : (stN st).Nodup
  lt : ∀ n ∈ stN st, n < 97 * (k : Int)
  hy : ∀ f ∈ st, ∀ Y, f.yes = some Y → f.h.isCh = true
theorem FrsOk.up {k j : Nat} {st : List Fr} (h : FrsOk k st) (l : k ≤ j) : FrsOk j st := ⟨h.ok, h.ne, h.nd, fun n hn => by have := h.lt n hn; omega, h.hy⟩
theorem FrsOk.init : FrsOk 0 [⟨.form, none, []⟩] := by
  refine ⟨⟨⟨FmsOk.nil, by rw [dpL]; decide⟩, (fun Y e => nomatch e), trivial, ⟨fun _ => rfl, fun _ => rfl⟩, trivial⟩, (fun z => nomatch z), ?_, ?_, ?_⟩
  · show ((([] : List Int) ++ ([] ++ hmL [])) ++ []).Nodup
    rw [hmL]; exact List.nodup_nil
  · show ∀ n ∈ ((([] : List Int) ++ ([] ++ hmL [])) ++ []), _
    rw [hmL]; exact fun n hn => nomatch hn
  · intro f hf Y e
    rw [List.mem_singleton.mp hf] at e
    exact nomatch e
/-- a frame is opened -/
theorem FrsOk.push {k : Nat} {st : List Fr} {hd : FrH} (h : FrsOk k st) (l : st.length ≤ 29) (g : hd.ok) (nf : hd.isForm = false) (fresh : ∀ n ∈ hd.ns, n < 97 * (k : Int) ∧ n ∉ stN st) : FrsOk k (⟨hd, none, []⟩ :: st) := by
  have e : stN (⟨hd, none, []⟩ :: st) = hd.ns ++ stN st := by
    show (hd.ns ++ ([] ++ hmL [])) ++ stN st = _
    rw [hmL, List.append_nil, List.append_nil]
  have one : hd.ns.Nodup := by cases hd <;> simp [FrH.ns]
  refine ⟨⟨⟨FmsOk.nil, by show dpL [] + st.length ≤ 30; rw [dpL]; omega⟩, (fun Y e => nomatch e), g, ⟨fun z => (by have : hd.isForm = true := z; rw [nf] at this; exact nomatch this), fun z => absurd z h.ne⟩, h.ok⟩, (fun z => nomatch z), ?_, ?_, ?_⟩
  · rw [e, List.nodup_append]
    exact ⟨one, h.nd, fun a ha b hb z => (fresh a ha).2 (z ▸ hb)⟩
  · rw [e]
    intro n hn
    rcases List.mem_append.mp hn with hn | hn
    · exact (fresh n hn).1
    · exact h.lt n hn
  · intro f hf
    rcases List.mem_cons.mp hf with rfl | hf
    · exact fun Y e => nomatch e
    · exact h.hy f hf
/-- the form when all else is closed -/
theorem FrsOk.fin {k : Nat} {f : Fr} (h : FrsOk k [f]) : (okL (fun _ => False) (fun _ => False) f.own ∧ gdL f.own = true ∧ (∀ l ∈ lnsL f.own, LnC l)) ∧ dpL f.own ≤ 30 ∧ (hmL f.own).Nodup ∧ nsL f.own < stC [f] ∧ f.h.isForm = true ∧ f.yes = none := by
  have isf := h.ok.2.2.2.1.mpr rfl
  have hfm : f.h = .form := by
    cases e : f.h with
    | form => rfl
    | _ => rw [e] at isf; exact nomatch isf
  have hy : f.yes = none := by
    cases e : f.yes with
    | none => rfl
    | some Y => have := h.hy f (List.mem_cons_self ..) Y e; rw [hfm] at this; exact nomatch this
  obtain ⟨⟨h1, h2⟩, _⟩ := h.ok
  have hw : ∀ n, LvS [f] n → False := fun n ⟨x, hx, e⟩ => by
    rw [List.mem_singleton.mp hx, hfm] at e
    rcases e with e | e <;> exact nomatch e
  have hr : ∀ n, AgS [f] n → False := fun n ⟨x, hx, e⟩ => by
    rw [List.mem_singleton.mp hx, hfm] at e
    exact nomatch e
  refine ⟨⟨ok_monoL _ hw hr h1.ok, h1.gd, h1.lb⟩, h2, ?_, ?_, isf, hy⟩
  · have := h.nd
    have e : stN [f] = hmL f.own := by
      show (f.h.ns ++ (f.yes.elim [] hmL ++ hmL f.own)) ++ [] = _
      rw [hfm, hy, List.append_nil]; rfl
    rw [e] at this
    exact this
  · show nsL f.own < 1 + (f.yes.elim 0 nsL + nsL f.own) + 0
    rw [hy]
    show nsL f.own < 1 + (0 + nsL f.own) + 0
    omega
end VL
namespace VL
open PySem PySem.Spec PyProof.Rows L2 VL
def FrH.d : FrH → D
  | .form => .tup [.str [102, 111, 114, 109]]
  | .choice a s b => .tup [.str cChoice, opD a, .str s, opD b]
  | .part n => .tup [.str cPart, .int n]
  | .round n => .tup [.str cRound, .int n]
def frD (f : Fr) : D := .lst true (f.h.d :: ((f.yes.elim [] fun Y => [.lst false (fmsD Y)]) ++ [.lst true (fmsD f.own)]))
end VL
namespace VL
open PySem PySem.Spec PyProof.Rows L2 VL
def FrH.num : FrH → Int
  | .part n => n
  | .round n => n
  | _ => 0
end VL
namespace VL
open PySem PySem.Spec PyProof.Rows L2 VL
end VL
namespace VL
open PySem PySem.Spec PyProof.Rows L2 VL
end VL
namespace VL
open PySem PySem.Spec PyProof.Rows L2 VL
/-- every deed of the lines keeps I, and is a small one -/
structure KeepI (I : Dds → Prop) (L : List Ln) : Prop where
  few : ∀ d, I d → d.mem.length < 100000 ∧ d.done.length < 100000
  sum : ∀ x a s b, Ln.sum x a s b ∈ L → ∀ d, I d → ¬d.most ≤ (d.done.length : Int) → Sm (worthM d.mem b) ∧ ∀ v, madeV s (worthM d.mem a) (worthM d.mem b) = some v → I ⟨putM d.mem x v, d.most, d.done ++ [.sum x (worthM d.mem a) s (worthM d.mem b) v]⟩
  test : ∀ a s b, Ln.iff a s b ∈ L → ∀ d, I d → ¬d.most ≤ (d.done.length : Int) → I (testD d a s b)
theorem KeepI.mono {I : Dds → Prop} {L L' : List Ln} (h : KeepI I L) (s : ∀ l ∈ L', l ∈ L) : KeepI I L' := ⟨h.few, fun x a s' b hl => h.sum x a s' b (s _ hl), fun a s' b hl => h.test a s' b (s _ hl)⟩
/-- what a run of four thousand turns asks -/
def PreI (d : Dds) (L : List Ln) : Prop := d.rem < 4000 ∧ ∃ I : Dds → Prop, KeepI I L ∧ I d
theorem PreI.mono {d : Dds} {L L' : List Ln} (h : PreI d L) (s : ∀ l ∈ L', l ∈ L) : PreI d L' := ⟨h.1, let ⟨I, k, i⟩ := h.2; ⟨I, k.mono s, i⟩⟩
theorem PreI.few {d : Dds} {L : List Ln} (h : PreI d L) : d.mem.length < 100000 ∧ d.done.length < 100000 := let ⟨_, k, i⟩ := h.2; k.few d i
end VL
namespace VL
open PySem PySem.Spec PyProof.Rows L2 VL
def rngD (hi : Int) (n : Nat) : List D := (List.range n).map fun (i : Nat) => D.int (hi + (i : Int) * -1)
def viRd (t : VTA) : VTA := fun N ε Q => t N ε fun ds ε1 => ∃ i j : Int, ds = [.int i, .int j, .int (-1)] ∧ (-(2 ^ 62) ≤ i ∧ i < 2 ^ 62 ∧ -(2 ^ 62) ≤ j ∧ j < 2 ^ 62) ∧ Q (rngD i (i - j).toNat) ε1
end VL
namespace VL
open PySem PySem.Spec PyProof.Rows L2 VL
end VL
namespace VL
open PySem PySem.Calls PySem.Spec PyProof.Rows L2
/-- a walk: the iterator at i, over xs; At c: it has told c of them; fp: what it stands on -/
structure Zk (i : Addr) (fp : List Addr) (xs : Array Value) (At : Nat → Heap → Prop) : Prop where
  mem : i ∈ fp
  there : ∀ {c h}, At c h → ∀ b ∈ fp, ∃ o, h.get? b = some o
  keep : ∀ {c h g}, At c h → (∀ b ∈ fp, ∀ o, h.get? b = some o → g.get? b = some o) → At c g
  more : ∀ {P : Program} {w : World} {A : Around} {E : Value → Shared → Prop} {s : Shared} {c : Nat} {x : Value} {Q : Value → Shared → Prop}, At c s.heap → xs[c]? = some x →
    (∀ h, At (c + 1) h → Heap.SameBut i s.heap h → Q x { s with heap := h }) → wpAny (model P w) A (Builtin.SmallTypes.nextOf (.ref i)) Q E s
  stop : ∀ {P : Program} {w : World} {A : Around} {E : Value → Shared → Prop} {s : Shared} {c : Nat} {Q : Value → Shared → Prop}, A.handled = none → At c s.heap → xs[c]? = none →
    (∀ h e, Heap.ExtBut i s.heap h → (∃ o, h.get? e = some o ∧ o.cls = .type "StopIteration") → E (.ref e) { s with heap := h }) → wpAny (model P w) A (Builtin.SmallTypes.nextOf (.ref i)) Q E s
theorem Zk.ext {i j : Addr} {fp : List Addr} {xs : Array Value} {At : Nat → Heap → Prop} (W : Zk i fp xs At) {c : Nat} {h g : Heap} (a : At c h) (s : Heap.ExtBut j h g) (n : j ∉ fp) : At c g := W.keep a fun b hb o e => s b o (fun z => n (z ▸ hb)) e
/-- the zip object: p its pair that was told last, f whether that was seen alive -/
abbrev ZipF (h : Heap) (z TI TO : Addr) (p : Value) (f : Bool) : Prop :=
  h.get? z = some { cls := .type "zip", dict := none, data := .fields #[p, .bool f, .bool false, .ref TI, .ref TO], slots := #[] }
section
variable {P : Program} {w : World} {A : Around} {E : Value → Shared → Prop} {s : Shared} {z TI TO i1 i2 : Addr} {f1 f2 : List Addr} {xs ys : Array Value} {At1 At2 : Nat → Heap → Prop}
/-- the zip object behind c pairs -/
def ZAt (z TI TO i1 i2 : Addr) (At1 At2 : Nat → Heap → Prop) (own : Addr → Prop) (c : Nat) (h : Heap) : Prop :=
  (IsPair h TI (.ref i1) (.ref i2) ∧ (∃ u v, IsPair h TO u v) ∧ At1 c h ∧ At2 c h) ∧ (ZipF h z TI TO .none false ∨ ∃ (a : Addr) (f : Bool) (o : Obj), ZipF h z TI TO (rawInt a) f ∧ h.get? a = some o ∧ own a)
theorem ZAt.zip {c : Nat} {own : Addr → Prop} (x : ZAt z TI TO i1 i2 At1 At2 own c s.heap) : s.TypeIs (.ref z) "zip" := by
  rcases x.2 with e | ⟨_, _, _, e, _⟩ <;> exact ⟨_, e, rfl⟩
theorem ZAt.keep {c : Nat} {S : Addr} {own : Addr → Prop} {h g : Heap} (W1 : Zk i1 f1 xs At1) (W2 : Zk i2 f2 ys At2) (x : ZAt z TI TO i1 i2 At1 At2 own c h) (n : S ≠ z ∧ S ≠ TI ∧ S ≠ TO ∧ S ∉ f1 ∧ S ∉ f2) (no : ∀ a, own a → a ≠ S) (k : ∀ b u, b ≠ S → h.get? b = some u → g.get? b = some u) : ZAt z TI TO i1 i2 At1 At2 own c g := by
  obtain ⟨⟨hI, ⟨u, v, hO⟩, w1, w2⟩, hz⟩ := x
  refine ⟨⟨k _ _ n.2.1.symm hI, ⟨u, v, k _ _ n.2.2.1.symm hO⟩, W1.keep w1 fun b hb o => k b o fun e => n.2.2.2.1 (e ▸ hb), W2.keep w2 fun b hb o => k b o fun e => n.2.2.2.2 (e ▸ hb)⟩, hz.imp (k _ _ n.1.symm) ?_⟩
  exact fun ⟨a, f, o, e, ha, ow⟩ => ⟨a, f, o, k _ _ n.1.symm e, k _ _ (no a ow) ha, ow⟩
end
/-- the pairs that were told, at as -/
structure Prs (xs ys : Array Value) (lo : Addr) (h : Heap) (as : List Addr) : Prop where
  up : as.Pairwise (· < ·)
  lo : ∀ a ∈ as, lo ≤ a
  is : ∀ (j : Nat) (a : Addr), as[j]? = some a → ∃ x y, xs[j]? = some x ∧ ys[j]? = some y ∧ IsPair h a x y
theorem Prs.lt {xs ys : Array Value} {lo : Addr} {h : Heap} {as : List Addr} (p : Prs xs ys lo h as) {a : Addr} (ha : a ∈ as) : a < h.objs.size := by
  obtain ⟨j, e⟩ := List.mem_iff_getElem?.mp ha
  obtain ⟨_, _, _, _, e⟩ := p.is j a e
  exact Heap.lt_size e
theorem Prs.keep {xs ys : Array Value} {lo : Addr} {h g : Heap} {as : List Addr} (p : Prs xs ys lo h as) (k : ∀ a ∈ as, ∀ u, h.get? a = some u → g.get? a = some u) : Prs xs ys lo g as :=
  ⟨p.up, p.lo, fun j a e => let ⟨x, y, e1, e2, e3⟩ := p.is j a e; ⟨x, y, e1, e2, k a (List.mem_of_getElem? e) _ e3⟩⟩
end VL
namespace VL
open PySem PySem.Calls PySem.Spec PyProof.Rows L2
end VL
namespace VL
open PySem PySem.Spec PyProof.Rows L2 PySem.W
end VL
namespace VL
open PySem PySem.Calls PySem.Spec PyProof.Rows L2
end VL
namespace VL
open PySem PySem.Calls PySem.Spec PyProof.Rows L2
end VL
namespace VL
open PySem PySem.Calls PySem.Spec PyProof.Rows L2
end VL
namespace VL
open PySem PySem.Spec PyProof.Rows L2 VL
end VL
namespace VL
open PySem PySem.Spec PyProof.Rows L2 VL
/-- the row that node k stands for -/
def plc (rs : List Rw) (k : Nat) : Nat := (osR rs)[k]?.getD 0
section
variable {rs : List Rw} (R : RwOk rs)
theorem plc_at {k : Nat} (h : k < (osR rs).length) : (osR rs)[k]? = some (plc rs k) := by
  unfold plc
  rw [List.getElem?_eq_getElem h]
  rfl
theorem plc_mem {k : Nat} (h : k < (osR rs).length) : plc rs k ∈ osR rs := List.mem_of_getElem? (plc_at h)
include R
theorem idx_plc {k : Nat} (h : k < (osR rs).length) : (osR rs).idxOf (plc rs k) = k := by
  obtain ⟨p, e⟩ := List.getElem?_eq_some_iff.mp (plc_at h)
  rw [← e]
  exact (osR_ok R).nd.idxOf_getElem k p
omit R in
theorem plc_idx {o : Nat} (h : o ∈ osR rs) : plc rs ((osR rs).idxOf o) = o := by
  unfold plc
  rw [List.getElem?_eq_getElem (List.idxOf_lt_length_iff.mpr h), List.getElem_idxOf]
  rfl
theorem all_in {ks : List Nat} (h0 : 0 ∈ ks) (cl : ∀ k ∈ ks, ∀ t ∈ waysN (nodeAt rs (plc rs k)), (osR rs).idxOf t ∈ ks) : ∀ k, k < (osR rs).length → k ∈ ks := by
  intro k
  induction k using Nat.strongRecOn with
  | _ k ih =>
    intro hk
    by_cases z : k = 0
    · rw [z]; exact h0
    · have O := osR_ok R
      have ne : plc rs k ≠ comeTo rs 0 := fun e => z (by rw [← idx_plc R hk, e]; exact (os_first R).2)
      obtain ⟨A, B, p, e, hp, hx⟩ := O.par _ (plc_mem hk) ne
      have po : p ∈ osR rs := by rw [e]; exact List.mem_append_left _ hp
      have lp : (osR rs).idxOf p < k := by
        have nA : plc rs k ∉ A := by
          have nd := O.nd
          rw [e] at nd
          exact fun h => (List.nodup_append.mp nd).2.2 _ h _ List.mem_cons_self rfl
        have e1 : (osR rs).idxOf (plc rs k) = A.length := by
          rw [e, List.idxOf_append, if_neg nA, List.idxOf_cons_self, Nat.zero_add]
        rw [idx_plc R hk] at e1
        have e2 : (osR rs).idxOf p = A.idxOf p := by rw [e, List.idxOf_append, if_pos hp]
        rw [e2, e1]
        exact List.idxOf_lt_length_iff.mpr hp
      have ik := ih _ lp (Nat.lt_trans lp hk)
      have pl : p < rs.length := by have := O.rng _ po; rwa [rawOf_len] at this
      have hw : plc rs k ∈ waysN (nodeAt rs (plc rs ((osR rs).idxOf p))) := by
        rw [plc_idx po, waysN_eq]
        refine List.mem_reverse.mpr ?_
        unfold glOf at hx
        rw [rawOf_at pl] at hx
        exact hx
      have := cl _ ik _ hw
      rwa [idx_plc R hk] at this
end
/-- what the walk side by side has: the nodes ks with a row each, open ones among them -/
structure SbS (rs : List Rw) (ks op : List Nat) : Prop where
  nd : ks.Nodup
  z : 0 ∈ ks
  lt : ∀ k ∈ ks, k < (osR rs).length
  sub : ∀ k ∈ op, k ∈ ks
  cl : ∀ k ∈ ks, k ∉ op → ∀ t ∈ waysN (nodeAt rs (plc rs k)), (osR rs).idxOf t ∈ ks
theorem SbS.len {rs : List Rw} {ks op : List Nat} (I : SbS rs ks op) : ks.length ≤ (osR rs).length := nodup_len I.nd I.lt
theorem SbS.all {rs : List Rw} {ks : List Nat} (R : RwOk rs) (I : SbS rs ks []) : ks.length = (osR rs).length := by
  have a := all_in R I.z fun k hk => I.cl k hk (fun h => nomatch h)
  refine Nat.le_antisymm I.len ?_
  have h := nd_sub_len (xs := List.range (osR rs).length) (ys := ks) List.nodup_range fun x hx => a x (List.mem_range.mp hx)
  rwa [List.length_range] at h
end VL
namespace VL
open PySem PySem.Spec PyProof.Rows L2 VL
structure RingL (nx : Nat → Option Nat) (k l : Nat) : Prop where
  on : ∃ n, itJ nx n k = some l
  per : ∃ p, 0 < p ∧ itJ nx p l = some l
  least : ∀ n p x, 0 < p → itJ nx n k = some x → itJ nx p x = some x → l ≤ x
def CmR (nx : Nat → Option Nat) (k : Nat) (r : Int) : Prop := (∃ n q : Nat, itJ nx n k = some q ∧ nx q = none ∧ r = (q : Int)) ∨ ∃ l : Nat, RingL nx k l ∧ r = -1 - (l : Int)
section
variable {nx : Nat → Option Nat}
theorem it_end {q : Nat} (h : nx q = none) : ∀ {d x : Nat}, itJ nx d q = some x → d = 0 ∧ x = q
  | 0, x, e => by cases e; exact ⟨rfl, rfl⟩
  | d + 1, x, e => by
    have e : (nx q).bind (itJ nx d) = some x := e
    rw [h] at e
    cases e
theorem it_mul {p l : Nat} (h : itJ nx p l = some l) : ∀ j : Nat, itJ nx (j * p) l = some l
  | 0 => by rw [Nat.zero_mul]; rfl
  | j + 1 => by rw [Nat.succ_mul, itJ_add (it_mul h j)]; exact h
theorem stop_one {k n m q r : Nat} (h1 : itJ nx n k = some q) (h2 : nx q = none) (h3 : itJ nx m k = some r) (h4 : nx r = none) : q = r := by
  rcases Nat.le_total n m with h | h
  · obtain ⟨d, rfl⟩ : ∃ d, m = n + d := ⟨m - n, by omega⟩
    rw [itJ_add h1] at h3
    exact (it_end h2 h3).2.symm
  · obtain ⟨d, rfl⟩ : ∃ d, n = m + d := ⟨n - m, by omega⟩
    rw [itJ_add h3] at h1
    exact (it_end h4 h1).2
theorem stop_ring {k n q l : Nat} (h1 : itJ nx n k = some q) (h2 : nx q = none) (h : RingL nx k l) : False := by
  obtain ⟨m, h3⟩ := h.on
  obtain ⟨p, p0, h4⟩ := h.per
  have h5 := it_mul h4 (n + 1)
  have e := itJ_add (m := (n + 1) * p) h3
  rw [h5] at e
  have le : n + 1 ≤ (n + 1) * p := Nat.le_mul_of_pos_right _ p0
  obtain ⟨d, hd⟩ : ∃ d, m + (n + 1) * p = n + (d + 1) := ⟨m + (n + 1) * p - n - 1, by omega⟩
  rw [hd, itJ_add h1] at e
  have := (it_end h2 e).1
  omega
theorem CmR.one {k : Nat} {r s : Int} (h : CmR nx k r) (g : CmR nx k s) : r = s := by
  rcases h with ⟨n, q, h1, h2, rfl⟩ | ⟨l, h, rfl⟩ <;> rcases g with ⟨m, q', g1, g2, rfl⟩ | ⟨l', g, rfl⟩
  · rw [stop_one h1 h2 g1 g2]
  · exact (stop_ring h1 h2 g).elim
  · exact (stop_ring g1 g2 h).elim
  · obtain ⟨n, a1⟩ := h.on
    obtain ⟨p, a2, a3⟩ := h.per
    obtain ⟨m, b1⟩ := g.on
    obtain ⟨p', b2, b3⟩ := g.per
    have c1 := h.least m p' l' b2 b1 b3
    have c2 := g.least n p l a2 a1 a3
    omega
theorem it_unstep {n k b x : Nat} (hb : nx k = some b) : itJ nx (n + 1) k = some x ↔ itJ nx n b = some x := by
  show (nx k).bind (itJ nx n) = some x ↔ _
  rw [hb]
  exact Iff.rfl
theorem CmR.step {k b : Nat} (hb : nx k = some b) {r : Int} : CmR nx k r ↔ CmR nx b r := by
  constructor
  · rintro (⟨n, q, h1, h2, rfl⟩ | ⟨l, h, rfl⟩)
    · cases n with
      | zero => cases h1; rw [hb] at h2; cases h2
      | succ n => exact .inl ⟨n, q, (it_unstep hb).mp h1, h2, rfl⟩
    · refine .inr ⟨l, ⟨?_, h.per, fun n p x hp h1 h2 => h.least (n + 1) p x hp ((it_unstep hb).mpr h1) h2⟩, rfl⟩
      obtain ⟨n, h1⟩ := h.on
      cases n with
      | zero =>
        cases h1
        obtain ⟨p, p0, h3⟩ := h.per
        obtain ⟨p, rfl⟩ : ∃ d, p = d + 1 := ⟨p - 1, by omega⟩
        exact ⟨p, (it_unstep hb).mp h3⟩
      | succ n => exact ⟨n, (it_unstep hb).mp h1⟩
  · rintro (⟨n, q, h1, h2, rfl⟩ | ⟨l, h, rfl⟩)
    · exact .inl ⟨n + 1, q, (it_unstep hb).mpr h1, h2, rfl⟩
    · obtain ⟨n, h1⟩ := h.on
      refine .inr ⟨l, ⟨⟨n + 1, (it_unstep hb).mpr h1⟩, h.per, fun n p x hp h1 h2 => ?_⟩, rfl⟩
      cases n with
      | zero =>
        cases h1
        obtain ⟨p, rfl⟩ : ∃ d, p = d + 1 := ⟨p - 1, by omega⟩
        exact h.least p (p + 1) k hp ((it_unstep hb).mp h2) h2
      | succ n => exact h.least n p x hp ((it_unstep hb).mp h1) h2
end
end VL
namespace VL
open PySem PySem.Spec PyProof.Rows L2 VL
theorem lnsF_last (f : Fm) : ∃ M l, lnsF f = M ++ [l] ∧ ∀ n, l ≠ .round n := by
  cases f with
  | choice a s b Y Z e => exact ⟨.iff a s b :: (lnsL Y ++ (if e = true then .els :: lnsL Z else [])), .done, by rw [lnsF]; simp, by simp⟩
  | round n B => exact ⟨.round n :: lnsL B, .done, by rw [lnsF]; simp, by simp⟩
  | part n B => exact ⟨.part n :: lnsL B, .done, by rw [lnsF]; simp, by simp⟩
  | sum x a s b => exact ⟨[], .sum x a s b, by rw [lnsF]; rfl, by simp⟩
  | leave n => exact ⟨[], .leave n, by rw [lnsF]; rfl, by simp⟩
  | again n => exact ⟨[], .again n, by rw [lnsF]; rfl, by simp⟩
  | fin => exact ⟨[], .fin, by rw [lnsF]; rfl, by simp⟩
end VL
namespace VL
open PySem PySem.Spec PyProof.Rows L2 VL
end VL
namespace VL
open PySem PySem.Spec PyProof.Rows L2 VL
mutual
theorem snd_weakF : ∀ (f : Fm) {W R U V W' R' U' X : List Int}, sndF W R U f = some V → (∀ n ∈ W, n ∈ W') → (∀ n ∈ R, n ∈ R') → (∀ n ∈ U', n ∈ U ∨ n ∈ X) → (∀ n ∈ homes (lnsF f), n ∉ X) → ∃ V', sndF W' R' U' f = some V' ∧ ∀ n ∈ V', n ∈ V ∨ n ∈ X
  | .sum _ _ _ _, W, R, U, V, W', R', U', X, h, hw, hr, hu, hx => by rw [sndF] at h; cases h; exact ⟨U', by rw [sndF], hu⟩
  | .fin, W, R, U, V, W', R', U', X, h, hw, hr, hu, hx => by rw [sndF] at h; cases h; exact ⟨U', by rw [sndF], hu⟩
  | .leave n, W, R, U, V, W', R', U', X, h, hw, hr, hu, hx => by
    rw [sndF] at h
    split at h
    · rename_i z
      cases h
      exact ⟨U', by rw [sndF, if_pos (hw n z)], hu⟩
    · cases h
  | .again n, W, R, U, V, W', R', U', X, h, hw, hr, hu, hx => by
    rw [sndF] at h
    split at h
    · rename_i z
      cases h
      exact ⟨U', by rw [sndF, if_pos (hr n z)], hu⟩
    · cases h
  | .round n B, W, R, U, V, W', R', U', X, h, hw, hr, hu, hx => by
    rw [sndF] at h
    split at h
    · cases h
    · rename_i z
      rw [homes_round] at hx
      have nx : n ∉ X := hx n List.mem_cons_self
      obtain ⟨V', e, g⟩ := snd_weakL B (W' := W' ++ [n]) (R' := R' ++ [n]) (U' := U' ++ [n]) (X := X) h (fun m hm => by
          rcases List.mem_append.mp hm with hm | hm
          · exact List.mem_append_left _ (hw m hm)
          · exact List.mem_append_right _ hm) (fun m hm => by
          rcases List.mem_append.mp hm with hm | hm
          · exact List.mem_append_left _ (hr m hm)
          · exact List.mem_append_right _ hm) (fun m hm => by
          rcases List.mem_append.mp hm with hm | hm
          · rcases hu m hm with hm | hm
            · exact .inl (List.mem_append_left _ hm)
            · exact .inr hm
          · exact .inl (List.mem_append_right _ hm)) (fun m hm => hx m (List.mem_cons_of_mem _ hm))
      refine ⟨V', ?_, g⟩
      rw [sndF, if_neg, e]
      rintro (y | y)
      · rcases hu n y with y | y
        · exact z (.inl y)
        · exact nx y
      · exact z (.inr y)
  | .part n B, W, R, U, V, W', R', U', X, h, hw, hr, hu, hx => by
    rw [sndF] at h
    split at h
    · cases h
    · rename_i z
      rw [homes_part] at hx
      have nx : n ∉ X := hx n List.mem_cons_self
      obtain ⟨V', e, g⟩ := snd_weakL B (W' := W' ++ [n]) (R' := R') (U' := U' ++ [n]) (X := X) h (fun m hm => by
          rcases List.mem_append.mp hm with hm | hm
          · exact List.mem_append_left _ (hw m hm)
          · exact List.mem_append_right _ hm) hr (fun m hm => by
          rcases List.mem_append.mp hm with hm | hm
          · rcases hu m hm with hm | hm
            · exact .inl (List.mem_append_left _ hm)
            · exact .inr hm
          · exact .inl (List.mem_append_right _ hm)) (fun m hm => hx m (List.mem_cons_of_mem _ hm))
      refine ⟨V', ?_, g⟩
      rw [sndF, if_neg, e]
      rintro (y | y)
      · rcases hu n y with y | y
        · exact z (.inl y)
        · exact nx y
      · exact z (.inr y)
  | .choice a s b Y Z true, W, R, U, V, W', R', U', X, h, hw, hr, hu, hx => by
    rw [sndF] at h
    have hh : homes (lnsF (.choice a s b Y Z true)) = homes (lnsL Y) ++ homes (lnsL Z) := by rw [lnsF, if_pos rfl]; show homes (lnsL Y ++ (.els :: lnsL Z ++ [.done])) = _; rw [homes_app]; show _ ++ homes (lnsL Z ++ [.done]) = _; rw [homes_app]; simp [homes]
    rw [hh] at hx
    cases e1 : sndL W R U Y with
    | none => rw [e1] at h; cases h
    | some V1 =>
      rw [e1] at h
      have h : sndL W R V1 Z = some V := h
      obtain ⟨V2, e2, g2⟩ := snd_weakL Y (W' := W') (R' := R') (U' := U') (X := X) e1 hw hr hu (fun m hm => hx m (List.mem_append_left _ hm))
      obtain ⟨V3, e3, g3⟩ := snd_weakL Z (W' := W') (R' := R') (U' := V2) (X := X) h hw hr g2 (fun m hm => hx m (List.mem_append_right _ hm))
      exact ⟨V3, by rw [sndF, e2]; exact e3, g3⟩
  | .choice a s b Y Z false, W, R, U, V, W', R', U', X, h, hw, hr, hu, hx => by
    rw [sndF] at h
    have hh : homes (lnsF (.choice a s b Y Z false)) = homes (lnsL Y) := by rw [lnsF, if_neg (by decide)]; show homes (lnsL Y ++ [.done]) = _; rw [homes_app]; simp [homes]
    rw [hh] at hx
    cases e1 : sndL W R U Y with
    | none => rw [e1] at h; cases h
    | some V1 =>
      rw [e1] at h
      have h : some V1 = some V := h
      cases h
      obtain ⟨V2, e2, g2⟩ := snd_weakL Y (W' := W') (R' := R') (U' := U') (X := X) e1 hw hr hu hx
      exact ⟨V2, by rw [sndF, e2]; rfl, g2⟩
theorem snd_weakL : ∀ (F : List Fm) {W R U V W' R' U' X : List Int}, sndL W R U F = some V → (∀ n ∈ W, n ∈ W') → (∀ n ∈ R, n ∈ R') → (∀ n ∈ U', n ∈ U ∨ n ∈ X) → (∀ n ∈ homes (lnsL F), n ∉ X) → ∃ V', sndL W' R' U' F = some V' ∧ ∀ n ∈ V', n ∈ V ∨ n ∈ X
  | [], W, R, U, V, W', R', U', X, h, hw, hr, hu, hx => by rw [sndL] at h; cases h; exact ⟨U', by rw [sndL], hu⟩
  | f :: F, W, R, U, V, W', R', U', X, h, hw, hr, hu, hx => by
    rw [sndL] at h
    rw [lnsL, homes_app] at hx
    cases e1 : sndF W R U f with
    | none => rw [e1] at h; cases h
    | some V1 =>
      rw [e1] at h
      have h : sndL W R V1 F = some V := h
      obtain ⟨V2, e2, g2⟩ := snd_weakF f (W' := W') (R' := R') (U' := U') (X := X) e1 hw hr hu (fun m hm => hx m (List.mem_append_left _ hm))
      obtain ⟨V3, e3, g3⟩ := snd_weakL F (W' := W') (R' := R') (U' := V2) (X := X) h hw hr g2 (fun m hm => hx m (List.mem_append_right _ hm))
      exact ⟨V3, by rw [sndL, e2]; exact e3, g3⟩
end
/-- a form that will do: sound, of good lines, its numbers each another one, so many lines and so deep -/
structure FmG (n d : Nat) (F : List Fm) : Prop where
  sd : sndL [] [] [] F ≠ none
  ln : ∀ l ∈ lnsL F, LnOk l
  nd : (homes (lnsL F)).Nodup
  few : (lnsL F).length ≤ n
  dp : dpL F ≤ d
theorem lnsL_one (f : Fm) : lnsL [f] = lnsF f := by rw [lnsL, lnsL, List.append_nil]
theorem FmG.round {n d : Nat} {F : List Fm} (g : FmG n d F) {k : Int} (h0 : 0 ≤ k) (h1 : k ≤ 9999) (hk : k ∉ homes (lnsL F)) : FmG (n + 2) (d + 1) [.round k F] := by
  have e : lnsL [.round k F] = .round k :: (lnsL F ++ [.done]) := by rw [lnsL_one, lnsF]
  refine ⟨?_, ?_, ?_, ?_, ?_⟩
  · obtain ⟨V, hV⟩ := Option.ne_none_iff_exists'.mp g.sd
    obtain ⟨V', e, _⟩ := snd_weakL F (W' := [k]) (R' := [k]) (U' := [k]) (X := [k]) hV (fun _ h => (nomatch h)) (fun _ h => (nomatch h)) (fun _ h => .inr h) (fun m hm z => hk (by rw [List.mem_singleton.mp z] at hm; exact hm))
    rw [sndL, sndF, if_neg (fun z => by rcases z with z | z | z; { cases z }; { omega }; { omega })]
    show ¬(sndL ([] ++ [k]) ([] ++ [k]) ([] ++ [k]) F).bind _ = none
    rw [List.nil_append, e]
    rw [Option.bind_some, sndL]
    simp
  · rw [e]
    intro l hl
    rcases List.mem_cons.mp hl with rfl | hl
    · trivial
    · rcases List.mem_append.mp hl with hl | hl
      · exact g.ln l hl
      · rw [List.mem_singleton.mp hl]; trivial
  · rw [lnsL_one, homes_round]
    exact List.nodup_cons.mpr ⟨hk, g.nd⟩
  · rw [e]; have := g.few; simp; omega
  · rw [dpL, dpL, dpF]; have := g.dp; omega
theorem FmG.part {n d : Nat} {F : List Fm} (g : FmG n d F) {k : Int} (h0 : 0 ≤ k) (h1 : k ≤ 9999) (hk : k ∉ homes (lnsL F)) : FmG (n + 2) (d + 1) [.part k F] := by
  have e : lnsL [.part k F] = .part k :: (lnsL F ++ [.done]) := by rw [lnsL_one, lnsF]
  refine ⟨?_, ?_, ?_, ?_, ?_⟩
  · obtain ⟨V, hV⟩ := Option.ne_none_iff_exists'.mp g.sd
    obtain ⟨V', e, _⟩ := snd_weakL F (W' := [k]) (R' := []) (U' := [k]) (X := [k]) hV (fun _ h => (nomatch h)) (fun _ h => (nomatch h)) (fun _ h => .inr h) (fun m hm z => hk (by rw [List.mem_singleton.mp z] at hm; exact hm))
    rw [sndL, sndF, if_neg (fun z => by rcases z with z | z | z; { cases z }; { omega }; { omega })]
    show ¬(sndL ([] ++ [k]) [] ([] ++ [k]) F).bind _ = none
    rw [List.nil_append, e]
    rw [Option.bind_some, sndL]
    simp
  · rw [e]
    intro l hl
    rcases List.mem_cons.mp hl with rfl | hl
    · trivial
    · rcases List.mem_append.mp hl with hl | hl
      · exact g.ln l hl
      · rw [List.mem_singleton.mp hl]; trivial
  · rw [lnsL_one, homes_part]
    exact List.nodup_cons.mpr ⟨hk, g.nd⟩
  · rw [e]; have := g.few; simp; omega
  · rw [dpL, dpL, dpF]; have := g.dp; omega
theorem FmG.iff {n d : Nat} {F : List Fm} (g : FmG n d F) {a b : Opd} {s : Cs} (hl : LnOk (.iff a s b)) : FmG (n + 2) (d + 1) [.choice a s b F [] false] := by
  have e : lnsL [.choice a s b F [] false] = .iff a s b :: (lnsL F ++ [.done]) := by rw [lnsL_one, lnsF, if_neg (by decide)]; rfl
  refine ⟨?_, ?_, ?_, ?_, ?_⟩
  · obtain ⟨V, hV⟩ := Option.ne_none_iff_exists'.mp g.sd
    rw [sndL, sndF, hV]
    show ¬(some V).bind (fun U => sndL [] [] U []) = none
    rw [Option.bind_some, sndL]
    simp
  · rw [e]
    intro l h
    rcases List.mem_cons.mp h with rfl | h
    · exact hl
    · rcases List.mem_append.mp h with h | h
      · exact g.ln l h
      · rw [List.mem_singleton.mp h]; trivial
  · rw [e]
    show (homes (lnsL F ++ [.done])).Nodup
    rw [homes_app]
    simpa [homes] using g.nd
  · rw [e]; have := g.few; simp; omega
  · rw [dpL, dpL, dpF]; have := g.dp; simp; omega
theorem gen_fmg {F : List Fm} (g : GenOk (lnsL F)) : FmG 121 60 F := ⟨gen_sound g, g.ln, g.nd, g.few, deep_of (g.runs.mono fun _ _ => okT_okW)⟩
theorem FmG.up {n d n' d' : Nat} {F : List Fm} (g : FmG n d F) (h1 : n ≤ n') (h2 : d ≤ d') : FmG n' d' F := ⟨g.sd, g.ln, g.nd, Nat.le_trans g.few h1, Nat.le_trans g.dp h2⟩
end VL
namespace VL
open PySem PySem.Spec PyProof.Rows L2 VL
end VL
namespace VL
open PySem PySem.Spec PyProof.Rows L2 VL
theorem getP_put : ∀ {p : List Stp} {d0 d e : D}, getP d0 p = some d → getP (setP d0 p e) p = some e
  | [], d0, d, e, h => by rw [show setP d0 [] e = e by cases d0 <;> rfl]; exact getP_nil e
  | .ix j :: p, .lst true ds, d, e, h => by
    have h : (match ds[j]? with | some d => getP d p | none => none) = some d := h
    cases hj : ds[j]? with
    | none => rw [hj] at h; cases h
    | some c =>
      rw [hj] at h
      have ih := getP_put (e := e) h
      have e1 : setP (.lst true ds) (.ix j :: p) e = .lst true (ds.set j (setP c p e)) := by
        show (match ds[j]? with | some d => D.lst true (ds.set j (setP d p e)) | none => .lst true ds) = _
        rw [hj]
      rw [e1]
      show (match (ds.set j (setP c p e))[j]? with | some d => getP d p | none => none) = some e
      rw [List.getElem?_set_self (List.getElem?_eq_some_iff.mp hj).1]
      exact ih
  | .ix j :: p, .tup ds, d, e, h => by
    have h : (match ds[j]? with | some d => getP d p | none => none) = some d := h
    cases hj : ds[j]? with
    | none => rw [hj] at h; cases h
    | some c =>
      rw [hj] at h
      have ih := getP_put (e := e) h
      have e1 : setP (.tup ds) (.ix j :: p) e = .tup (ds.set j (setP c p e)) := by
        show (match ds[j]? with | some d => D.tup (ds.set j (setP d p e)) | none => .tup ds) = _
        rw [hj]
      rw [e1]
      show (match (ds.set j (setP c p e))[j]? with | some d => getP d p | none => none) = some e
      rw [List.getElem?_set_self (List.getElem?_eq_some_iff.mp hj).1]
      exact ih
  | .fd f :: p, .ins true C fs ds, d, e, h => by
    have h : (match fdIx fs f with | some j => (match ds[j]? with | some d => getP d p | none => none) | none => none) = some d := h
    cases hf : fdIx fs f with
    | none => rw [hf] at h; cases h
    | some j =>
      rw [hf] at h
      have h : (match ds[j]? with | some d => getP d p | none => none) = some d := h
      cases hj : ds[j]? with
      | none => rw [hj] at h; cases h
      | some c =>
        rw [hj] at h
        have ih := getP_put (e := e) h
        have e1 : setP (.ins true C fs ds) (.fd f :: p) e = .ins true C fs (ds.set j (setP c p e)) := by
          show (match fdIx fs f with | some j => (match ds[j]? with | some d => D.ins true C fs (ds.set j (setP d p e)) | none => .ins true C fs ds) | none => .ins true C fs ds) = _
          rw [hf]
          show (match ds[j]? with | some d => D.ins true C fs (ds.set j (setP d p e)) | none => .ins true C fs ds) = _
          rw [hj]
        rw [e1]
        simp only [getP, hf, List.getElem?_set_self (List.getElem?_eq_some_iff.mp hj).1, ih]
  | .fd _ :: p, .tup ds, d, e, h => by cases h
  | s :: p, .lst false ds, d, e, h => by cases s <;> cases h
  | s :: p, .ins false C fs ds, d, e, h => by cases s <;> cases h
  | .fd _ :: p, .lst true ds, d, e, h => by cases h
  | .ix _ :: p, .ins true C fs ds, d, e, h => by cases h
  | s :: p, .hole, d, e, h => by cases s <;> cases h
  | s :: p, .val _, d, e, h => by cases s <;> cases h
  | s :: p, .non, d, e, h => by cases s <;> cases h
  | s :: p, .bl _, d, e, h => by cases s <;> cases h
  | s :: p, .int _, d, e, h => by cases s <;> cases h
  | s :: p, .str _, d, e, h => by cases s <;> cases h
  | s :: p, .ty _, d, e, h => by cases s <;> cases h
  | s :: p, .pin _ _, d, e, h => by cases s <;> cases h
  | s :: p, .exn _ _ _ _, d, e, h => by cases s <;> cases h
  | s :: p, .dK _ _ _, d, e, h => by cases s <;> cases h
  | s :: p, .dT _ _ _, d, e, h => by cases s <;> cases h
theorem setP_put : ∀ {p : List Stp} {d0 d e f : D}, getP d0 p = some d → setP (setP d0 p e) p f = setP d0 p f
  | [], d0, d, e, f, h => by
    have n : ∀ x y : D, setP x [] y = y := fun x y => by cases x <;> rfl
    simp only [n]
  | .ix j :: p, .lst true ds, d, e, f, h => by
    have h : (match ds[j]? with | some d => getP d p | none => none) = some d := h
    cases hj : ds[j]? with
    | none => rw [hj] at h; cases h
    | some c =>
      rw [hj] at h
      have ih := setP_put (e := e) (f := f) h
      have e1 : ∀ x, setP (.lst true ds) (.ix j :: p) x = .lst true (ds.set j (setP c p x)) := fun x => by
        show (match ds[j]? with | some d => D.lst true (ds.set j (setP d p x)) | none => .lst true ds) = _
        rw [hj]
      rw [e1, e1]
      show (match (ds.set j (setP c p e))[j]? with | some d => D.lst true ((ds.set j (setP c p e)).set j (setP d p f)) | none => .lst true (ds.set j (setP c p e))) = _
      rw [List.getElem?_set_self (List.getElem?_eq_some_iff.mp hj).1]
      show D.lst true ((ds.set j (setP c p e)).set j (setP (setP c p e) p f)) = _
      rw [ih, List.set_set]
  | .ix j :: p, .tup ds, d, e, f, h => by
    have h : (match ds[j]? with | some d => getP d p | none => none) = some d := h
    cases hj : ds[j]? with
    | none => rw [hj] at h; cases h
    | some c =>
      rw [hj] at h
      have ih := setP_put (e := e) (f := f) h
      have e1 : ∀ x, setP (.tup ds) (.ix j :: p) x = .tup (ds.set j (setP c p x)) := fun x => by
        show (match ds[j]? with | some d => D.tup (ds.set j (setP d p x)) | none => .tup ds) = _
        rw [hj]
      rw [e1, e1]
      show (match (ds.set j (setP c p e))[j]? with | some d => D.tup ((ds.set j (setP c p e)).set j (setP d p f)) | none => .tup (ds.set j (setP c p e))) = _
      rw [List.getElem?_set_self (List.getElem?_eq_some_iff.mp hj).1]
      show D.tup ((ds.set j (setP c p e)).set j (setP (setP c p e) p f)) = _
      rw [ih, List.set_set]
  | .fd g :: p, .ins true C fs ds, d, e, f, h => by
    have h : (match fdIx fs g with | some j => (match ds[j]? with | some d => getP d p | none => none) | none => none) = some d := h
    cases hf : fdIx fs g with
    | none => rw [hf] at h; cases h
    | some j =>
      rw [hf] at h
      have h : (match ds[j]? with | some d => getP d p | none => none) = some d := h
      cases hj : ds[j]? with
      | none => rw [hj] at h; cases h
      | some c =>
        rw [hj] at h
        have ih := setP_put (e := e) (f := f) h
        have e1 : ∀ es x c', es[j]? = some c' → setP (.ins true C fs es) (.fd g :: p) x = .ins true C fs (es.set j (setP c' p x)) := fun es x c' hj => by
          show (match fdIx fs g with | some j => (match es[j]? with | some d => D.ins true C fs (es.set j (setP d p x)) | none => .ins true C fs es) | none => .ins true C fs es) = _
          rw [hf]
          show (match es[j]? with | some d => D.ins true C fs (es.set j (setP d p x)) | none => .ins true C fs es) = _
          rw [hj]
        rw [e1 ds e c hj, e1 ds f c hj, e1 _ f (setP c p e) (List.getElem?_set_self (List.getElem?_eq_some_iff.mp hj).1), ih, List.set_set]
  | .fd _ :: p, .tup ds, d, e, f, h => by cases h
  | s :: p, .lst false ds, d, e, f, h => by cases s <;> cases h
  | s :: p, .ins false C fs ds, d, e, f, h => by cases s <;> cases h
  | .fd _ :: p, .lst true ds, d, e, f, h => by cases h
  | .ix _ :: p, .ins true C fs ds, d, e, f, h => by cases h
  | s :: p, .hole, d, e, f, h => by cases s <;> cases h
  | s :: p, .val _, d, e, f, h => by cases s <;> cases h
  | s :: p, .non, d, e, f, h => by cases s <;> cases h
  | s :: p, .bl _, d, e, f, h => by cases s <;> cases h
  | s :: p, .int _, d, e, f, h => by cases s <;> cases h
  | s :: p, .str _, d, e, f, h => by cases s <;> cases h
  | s :: p, .ty _, d, e, f, h => by cases s <;> cases h
  | s :: p, .pin _ _, d, e, f, h => by cases s <;> cases h
  | s :: p, .exn _ _ _ _, d, e, f, h => by cases s <;> cases h
  | s :: p, .dK _ _ _, d, e, f, h => by cases s <;> cases h
  | s :: p, .dT _ _ _, d, e, f, h => by cases s <;> cases h
section
variable {K : PySem.W.Frag}
/-- what was taken out is put where it was -/
theorem Rp.plug {G H : Hp} (su : Sub G H) : ∀ {p : List Stp} {d0 : D} {v0 : V} {F : List Addr} {v : V}, Rp K G H d0 v0 F → getP d0 p = some (.pin v .hole) →
    ∃ A C, F = A ++ C ∧ ∀ (d' : D) (B' : List Addr), Rp K G H d' v B' → Rp K G H (setP d0 p d') v0 (A ++ B' ++ C) ∧ AtP H (setP d0 p d') v0 p v
  | [], d0, v0, F, v, h, e => by
    have e : some d0 = some (.pin v .hole) := by cases d0 <;> exact e
    cases e
    obtain ⟨rfl, h⟩ := h
    have h : F = [] := h
    subst h
    refine ⟨[], [], rfl, fun d' B' r => ?_⟩
    rw [show setP (D.pin v0 D.hole) [] d' = d' from rfl]
    exact ⟨by simpa using r, .nil⟩
  | .ix j :: p, .lst true ds, v0, F, v, h, e => by
    obtain ⟨a, vs, F', rfl, s, rfl, r⟩ := h
    have e : (match ds[j]? with | some d => getP d p | none => none) = some (.pin v .hole) := e
    cases hj : ds[j]? with
    | none => rw [hj] at e; cases e
    | some c =>
      rw [hj] at e
      have l0 := r.len
      obtain ⟨w, A, B, C, hw, rfl, rw_, back⟩ := r.focus hj
      obtain ⟨A2, C2, rfl, g⟩ := Rp.plug su rw_ e
      refine ⟨a :: A ++ A2, C2 ++ C, by simp only [List.append_assoc, List.cons_append], fun d' B' r' => ?_⟩
      obtain ⟨q, at_⟩ := g d' B' r'
      have q2 := back G H _ w _ Sub.refl (fun a z => rfl) q
      rw [setSelf hw] at q2
      have e1 : setP (.lst true ds) (.ix j :: p) d' = .lst true (ds.set j (setP c p d')) := by
        show (match ds[j]? with | some d => D.lst true (ds.set j (setP d p d')) | none => .lst true ds) = _
        rw [hj]
      rw [e1]
      refine ⟨⟨a, vs, A ++ (A2 ++ B' ++ C2) ++ C, rfl, s, by simp only [List.append_assoc, List.cons_append], q2⟩, ?_⟩
      exact .lst s (List.getElem?_set_self (List.getElem?_eq_some_iff.mp hj).1) (by rw [List.length_set]; exact l0) hw at_
  | .ix j :: p, .tup ds, v0, F, v, h, e => by
    obtain ⟨a, vs, rfl, s, r⟩ := h
    have e : (match ds[j]? with | some d => getP d p | none => none) = some (.pin v .hole) := e
    cases hj : ds[j]? with
    | none => rw [hj] at e; cases e
    | some c =>
      rw [hj] at e
      have l0 := r.len
      obtain ⟨w, A, B, C, hw, rfl, rw_, back⟩ := r.focus hj
      obtain ⟨A2, C2, rfl, g⟩ := Rp.plug su rw_ e
      refine ⟨A ++ A2, C2 ++ C, by simp only [List.append_assoc], fun d' B' r' => ?_⟩
      obtain ⟨q, at_⟩ := g d' B' r'
      have q2 := back G H _ w _ Sub.refl (fun a z => rfl) q
      rw [setSelf hw] at q2
      have e1 : setP (.tup ds) (.ix j :: p) d' = .tup (ds.set j (setP c p d')) := by
        show (match ds[j]? with | some d => D.tup (ds.set j (setP d p d')) | none => .tup ds) = _
        rw [hj]
      have ea : A ++ A2 ++ B' ++ (C2 ++ C) = A ++ (A2 ++ B' ++ C2) ++ C := by simp only [List.append_assoc]
      rw [e1, ea]
      refine ⟨⟨a, vs, rfl, s, q2⟩, ?_⟩
      exact .tup (su _ _ s) (List.getElem?_set_self (List.getElem?_eq_some_iff.mp hj).1) (by rw [List.length_set]; exact l0) hw at_
  | .fd f :: p, .ins true C0 fs ds, v0, F, v, h, e => by
    obtain ⟨a, dx, vs, F', rfl, s, rfl, l, r⟩ := h
    have e : (match fdIx fs f with | some j => (match ds[j]? with | some d => getP d p | none => none) | none => none) = some (.pin v .hole) := e
    cases hf : fdIx fs f with
    | none => rw [hf] at e; cases e
    | some j =>
      rw [hf] at e
      have e : (match ds[j]? with | some d => getP d p | none => none) = some (.pin v .hole) := e
      cases hj : ds[j]? with
      | none => rw [hj] at e; cases e
      | some c =>
        rw [hj] at e
        have l0 := r.len
        obtain ⟨w, A, B, C, hw, rfl, rw_, back⟩ := r.focus hj
        obtain ⟨A2, C2, rfl, g⟩ := Rp.plug su rw_ e
        refine ⟨a :: A ++ A2, C2 ++ C, by simp only [List.append_assoc, List.cons_append], fun d' B' r' => ?_⟩
        obtain ⟨q, at_⟩ := g d' B' r'
        have q2 := back G H _ w _ Sub.refl (fun a z => rfl) q
        rw [setSelf hw] at q2
        have e1 : setP (.ins true C0 fs ds) (.fd f :: p) d' = .ins true C0 fs (ds.set j (setP c p d')) := by
          show (match fdIx fs f with | some j => (match ds[j]? with | some d => D.ins true C0 fs (ds.set j (setP d p d')) | none => .ins true C0 fs ds) | none => .ins true C0 fs ds) = _
          rw [hf]
          show (match ds[j]? with | some d => D.ins true C0 fs (ds.set j (setP d p d')) | none => .ins true C0 fs ds) = _
          rw [hj]
        rw [e1]
        refine ⟨⟨a, dx, vs, A ++ (A2 ++ B' ++ C2) ++ C, rfl, s, by simp only [List.append_assoc, List.cons_append], by simpa using l, q2⟩, ?_⟩
        exact .ins s hf (List.getElem?_set_self (List.getElem?_eq_some_iff.mp hj).1) (l.trans l0) hw at_
  | .fd _ :: p, .tup ds, v0, F, v, h, e => by cases e
  | s :: p, .lst false ds, v0, F, v, h, e => by cases s <;> cases e
  | s :: p, .ins false C fs ds, v0, F, v, h, e => by cases s <;> cases e
  | .fd _ :: p, .lst true ds, v0, F, v, h, e => by cases e
  | .ix _ :: p, .ins true C fs ds, v0, F, v, h, e => by cases e
  | s :: p, .hole, v0, F, v, h, e => by cases s <;> cases e
  | s :: p, .val _, v0, F, v, h, e => by cases s <;> cases e
  | s :: p, .non, v0, F, v, h, e => by cases s <;> cases e
  | s :: p, .bl _, v0, F, v, h, e => by cases s <;> cases e
  | s :: p, .int _, v0, F, v, h, e => by cases s <;> cases e
  | s :: p, .str _, v0, F, v, h, e => by cases s <;> cases e
  | s :: p, .ty _, v0, F, v, h, e => by cases s <;> cases e
  | s :: p, .pin _ _, v0, F, v, h, e => by cases s <;> cases e
  | s :: p, .exn _ _ _ _, v0, F, v, h, e => by cases s <;> cases e
  | s :: p, .dK _ _ _, v0, F, v, h, e => by cases s <;> cases e
  | s :: p, .dT _ _ _, v0, F, v, h, e => by cases s <;> cases e
variable {b : Bs} {σ : L2.St} {H : Hp} {ε : Ep} {T : List D} {Tv : List V}
theorem SI.plug {d1 d' : D} {v : V} (I : SI K b σ H ε (T ++ [d']) (Tv ++ [v])) (hl : T.length = Tv.length) {i : Nat} {p : List Stp} (e : ε[i]? = some (some d1)) (g : getP d1 p = some (.pin v .hole)) :
    SI K b σ H (ε.set i (some (setP d1 p d'))) T Tv ∧ ∃ v0, σ[i]? = some (some v0) ∧ AtP H (setP d1 p d') v0 p v := by
  obtain ⟨G, F, Ft, J⟩ := I
  obtain ⟨F1, FR, rfl, r1, r2⟩ := J.temps.split2 hl
  have r2 : Rp K G H d' v FR := RpL.one.mp r2
  obtain ⟨ov, A0, B0, C0, hs, rfl, ro, back⟩ := J.slots.focus e
  obtain ⟨v0, rfl, r0⟩ := ro
  obtain ⟨A, C, rfl, pl⟩ := r0.plug J.sub g
  obtain ⟨q1, at_⟩ := pl d' FR r2
  have q2 := back G H (some (setP d1 p d')) (some v0) (A ++ FR ++ C) Sub.refl (fun a z => rfl) ⟨v0, rfl, q1⟩
  rw [setSelf hs] at q2
  have pm : (A0 ++ (A ++ FR ++ C) ++ C0 ++ F1).Perm (A0 ++ (A ++ C) ++ C0 ++ (F1 ++ FR)) := by
    apply List.perm_iff_count.mpr
    intro a
    simp only [List.count_append]
    omega
  have sb : ∀ a, a ∈ A0 ++ (A ++ FR ++ C) ++ C0 ++ F1 → a ∈ A0 ++ (A ++ C) ++ C0 ++ (F1 ++ FR) := fun a z => pm.mem_iff.mp z
  exact ⟨⟨G, A0 ++ (A ++ FR ++ C) ++ C0, F1, J.s0, J.sub, q2, r1, pm.nodup_iff.mpr J.nd, fun a z => J.fr a (sb a z), fun a z => J.own a (sb a z), J.gn, J.keep, J.kept⟩, v0, hs, at_⟩
end
section
variable {X : Cv}
/-- a call that is handed what stands at a place, and leaves it there -/
theorem call_runP {P : VSp} {b : Bx X} {σ : L2.St} {H : Hp} {ε : Ep} {T : List D} {Tv : List V} {i : Nat} {p : List Stp} {d0 d : D} {v : V} {W : WX} {N : WV} {Q : D → Ep → Prop} {Q' : VK}
    (hl : T.length = Tv.length) (e : ε[i]? = some (some d0)) (g : getP d0 p = some d) (I : SI X.K b.1 σ H (ε.set i (some (setP d0 p (.pin v .hole)))) (T ++ [d]) (Tv ++ [v]))
    (q : P [d] (fun r ds' => ∃ o, ds' = [o] ∧ Q r (ε.set i (some (setP d0 p o)))) (fun cls row ds' => ∃ o, ds' = [o] ∧ N cls row (ε.set i (some (setP d0 p o))))) (mono : Mono P)
    (k : ∀ d v ε' H', SI X.K b.1 σ H' ε' (T ++ [d]) (Tv ++ [v]) → Q d ε' → Q' v H') (x : XL X.K b.1 T Tv W N) : Lift X.K 1 P [v] H Q' (fun cls d H' => W cls d σ H') := by
  obtain ⟨G, F, J, out, fr⟩ := I.enter hl
  have il : i < ε.length := (List.getElem?_eq_some_iff.mp e).1
  have e1 : (ε.set i (some (setP d0 p (.pin v .hole))))[i]? = some (some (setP d0 p (.pin v .hole))) := List.getElem?_set_self il
  have g1 : getP (setP d0 p (.pin v .hole)) p = some (.pin v .hole) := getP_put g
  have bk : ∀ (o r : D) (w : V) (H' : Hp), SI X.K (callB H G F) [] H' [] ([o] ++ [r]) ([v] ++ [w]) → SI X.K b.1 σ H' (ε.set i (some (setP d0 p o))) (T ++ [r]) (Tv ++ [w]) := fun o r w H' I' => by
    have I2 := out H' _ _ I'
    have I3 := SI.swap (A := [o]) (B := [r]) (C := []) (Av := [v]) (Bv := [w]) (Cv := []) (by simpa only [List.append_nil] using I2) hl rfl rfl
    have I4 : SI X.K b.1 σ H' (ε.set i (some (setP d0 p (.pin v .hole)))) ((T ++ [r]) ++ [o]) ((Tv ++ [w]) ++ [v]) := by simpa only [List.append_assoc, List.append_nil] using I3
    have I5 := (SI.plug I4 (by simp [hl]) e1 g1).1
    rw [List.set_set, setP_put g] at I5
    exact I5
  refine ⟨G, F, [d], J, rfl, mono _ _ _ _ _ (fun r ds' z w H' I' => ?_) (fun cls row ds' z dd w H' I' e n => ?_) q⟩
  · obtain ⟨o, rfl, z⟩ := z
    exact k r w _ H' (bk o r w H' I') z
  · obtain ⟨o, rfl, z⟩ := z
    exact x cls dd σ H' _ row w (bk o row w H' I') e (fr dd n) z
/-- place.m() -/
def vMethP (i C : Nat) (m : Cs) (vsp : VSp) (t : VTP) : VTE := fun N ε Q => t N ε fun p => ∃ d0 fs ds, ε[i]? = some (some d0) ∧ getP d0 p = some (.ins true C fs ds) ∧ fdIx fs m = none ∧
  vsp [.ins true C fs ds] (fun r ds' => ∃ o, ds' = [o] ∧ Q r (ε.set i (some (setP d0 p o)))) (fun cls row ds' => ∃ o, ds' = [o] ∧ N cls row (ε.set i (some (setP d0 p o))))
theorem ve_methP {i C k : Nat} {o : Expr} {m : Str} {mc : Cs} {apos pos : Pos} {t : VTP} {vsp : VSp} (F : Mv X.prog X.w X.K X.mg X.base C m k 1 vsp) (mo : Mono vsp) (cl : Cls X.K (cA X.K C)) (hm : m = toS mc) (hr : Room k X.A) (h : VP X o i t)
    {pl : Sem Bool}
    (h3 : eval (.Call (.Attribute o m apos) [] [] pos) X.env = (do
      let w ← eval o X.env
      standAt apos.atName
      let (g, r) ← holding [w] (getMethod w m pl)
      callWith pos g r (backTo pos (starEach [] X.env)) (backToKw pos (keywordEach [] X.env))) := by rfl) :
    VE X (.Call (.Attribute o m apos) [] [] pos) (vMethP i C mc vsp t) := by
  subst hm
  obtain ⟨f, fd, ps, hm, hb, F⟩ := F.ex
  obtain ⟨t', a1, a2⟩ := h.ex
  refine ⟨fun W => L2H.tMethH (cA X.K C) (toS mc) (Lift X.K 1 vsp) (WE W) (t' W) tNil, fun W tk => pe_methX0 (a1 W tk) cl hm F hr hb (fun σ => passAt tk σ) h3, fun b σ H ε T Tv W N Q Q' I q kk xl => ?_⟩
  refine a2 b σ H ε T Tv W N _ _ I q (fun p d0 d v0 v H1 s1 I1 e g hs at_ q1 => ?_) xl
  obtain ⟨d0', fs, ds, e', g', nf, q1⟩ := q1
  rw [e] at e'
  cases e'
  rw [g] at g'
  cases g'
  obtain ⟨G, B, FR, su, r, rr, nd, fr, back⟩ := I1.nil0.focusAt I.lenT e g hs at_
  obtain ⟨_, rfl⟩ := rr
  have J2 := back H1 (.pin v .hole) [] (.ins true C fs ds) v B (fun _ _ => rfl) ⟨rfl, rfl⟩ r (.inr rfl) ⟨[], by simp⟩
  obtain ⟨a, dx, vs, F', rfl, ha, rfl, hl, rl⟩ := r
  exact ⟨a, dx, _, rfl, ha, fzip_none nf, call_runP I.lenT e g J2 q1 mo kk xl⟩
/-- e.m(), e a new instance that nothing else names -/
def vMethT (C : Nat) (m : Cs) (vsp : VSp) (te : VTE) : VTE := fun N ε Q => te N ε fun d ε1 => ∃ fs ds, d = .ins true C fs ds ∧ fdIx fs m = none ∧
  vsp [d] (fun r ds' => ∃ o, ds' = [o] ∧ Q r ε1) (fun cls row ds' => ∃ o, ds' = [o] ∧ N cls row ε1)
theorem ve_methT {C k : Nat} {o : Expr} {m : Str} {mc : Cs} {apos pos : Pos} {te : VTE} {vsp : VSp} (F : Mv X.prog X.w X.K X.mg X.base C m k 1 vsp) (mo : Mono vsp) (cl : Cls X.K (cA X.K C)) (hm : m = toS mc) (hr : Room k X.A) (h : VE X o te)
    {pl : Sem Bool}
    (h3 : eval (.Call (.Attribute o m apos) [] [] pos) X.env = (do
      let w ← eval o X.env
      standAt apos.atName
      let (g, r) ← holding [w] (getMethod w m pl)
      callWith pos g r (backTo pos (starEach [] X.env)) (backToKw pos (keywordEach [] X.env))) := by rfl) :
    VE X (.Call (.Attribute o m apos) [] [] pos) (vMethT C mc vsp te) := by
  subst hm
  obtain ⟨f, fd, ps, hm, hb, F⟩ := F.ex
  obtain ⟨t', a1, a2⟩ := h.ex
  refine ⟨fun W => L2H.tMethH (cA X.K C) (toS mc) (Lift X.K 1 vsp) (WE W) (t' W) tNil, fun W tk => pe_methX0 (a1 W tk) cl hm F hr hb (fun σ => passAt tk σ) h3, fun b σ H ε T Tv W N Q Q' I q kk xl => ?_⟩
  refine a2 b σ H ε T Tv W N _ _ I q (fun d v ε1 H1 J q1 => ?_) xl
  obtain ⟨fs, ds, rfl, nf, q1⟩ := q1
  have hv : ∃ a dx vs, v = .ref a ∧ H1 a = some (.ins (cA X.K C) dx (fzip fs vs)) := by
    obtain ⟨G, F, Ft, J⟩ := J
    obtain ⟨F1, F2, rfl, r1, r2⟩ := J.temps.split2 I.lenT
    obtain ⟨a, dx, vs, F', e, ha, _⟩ := RpL.one.mp r2
    exact ⟨a, dx, vs, e, ha⟩
  obtain ⟨a, dx, vs, rfl, ha⟩ := hv
  exact ⟨a, dx, _, rfl, ha, fzip_none nf, call_run (ds := [.ins true C fs ds]) (vs := [.ref a]) (rs := [none]) I.lenT rfl rfl J trivial (mo _ _ _ _ _ (fun r l z => by obtain ⟨o, rfl, z⟩ := z; exact ⟨rfl, z⟩) (fun c r l z => by obtain ⟨o, rfl, z⟩ := z; exact ⟨rfl, z⟩) q1) (mo _) kk xl⟩
/-- place.append(e), where e may be a call -/
def vAppC (i : Nat) (t : VTP) (te : VTA) : VTE := fun N ε Q => t N ε fun p => ∃ d0 xs, ε[i]? = some (some d0) ∧ getP d0 p = some (.lst true xs) ∧ ∀ v : V, te N (ε.set i (some (setP d0 p (.pin v .hole)))) fun ys ε2 =>
  ∃ y, ys = [y] ∧ xs.length < 1000000 ∧ ε2 = ε.set i (some (setP d0 p (.pin v .hole))) ∧ Q .non (ε.set i (some (setP d0 p (.lst true (xs ++ [y])))))
theorem ve_appC {o e : Expr} {i : Nat} {t : VTP} {te : VTA} {apos cpos : Pos} (h : VP X o i t) (he : VA X [e] [none] te)
    (hbase : attributeBase o "append" X.env (eval o X.env) = eval o X.env := by rfl)
    (hfew : ((backTo cpos (starEach [e] X.env)).all (fun x => !x.1) && (backToKw cpos (keywordEach [] X.env)).all (fun x => x.1.isSome) && decide ([e].length + ([] : List Keyword).length + (if ([] : List Keyword).isEmpty then 0 else 1) < 30)) = true := by rfl)
    (hline : (apos.endLine == cpos.line) = true := by rfl) (hs : starEach [e] X.env = (false, eval e X.env) :: starEach [] X.env := by rfl) (hplain : (backTo cpos (starEach [] X.env)).any (·.1) = false := by rfl) :
    VE X (.Call (.Attribute o "append" apos) [e] [] cpos) (vAppC i t te) := by
  obtain ⟨t', a1, a2⟩ := h.ex
  obtain ⟨u', b1, b2⟩ := he.ex
  refine ⟨fun W => tBM X.K "list" rAppend (t' W) (u' W), fun W tk => pe_bm pa_list F.slot_list_append F.type_list_append mt_append (a1 W tk) (b1 W tk) hbase hfew hline hs hplain, fun b σ H ε T Tv W N Q Q' I q k x => ?_⟩
  refine a2 b σ H ε T Tv W N _ _ I q (fun p d0 d v0 v H1 s1 I1 e0 g hs at_ q1 => ?_) x
  obtain ⟨d0', xs, e1, g', q1⟩ := q1
  rw [e0] at e1
  cases e1
  have ty := tyV_list I1 e0 g' hs at_
  rw [g] at g'
  cases g'
  have il : i < ε.length := (List.getElem?_eq_some_iff.mp e0).1
  obtain ⟨G, B, FR, su, r, rr, nd, fr, back⟩ := I1.nil0.focusAt I.lenT e0 g hs at_
  obtain ⟨_, rfl⟩ := rr
  have J1 := back H1 (.pin v .hole) [] (.lst true xs) v B (fun _ _ => rfl) ⟨rfl, rfl⟩ r (.inr rfl) ⟨[], by simp⟩
  refine ⟨ty, b2 b σ H1 _ (T ++ [.lst true xs]) (Tv ++ [v]) W N _ _ J1 (q1 v) (fun ys ws ε2 H2 J2 l hh q2 => ?_) (x.more I.lenT rfl)⟩
  obtain ⟨y, rfl, hx, rfl, q2⟩ := q2
  obtain ⟨w, rfl⟩ : ∃ w, ws = [w] := by
    cases ws with
    | nil => simp at l
    | cons w ws =>
      cases ws with
      | nil => exact ⟨w, rfl⟩
      | cons _ _ => simp at l
  have J3 := SI.swap (A := [.lst true xs]) (B := [y]) (C := []) (Av := [v]) (Bv := [w]) (Cv := []) (by simpa only [List.append_nil, List.append_assoc] using J2) I.lenT rfl rfl
  have J4 : SI X.K b.1 σ H2 (ε.set i (some (setP d0 p (.pin v .hole)))) ((T ++ [y]) ++ [.lst true xs]) ((Tv ++ [w]) ++ [v]) := by simpa only [List.append_assoc, List.append_nil] using J3
  obtain ⟨J5, v1, hs1, at1⟩ := SI.plug J4 (by simp [I.lenT]) (List.getElem?_set_self il) (getP_put g)
  rw [List.set_set, setP_put g] at J5
  rw [setP_put g] at at1
  have e3 : (ε.set i (some (setP d0 p (.lst true xs))))[i]? = some (some (setP d0 p (.lst true xs))) := List.getElem?_set_self il
  refine mut_run mu_append J5 I.lenT e3 (getP_put g) hs1 at1 (show muAppend xs [y] = some (xs ++ [y], .non) from if_pos hx) fun w' H' J6 => k .non w' _ H' J6 ?_
  rw [List.set_set, setP_put g]
  exact q2
theorem fzip_set : ∀ {fs : List Cs} {vs : List V} {f : Cs} {j : Nat} {y : V}, fdIx fs f = some j → fs.length = vs.length → putF (toS f) y (fzip fs vs) = fzip fs (vs.set j y)
  | [], _, f, j, y, h, _ => by simp [fdIx] at h
  | g :: fs, [], f, j, y, _, hl => by simp at hl
  | g :: fs, w :: vs, f, j, y, h, hl => by
    unfold fdIx at h
    rw [List.idxOf?_cons] at h
    show putF (toS f) y ((toS g, w) :: fzip fs vs) = _
    unfold putF
    by_cases e : g = f
    · subst e
      simp at h
      subst h
      rw [if_pos rfl]
      rfl
    · have e1 : (g == f) = false := by simpa using e
      rw [e1] at h
      have e2 : ¬ toS g = toS f := fun z => e (toS_inj z)
      rw [if_neg e2]
      cases h3 : fs.idxOf? f with
      | none => rw [h3] at h; simp at h
      | some m =>
        rw [h3] at h
        simp at h
        subst h
        rw [fzip_set (show fdIx fs f = some m from h3) (Nat.succ.inj hl)]
        rfl
theorem SI.fldOld {K : PySem.W.Frag} {b : Bs} {σ : L2.St} {H : Hp} {ε : Ep} {T : List D} {Tv : List V} {d : D} {v : V} (I : SI K b σ H ε (T ++ [d]) (Tv ++ [v])) (hl : T.length = Tv.length) {i C j : Nat} {fs : List Cs} {ds : List D} {f : Cs} (e : ε[i]? = some (some (.ins true C fs ds))) (hf : fdIx fs f = some j) (hj : j < ds.length) :
    ∃ a dx vs, σ[i]? = some (some (.ref a)) ∧ H a = some (.ins (cA K C) dx (fzip fs vs)) ∧ fs.length = vs.length ∧ SI K b σ (upd H a (.ins (cA K C) dx (fzip fs (vs.set j v)))) (ε.set i (some (.ins true C fs (ds.set j d)))) T Tv := by
  obtain ⟨v0, v', G, B, FR, hs, at', su, r, rr, nd, fr, back⟩ := I.focus hl e (getP_nil ..)
  have e0 : v' = v0 := by cases at'; rfl
  subst e0
  obtain ⟨a, dx, vs, F', rfl, ha, rfl, hd, rl⟩ := r
  have hv := rl.len
  have rr : Rp K G H d v FR := RpL.one.mp rr
  refine ⟨a, dx, vs, hs, ha, hd.trans hv, ?_⟩
  have nd0 : a ∉ F' ++ FR := (List.nodup_cons.mp (by simpa using nd)).1
  have keep : ∀ c, c ≠ a → upd H a (.ins (cA K C) dx (fzip fs (vs.set j v))) c = H c := fun c h => upd_ne h
  obtain ⟨w, A, B, C', hw, rfl, rw_, bk⟩ := rl.focus (List.getElem?_eq_getElem hj)
  have rn := bk G H d v FR Sub.refl (fun _ _ => rfl) rr
  have J := back (upd H a (.ins (cA K C) dx (fzip fs (vs.set j v)))) (.ins true C fs (ds.set j d)) (a :: (A ++ FR ++ C')) .non .non [] (fun c hc => keep c fun z => hc (by rw [z]; exact List.mem_cons_self)) ?_ ⟨rfl, rfl⟩ (.inl (by simp)) ⟨B, ?_⟩
  · exact (J.pop hl)
  · refine ⟨a, dx, vs.set j v, A ++ FR ++ C', rfl, upd_same, rfl, by simpa using hd, ?_⟩
    refine rn.mono Sub.refl fun c hc => keep c fun z => nd0 ?_
    rw [← z]
    simp only [List.mem_append] at hc ⊢
    grind
  · apply List.perm_iff_count.mpr
    intro c
    simp only [List.count_append, List.count_cons, List.count_nil]
    omega
def vFldE (i C : Nat) (f : Cs) (t : VTE) : VTS := fun N ε => t N.rx ε fun d ε1 => ∃ fs ds j, ε1[i]? = some (some (.ins true C fs ds)) ∧ fdIx fs f = some j ∧ j < ds.length ∧ fs.length < 1000 ∧ N.nx (ε1.set i (some (.ins true C fs (ds.set j d))))
theorem vs_fldE {i C : Nat} {n x : Str} {f : Cs} {e : Expr} {t : VTE} {p1 p2 pos : Pos} (h : VE X e t) (hN : X.N[i]? = some n) (hv : Vis X.env.scope n) (cl : Cls X.K (cA X.K C)) (na : NoAttr X.K (cA X.K C) x) (hx : x = toS f)
    (hd : (n == ("__debug__" : Str)) = false := by decide) (hcd : (n == ("__classdict__" : Str)) = false := by decide) (hs : swapsWith e (some (.Attribute (.Name n p1) x p2)) pos.line X.env = pure false := by rfl) : VS X (.Assign [.Attribute (.Name n p1) x p2] e pos) (vFldE i C f t) := by
  subst hx
  obtain ⟨t', a1, a2⟩ := h.ex
  refine ⟨fun W => sFld X.K (tVar i) (t' W) (toS f), fun W tk => ps_fld (pe_var hN hv hd hcd) (a1 W tk) hs, fun b σ H ε T Tv W N E I q l x => ?_⟩
  refine a2 b σ H ε T Tv W N.rx _ _ I q (fun d v ε1 H1 J z => ?_) x
  obtain ⟨fs, ds, j, e1, hf, hj, hl, z⟩ := z
  obtain ⟨a, dx, vs, hs, ha, hlen, J2⟩ := J.fldOld I.lenT e1 hf hj
  refine ⟨_, hs, a, cA X.K C, dx, _, rfl, ha, cl, na, ?_, ?_⟩
  · unfold fzip
    rw [List.length_zip, List.length_map]
    omega
  · rw [fzip_set hf hlen]
    exact l.nx σ _ _ J2 z
end
end VL
namespace VL
open PySem PySem.Spec PyProof.Rows L2 VL
def lstC (a b : Cs) : Cs := a.dropWhile fun c => b.contains c
def sLstrip : List D → (D → Prop) → Prop := fun ds Q => ∃ a b, ds = [.str a, .str b] ∧ a.length < 1000000 ∧ Q (.str (lstC a b))
theorem drop_tw {α : Type} (p : α → Bool) (xs : List α) : xs.drop (xs.takeWhile p).length = xs.dropWhile p := by
  have e := List.takeWhile_append_dropWhile (p := p) (l := xs)
  have h : (xs.takeWhile p ++ xs.dropWhile p).drop (xs.takeWhile p).length = xs.dropWhile p := List.drop_left
  rw [e] at h
  exact h
theorem lstrip_S (a b : Cs) : Txt.lstripChars (toS a) (toS b) = toS (lstC a b) := by
  unfold Txt.lstripChars
  rw [stripBy_eq]
  have hl : stripLo (toS b).cps.contains true (toS a) = (a.takeWhile fun c => b.contains c).length := by
    show ((a.toArray).toList.takeWhile (b.toArray).contains).length = _
    congr 2
    funext c
    simp
  have hh : stripHi (toS b).cps.contains false (toS a) (stripLo (toS b).cps.contains true (toS a)) = a.length := by
    show (toS a).length = _
    exact toS_len a
  rw [hh, hl]
  unfold lstC
  rw [← drop_tw]
  show (⟨(a.toArray).extract _ a.length⟩ : Str) = ⟨(a.drop _).toArray⟩
  congr 1
  apply Array.ext'
  simp only [List.extract_toArray, List.extract_eq_take_drop]
  exact List.take_of_length_le (by rw [List.length_drop]; exact Nat.le_refl _)
theorem opn_lstrip {K : PySem.W.Frag} : OpN K (fun vs H Q => ∃ x xs, vs = x :: xs ∧ ∃ a b, x = .str a ∧ xs = [.str b] ∧ a.length ≤ sizeLine ∧ Q (.str (Txt.lstripChars a b)) H) sLstrip := OpN.mk fun G H ds vs F Q Q' hs r q k => by
  obtain ⟨a, b, rfl, h1, q⟩ := q
  obtain ⟨v, w, F1, F2, rfl, ⟨rfl, _⟩, ⟨rfl, _⟩⟩ := r.two
  refine ⟨_, _, rfl, _, _, rfl, rfl, by rw [toS_len]; have := big_line; omega, ?_⟩
  have := k _ _ _ (nwC (lstC a b)) q
  rw [← lstrip_S] at this
  exact this
theorem e_lstrip {a b : Cs} {Q : D → Prop} : sLstrip [.str a, .str b] Q ↔ a.length < 1000000 ∧ Q (.str (lstC a b)) := ⟨fun ⟨_, _, e, h, q⟩ => by cases e; exact ⟨h, q⟩, fun ⟨h, q⟩ => ⟨_, _, rfl, h, q⟩⟩
end VL
namespace VL
open PySem PySem.Spec PyProof.Rows L2 VL
def wdL : Ln → List Cs
  | .sum x a s b => [x, [61], opC a, s, opC b]
  | .iff a s b => [cIf, opC a, s, opC b]
  | .round n => [cRound, intC n]
  | .part n => [cPart, intC n]
  | .leave n => [cLeave, intC n]
  | .again n => [cAgain, intC n]
  | .fin => [cEnd]
  | .els => [cElse]
  | .done => [cDone]
def txtL (l : Ln) : Cs := TL.joinL [32] (wdL l)
/-- as it may stand in a text -/
def LnT : Ln → Prop
  | .sum x a s b => NameOk x ∧ OpdOk a ∧ signOk s ∧ OpdOk b
  | .iff a s b => OpdOk a ∧ testOk s ∧ OpdOk b
  | .round n => 0 ≤ n ∧ n ≤ 9999
  | .part n => 0 ≤ n ∧ n ≤ 9999
  | .leave n => 0 ≤ n ∧ n ≤ 9999
  | .again n => 0 ≤ n ∧ n ≤ 9999
  | _ => True
def numbR (ws : List Cs) (some : List Cs) : Option (Cs × Nat) := match ws with
  | [w, d] => if w ∈ some then (numR d 4).map fun n => (w, n) else none
  | _ => none
def onumD : Option (Cs × Nat) → D
  | some (w, n) => .tup [.str w, .int (n : Int)]
  | none => .non
def openD (ws : List Cs) : D := match testR ws with
  | some (a, s, b) => .tup [.str cChoice, opD a, .str s, opD b]
  | none => onumD (numbR ws [cRound, cPart])
def plainO (ws : List Cs) : Option D := if ws = [cEnd] then some (.tup [.str cEnd]) else match numbR ws [cLeave, cAgain] with
  | some (w, n) => some (.tup [.str w, .int (n : Int)])
  | none => match sumWR ws with
    | some (x, a, s, b) => some (.tup [.str cSum, .str x, opD a, .str s, opD b])
    | none => none
def hdD : Ln → D
  | .iff a s b => .tup [.str cChoice, opD a, .str s, opD b]
  | .round n => .tup [.str cRound, .int n]
  | .part n => .tup [.str cPart, .int n]
  | _ => .non
theorem hd_fz (l : Ln) : isFz (hdD l) = true := by cases l <;> simp [hdD, isFz, isFzL, opD_fz]
def opnL : Ln → Bool
  | .iff _ _ _ => true
  | .round _ => true
  | .part _ => true
  | _ => false
def plnL : Ln → Bool
  | .sum _ _ _ _ => true
  | .leave _ => true
  | .again _ => true
  | .fin => true
  | _ => false
theorem numR_int {n : Int} (h : 0 ≤ n ∧ n ≤ 9999) : numR (intC n) 4 = some n.toNat := by
  obtain ⟨k, rfl⟩ := Int.eq_ofNat_of_zero_le h.1
  rw [intC_nat, numR_num (by decide) (by omega)]
  rfl
theorem test_of {a b : Opd} {s : Cs} (h : OpdOk a ∧ testOk s ∧ OpdOk b) : testR [cIf, opC a, s, opC b] = some (a, s, b) := by
  show (if cIf ≠ [105, 102] ∨ s ∉ testSg then none else match opR (opC a), opR (opC b) with | some a, some b => some (a, s, b) | _, _ => none) = _
  rw [if_neg (by rcases h.2.1 with rfl | rfl <;> simp [testSg]), opR_op h.1, opR_op h.2.2]
theorem sum_of {x s : Cs} {a b : Opd} (h : NameOk x ∧ OpdOk a ∧ signOk s ∧ OpdOk b) : sumWR [x, [61], opC a, s, opC b] = some (x, a, s, b) := by
  show (if [61] ≠ [61] ∨ s ∉ sumSg ∨ isNameC x = false then none else match opR (opC a), opR (opC b) with | some a, some b => some (x, a, s, b) | _, _ => none) = _
  rw [if_neg (by rw [nameC_of h.1]; rcases h.2.2.1 with rfl | rfl | rfl | rfl | rfl | rfl <;> simp [sumSg]), opR_op h.2.1, opR_op h.2.2.2]
theorem numb_of {w : Cs} {n : Int} {ws : List Cs} (h : 0 ≤ n ∧ n ≤ 9999) (hw : w ∈ ws) : onumD (numbR [w, intC n] ws) = .tup [.str w, .int n] ∧ numbR [w, intC n] ws = some (w, n.toNat) := by
  have e : numbR [w, intC n] ws = some (w, n.toNat) := by
    show (if w ∈ ws then (numR (intC n) 4).map fun n => (w, n) else none) = _
    rw [if_pos hw, numR_int h]
    rfl
  rw [e]
  refine ⟨?_, rfl⟩
  show D.tup [.str w, .int ((n.toNat : Nat) : Int)] = _
  rw [Int.toNat_of_nonneg h.1]
theorem numb_no {w d : Cs} {ws : List Cs} (h : w ∉ ws) : numbR [w, d] ws = none := if_neg h
theorem open_of {l : Ln} (h : LnT l) (o : opnL l = true) : openD (wdL l) = hdD l := by
  cases l with
  | iff a s b =>
    unfold openD
    rw [show wdL (.iff a s b) = [cIf, opC a, s, opC b] from rfl, test_of h]
    rfl
  | round n =>
    show (match testR [cRound, intC n] with | some (a, s, b) => D.tup [.str cChoice, opD a, .str s, opD b] | none => onumD (numbR [cRound, intC n] [cRound, cPart])) = _
    exact (numb_of h (by simp)).1
  | part n =>
    show (match testR [cPart, intC n] with | some (a, s, b) => D.tup [.str cChoice, opD a, .str s, opD b] | none => onumD (numbR [cPart, intC n] [cRound, cPart])) = _
    exact (numb_of h (by simp)).1
  | _ => cases o
theorem open_no {l : Ln} (o : plnL l = true) : openD (wdL l) = .non := by
  cases l with
  | sum x a s b => rfl
  | leave n => show onumD (numbR [cLeave, intC n] [cRound, cPart]) = _; rw [numb_no (by decide)]; rfl
  | again n => show onumD (numbR [cAgain, intC n] [cRound, cPart]) = _; rw [numb_no (by decide)]; rfl
  | fin => rfl
  | _ => cases o
theorem plain_of {l : Ln} (h : LnT l) (o : plnL l = true) : plainO (wdL l) = some (lnD l) := by
  cases l with
  | sum x a s b =>
    unfold plainO
    rw [if_neg (by simp [wdL]), show wdL (.sum x a s b) = [x, [61], opC a, s, opC b] from rfl, sum_of h]
    rfl
  | leave n =>
    unfold plainO
    rw [if_neg (by simp [wdL]), show wdL (.leave n) = [cLeave, intC n] from rfl, (numb_of h (by simp)).2]
    show some (D.tup [.str cLeave, .int ((n.toNat : Nat) : Int)]) = _
    rw [Int.toNat_of_nonneg h.1]
    rfl
  | again n =>
    unfold plainO
    rw [if_neg (by simp [wdL]), show wdL (.again n) = [cAgain, intC n] from rfl, (numb_of h (by simp)).2]
    show some (D.tup [.str cAgain, .int ((n.toNat : Nat) : Int)]) = _
    rw [Int.toNat_of_nonneg h.1]
    rfl
  | fin => rfl
  | _ => cases o
theorem int_free {n : Int} (h : 0 ≤ n) {c : Nat} (hc : c < 48 ∨ 57 < c) : c ∉ intC n := by
  obtain ⟨k, rfl⟩ := Int.eq_ofNat_of_zero_le h
  rw [intC_nat]
  exact TL.numL_free hc
theorem wdL_free {l : Ln} (h : LnT l) {c : Nat} (hc : c = 32 ∨ c = 10) : ∀ w ∈ wdL l, c ∉ w := by
  have h1 : isLd c = false := by rcases hc with rfl | rfl <;> rfl
  have h2 : c ≠ 45 := by rcases hc with rfl | rfl <;> decide
  have h3 : c < 48 ∨ 57 < c := by rcases hc with rfl | rfl <;> omega
  have two : ∀ (w : Cs) (n : Int), 0 ≤ n → c ∉ w → ∀ v ∈ [w, intC n], c ∉ v := fun w n hn hw v hv => by
    simp only [List.mem_cons, List.not_mem_nil, or_false] at hv
    rcases hv with rfl | rfl
    · exact hw
    · exact int_free hn h3
  have k : ∀ w ∈ [cRound, cPart, cLeave, cAgain, cIf, cEnd, cElse, cDone], c ∉ w := by rcases hc with rfl | rfl <;> decide
  cases l with
  | sum x a s b =>
    obtain ⟨hx, ha, hs, hb⟩ := h
    intro w hw
    simp only [wdL, List.mem_cons, List.not_mem_nil, or_false] at hw
    rcases hw with rfl | rfl | rfl | rfl | rfl
    · exact name_free hx h1
    · rcases hc with rfl | rfl <;> decide
    · exact op_free ha h1 h2
    · rcases hs with rfl | rfl | rfl | rfl | rfl | rfl <;> (rcases hc with rfl | rfl <;> decide)
    · exact op_free hb h1 h2
  | iff a s b =>
    obtain ⟨ha, hs, hb⟩ := h
    intro w hw
    simp only [wdL, List.mem_cons, List.not_mem_nil, or_false] at hw
    rcases hw with rfl | rfl | rfl | rfl
    · exact k cIf (by simp)
    · exact op_free ha h1 h2
    · rcases hs with rfl | rfl <;> (rcases hc with rfl | rfl <;> decide)
    · exact op_free hb h1 h2
  | round n => exact two _ n h.1 (k _ (by simp))
  | part n => exact two _ n h.1 (k _ (by simp))
  | leave n => exact two _ n h.1 (k _ (by simp))
  | again n => exact two _ n h.1 (k _ (by simp))
  | fin => intro w hw; rw [List.mem_singleton.mp hw]; exact k _ (by simp)
  | els => intro w hw; rw [List.mem_singleton.mp hw]; exact k _ (by simp)
  | done => intro w hw; rw [List.mem_singleton.mp hw]; exact k _ (by simp)
theorem wdL_ne (l : Ln) : wdL l ≠ [] := by cases l <;> simp [wdL]
theorem txt_words {l : Ln} (h : LnT l) : TL.spl [32] 0 [] (txtL l) = wdL l := SX.spl_join (wdL_ne l) (wdL_free h (.inl rfl))
theorem txt_free {l : Ln} (h : LnT l) : 10 ∉ txtL l := joinL_free (by simp) (wdL_free h (.inr rfl))
/-- the first sign is none of blanks -/
theorem txt_head {l : Ln} (h : LnT l) : ∃ c t, txtL l = c :: t ∧ c ≠ 32 := by
  cases l with
  | sum x a s b =>
    obtain ⟨⟨⟨⟨c, t, rfl, hc⟩, hl⟩, _⟩, _⟩ := h
    refine ⟨c, t ++ ([32] ++ TL.joinL [32] [[61], opC a, s, opC b]), rfl, fun z => ?_⟩
    subst z
    cases hc
  | iff a s b => exact ⟨105, _, rfl, by decide⟩
  | round n => exact ⟨114, _, rfl, by decide⟩
  | part n => exact ⟨112, _, rfl, by decide⟩
  | leave n => exact ⟨108, _, rfl, by decide⟩
  | again n => exact ⟨97, _, rfl, by decide⟩
  | fin => exact ⟨101, _, rfl, by decide⟩
  | els => exact ⟨101, _, rfl, by decide⟩
  | done => exact ⟨100, _, rfl, by decide⟩
theorem lst_blank (k : Nat) {l : Ln} (h : LnT l) : lstC (List.replicate k 32 ++ txtL l) [32] = txtL l := by
  obtain ⟨c, t, e, hc⟩ := txt_head h
  rw [e]
  unfold lstC
  induction k with
  | zero =>
    show (c :: t).dropWhile _ = _
    rw [List.dropWhile_cons_of_neg (by simpa using hc)]
  | succ k ih =>
    rw [List.replicate_succ, List.cons_append, List.dropWhile_cons_of_pos (by simp)]
    exact ih
theorem lst_none (k : Nat) : lstC (List.replicate k 32) [32] = [] := by
  unfold lstC
  induction k with
  | zero => rfl
  | succ k ih => rw [List.replicate_succ, List.dropWhile_cons_of_pos (by simp)]; exact ih
theorem txt_ne {l : Ln} (h : LnT l) : txtL l ≠ [] := by
  obtain ⟨c, t, e, _⟩ := txt_head h
  rw [e]
  simp
theorem int_len {n : Int} (h : 0 ≤ n ∧ n ≤ 9999) : (intC n).length ≤ 4 := by
  obtain ⟨k, rfl⟩ := Int.eq_ofNat_of_zero_le h.1
  rw [intC_nat]
  exact num_len4 (by omega)
theorem txt_len {l : Ln} (g : LnT l) : (txtL l).length ≤ 80 := by
  have two : ∀ (w : Cs) (n : Int), w.length ≤ 5 → (0 ≤ n ∧ n ≤ 9999) → (TL.joinL [32] [w, intC n]).length ≤ 80 := fun w n hw h => by
    have := int_len h
    simp [TL.joinL]
    omega
  cases l with
  | sum x a s b =>
    have l2 : x.length ≤ 8 := g.1.2.1
    have l3 := opC_len g.2.1
    have l4 := opC_len g.2.2.2
    have l5 := sign_len g.2.2.1
    simp [txtL, wdL, TL.joinL]
    omega
  | iff a s b =>
    have l3 := opC_len g.1
    have l4 := opC_len g.2.2
    have l5 := test_len g.2.1
    simp [txtL, wdL, TL.joinL]
    omega
  | round n => exact two _ n (by decide) g
  | part n => exact two _ n (by decide) g
  | leave n => exact two _ n (by decide) g
  | again n => exact two _ n (by decide) g
  | fin => simp [txtL, wdL, TL.joinL]
  | els => simp [txtL, wdL, TL.joinL]
  | done => simp [txtL, wdL, TL.joinL]
theorem int_sgs {n : Int} (h : 0 ≤ n) : Sgs (intC n) := by
  obtain ⟨k, rfl⟩ := Int.eq_ofNat_of_zero_le h
  rw [intC_nat]
  exact sgs_num k
theorem wdL_sgs {l : Ln} (g : LnT l) : ∀ w ∈ wdL l, Sgs w := by
  have two : ∀ (w : Cs) (n : Int), 0 ≤ n → Sgs w → ∀ v ∈ [w, intC n], Sgs v := fun w n hn hw v hv => by
    simp only [List.mem_cons, List.not_mem_nil, or_false] at hv
    rcases hv with rfl | rfl
    · exact hw
    · exact int_sgs hn
  have k : ∀ w ∈ [cRound, cPart, cLeave, cAgain, cIf, cEnd, cElse, cDone, [61]], Sgs w := fun w hw => by
    simp only [List.mem_cons, List.not_mem_nil, or_false] at hw
    rcases hw with rfl | rfl | rfl | rfl | rfl | rfl | rfl | rfl | rfl <;> (intro c hc; simp at hc; omega)
  cases l with
  | sum x a s b =>
    intro w hw
    simp only [wdL, List.mem_cons, List.not_mem_nil, or_false] at hw
    rcases hw with rfl | rfl | rfl | rfl | rfl
    · exact sgs_good (name_good g.1)
    · exact k _ (by simp)
    · exact sgs_opC g.2.1
    · exact sgs_good (sign_good g.2.2.1)
    · exact sgs_opC g.2.2.2
  | iff a s b =>
    intro w hw
    simp only [wdL, List.mem_cons, List.not_mem_nil, or_false] at hw
    rcases hw with rfl | rfl | rfl | rfl
    · exact k _ (by simp)
    · exact sgs_opC g.1
    · exact sgs_good (test_good g.2.1)
    · exact sgs_opC g.2.2
  | round n => exact two _ n g.1 (k _ (by simp))
  | part n => exact two _ n g.1 (k _ (by simp))
  | leave n => exact two _ n g.1 (k _ (by simp))
  | again n => exact two _ n g.1 (k _ (by simp))
  | fin => intro w hw; rw [List.mem_singleton.mp hw]; exact k _ (by simp)
  | els => intro w hw; rw [List.mem_singleton.mp hw]; exact k _ (by simp)
  | done => intro w hw; rw [List.mem_singleton.mp hw]; exact k _ (by simp)
mutual
theorem lnt_F : ∀ (f : Fm) {W R U : List Int}, (∀ l ∈ lnsF f, LnOk l) → (∀ n ∈ W, 0 ≤ n ∧ n ≤ 9999) → (∀ n ∈ R, 0 ≤ n ∧ n ≤ 9999) → sndF W R U f ≠ none → ∀ l ∈ lnsF f, LnT l
  | .sum x a s b, W, R, U, h, hw, hr, sd, l, hl => by
    rw [lnsF] at h hl
    have e := List.mem_singleton.mp hl
    subst e
    exact h _ hl
  | .fin, W, R, U, h, hw, hr, sd, l, hl => by rw [lnsF] at hl; rw [List.mem_singleton.mp hl]; trivial
  | .leave n, W, R, U, h, hw, hr, sd, l, hl => by
    rw [lnsF] at hl
    rw [sndF] at sd
    rw [List.mem_singleton.mp hl]
    exact hw n (Decidable.not_not.mp fun z => sd (if_neg z))
  | .again n, W, R, U, h, hw, hr, sd, l, hl => by
    rw [lnsF] at hl
    rw [sndF] at sd
    rw [List.mem_singleton.mp hl]
    exact hr n (Decidable.not_not.mp fun z => sd (if_neg z))
  | .round n B, W, R, U, h, hw, hr, sd, l, hl => by
    rw [lnsF] at h hl
    rw [sndF] at sd
    by_cases z : n ∈ U ∨ n < 0 ∨ 9999 < n
    · exact absurd (if_pos z) sd
    rw [if_neg z] at sd
    have hn : 0 ≤ n ∧ n ≤ 9999 := by omega
    rcases List.mem_cons.mp hl with rfl | hl
    · exact hn
    · rcases List.mem_append.mp hl with hl | hl
      · refine lnt_L B (fun l hl => h l (List.mem_cons_of_mem _ (List.mem_append_left _ hl))) (fun m hm => ?_) (fun m hm => ?_) sd l hl
        · rcases List.mem_append.mp hm with hm | hm
          · exact hw m hm
          · rw [List.mem_singleton.mp hm]; exact hn
        · rcases List.mem_append.mp hm with hm | hm
          · exact hr m hm
          · rw [List.mem_singleton.mp hm]; exact hn
      · rw [List.mem_singleton.mp hl]; trivial
  | .part n B, W, R, U, h, hw, hr, sd, l, hl => by
    rw [lnsF] at h hl
    rw [sndF] at sd
    by_cases z : n ∈ U ∨ n < 0 ∨ 9999 < n
    · exact absurd (if_pos z) sd
    rw [if_neg z] at sd
    have hn : 0 ≤ n ∧ n ≤ 9999 := by omega
    rcases List.mem_cons.mp hl with rfl | hl
    · exact hn
    · rcases List.mem_append.mp hl with hl | hl
      · refine lnt_L B (fun l hl => h l (List.mem_cons_of_mem _ (List.mem_append_left _ hl))) (fun m hm => ?_) hr sd l hl
        rcases List.mem_append.mp hm with hm | hm
        · exact hw m hm
        · rw [List.mem_singleton.mp hm]; exact hn
      · rw [List.mem_singleton.mp hl]; trivial
  | .choice a s b Y Z e, W, R, U, h, hw, hr, sd, l, hl => by
    rw [lnsF] at h hl
    rw [sndF] at sd
    have sd2 : sndL W R U Y ≠ none := fun z => sd (by rw [z]; rfl)
    obtain ⟨V, hV⟩ : ∃ V, sndL W R U Y = some V := Option.ne_none_iff_exists'.mp sd2
    rcases List.mem_cons.mp hl with rfl | hl
    · exact h _ List.mem_cons_self
    · rcases List.mem_append.mp hl with hl | hl
      · exact lnt_L Y (fun l hl => h l (List.mem_cons_of_mem _ (List.mem_append_left _ hl))) hw hr sd2 l hl
      · rcases List.mem_append.mp hl with hl | hl
        · cases e with
          | false => simp at hl
          | true =>
            rw [if_pos rfl] at hl
            rcases List.mem_cons.mp hl with rfl | hl
            · trivial
            · have sd3 : sndL W R V Z ≠ none := fun z => sd (by rw [hV]; exact z)
              exact lnt_L Z (fun l hl => h l (List.mem_cons_of_mem _ (List.mem_append_right _ (List.mem_append_left _ (by rw [if_pos rfl]; exact List.mem_cons_of_mem _ hl))))) hw hr sd3 l hl
        · rw [List.mem_singleton.mp hl]; trivial
theorem lnt_L : ∀ (F : List Fm) {W R U : List Int}, (∀ l ∈ lnsL F, LnOk l) → (∀ n ∈ W, 0 ≤ n ∧ n ≤ 9999) → (∀ n ∈ R, 0 ≤ n ∧ n ≤ 9999) → sndL W R U F ≠ none → ∀ l ∈ lnsL F, LnT l
  | [], W, R, U, h, hw, hr, sd, l, hl => by rw [lnsL] at hl; cases hl
  | f :: F, W, R, U, h, hw, hr, sd, l, hl => by
    rw [lnsL] at h hl
    rw [sndL] at sd
    have sd2 : sndF W R U f ≠ none := fun z => sd (by rw [z]; rfl)
    obtain ⟨V, hV⟩ : ∃ V, sndF W R U f = some V := Option.ne_none_iff_exists'.mp sd2
    have sd3 : sndL W R V F ≠ none := fun z => sd (by rw [hV]; exact z)
    rcases List.mem_append.mp hl with hl | hl
    · exact lnt_F f (fun l hl => h l (List.mem_append_left _ hl)) hw hr sd2 l hl
    · exact lnt_L F (fun l hl => h l (List.mem_append_right _ hl)) hw hr sd3 l hl
end
theorem FmG.lnt {n d : Nat} {F : List Fm} (g : FmG n d F) : ∀ l ∈ lnsL F, LnT l := lnt_L F (W := []) (R := []) (U := []) g.ln (fun n h => (nomatch h)) (fun n h => (nomatch h)) g.sd
end VL
namespace VL
open PySem PySem.Spec PyProof.Rows L2 VL
abbrev cHeadF : Cs := [104, 101, 97, 100]
abbrev cNowF : Cs := [110, 111, 119]
def ysD : Option (List D) → D
  | none => .non
  | some ys => .lst false ys
/-- a list that is open -/
structure OfA where
  w : Cs
  r : List D
  y : Option (List D)
  xs : List D
def OfA.d (a : OfA) : D := .ins true 1 [cHeadF, cYes, cNowF] [.tup (.str a.w :: a.r), ysD a.y, .lst true a.xs]
structure OfA.ok (a : OfA) : Prop where
  r : isFzL a.r = true
  y : ∀ ys, a.y = some ys → isFzL ys = true
  xs : isFzL a.xs = true
  few : a.r.length < 100
  fewx : a.xs.length < 1000
theorem ysD_fz {y : Option (List D)} (h : ∀ ys, y = some ys → isFzL ys = true) : isFz (ysD y) = true := by
  cases y with
  | none => rfl
  | some ys => show (!false && isFzL ys) = true; rw [h ys rfl]; rfl
/-- the statement that it closes to -/
def OfA.st (a : OfA) : D := if a.w = cChoice then (match a.y with | none => D.tup (D.str a.w :: (a.r ++ [D.lst false a.xs, D.lst false []])) | some ys => D.tup (D.str a.w :: (a.r ++ [D.lst false ys, D.lst false a.xs]))) else D.tup (D.str a.w :: (a.r ++ [D.lst false a.xs]))
def ofH : Ln → OfA
  | .iff a s b => ⟨cChoice, [opD a, .str s, opD b], none, []⟩
  | .round n => ⟨cRound, [.int n], none, []⟩
  | .part n => ⟨cPart, [.int n], none, []⟩
  | _ => ⟨[], [], none, []⟩
inductive TkR : Ln → List OfA → List OfA → Prop
  | pln {l : Ln} {S : List OfA} {a : OfA} : plnL l = true → TkR l (S ++ [a]) (S ++ [⟨a.w, a.r, a.y, a.xs ++ [lnD l]⟩])
  | opn {l : Ln} {S : List OfA} : opnL l = true → S.length < 90 → TkR l S (S ++ [ofH l])
  | els {S : List OfA} {a : OfA} : a.w = cChoice → a.y = none → TkR .els (S ++ [a]) (S ++ [⟨a.w, a.r, some a.xs, []⟩])
  | done {S : List OfA} {a b : OfA} : TkR .done ((S ++ [b]) ++ [a]) (S ++ [⟨b.w, b.r, b.y, b.xs ++ [a.st]⟩])
end VL
namespace VL
open PySem PySem.Spec PyProof.Rows L2 VL
def repC (a : Cs) (n : Nat) : Cs := (List.replicate n a).flatten
def rMulS : R2 := fun x y H Q => ∃ (a : Cs) (k : Int), x = .str (toS a) ∧ y = .int k ∧ -1000 ≤ k ∧ k ≤ 1000 ∧ a.length ≤ 1000 ∧ Q (.str (toS (repC a k.toNat))) H
theorem rep_len (a : Cs) (n : Nat) : (repC a n).length = n * a.length := by
  unfold repC
  induction n with
  | zero => simp
  | succ n ih => rw [List.replicate_succ, List.flatten_cons, List.length_append, ih, Nat.succ_mul, Nat.add_comm]
theorem op_mulS {X : Cx} : OpR X (binaryOp .Mult) rMulS := by
  intro pins s σ H x y v u Q I rx ry h
  obtain ⟨a, k, rfl, rfl, h1, h2, h3, q⟩ := h
  obtain ⟨t, rfl⟩ := rx
  obtain ⟨t', rfl⟩ := ry
  have hl : k.toNat * a.length ≤ 1000 * 1000 := Nat.mul_le_mul (by omega) h3
  refine PySem.P.mul_str (by rw [decide_eq_false (by omega), decide_eq_false (by omega)]; rfl) (fun n1 _ => ?_) (fun n1 _ => ?_) ?_
  · rw [toS_len]
    have k0 : 1 ≤ k := by omega
    have e : (2 ^ 63 - 1) / k ≥ (2 ^ 63 - 1) / 1000 := by
      refine Int.le_ediv_of_mul_le (by omega) ?_
      have : (2 ^ 63 - 1) / 1000 * k ≤ (2 ^ 63 - 1) / 1000 * 1000 := Int.mul_le_mul_of_nonneg_left h2 (by decide)
      omega
    omega
  · rw [toS_len]
    show decide (a.length * k.toNat > sizeLine) = false
    rw [decide_eq_false_iff_not, Nat.mul_comm]
    have := big_line
    omega
  · have big := big_line
    by_cases k1 : k < 1
    · rw [if_pos k1]
      have e : repC a k.toNat = [] := by rw [show k.toNat = 0 by omega]; rfl
      rw [e] at q
      exact ⟨by decide, .str (toS []), H, I.tok _, ⟨_, rfl⟩, q⟩
    · rw [if_neg k1]
      by_cases k2 : (k == 1 || (toS a).length == 0) = true
      · rw [if_pos k2]
        have e : repC a k.toNat = a := by
          rw [Bool.or_eq_true, beq_iff_eq, beq_iff_eq, toS_len] at k2
          rcases k2 with rfl | k2
          · show (List.replicate 1 a).flatten = a
            simp
          · have : a = [] := List.length_eq_zero_iff.mp k2
            subst this
            unfold repC
            simp
        rw [e] at q
        exact ⟨.str (toS a), H, I, ⟨_, rfl⟩, q⟩
      · rw [if_neg k2]
        have e : (⟨(List.replicate k.toNat (toS a).cps).foldl (· ++ ·) #[]⟩ : Str) = toS (repC a k.toNat) := by
          have h : ∀ (n : Nat) (acc : Cs), (List.replicate n a.toArray).foldl (· ++ ·) acc.toArray = (acc ++ repC a n).toArray := fun n => by
            induction n with
            | zero => intro acc; simp [repC]
            | succ n ih =>
              intro acc
              rw [List.replicate_succ, List.foldl_cons]
              have e1 : acc.toArray ++ a.toArray = (acc ++ a).toArray := by simp
              rw [e1, ih]
              unfold repC
              rw [List.replicate_succ, List.flatten_cons, List.append_assoc]
          have := h k.toNat []
          rw [List.nil_append] at this
          show (⟨_⟩ : Str) = ⟨_⟩
          congr 1
        rw [e]
        exact ⟨by rw [toS_len, rep_len]; omega, .str (toS (repC a k.toNat)), H, I.tok _, ⟨_, rfl⟩, q⟩
def sMulS : List D → (D → Prop) → Prop := fun ds Q => ∃ a k, ds = [.str a, .int k] ∧ -1000 ≤ k ∧ k ≤ 1000 ∧ a.length ≤ 1000 ∧ Q (.str (repC a k.toNat))
theorem opn_mulS {K : PySem.W.Frag} : OpN K (r2N rMulS) sMulS := OpN.mk fun G H ds vs F Q Q' hs r q k => by
  obtain ⟨a, n, rfl, h1, h2, h3, q⟩ := q
  obtain ⟨v, w, F1, F2, rfl, ⟨rfl, _⟩, ⟨rfl, _⟩⟩ := r.two
  exact ⟨_, _, rfl, a, n, rfl, rfl, h1, h2, h3, k _ _ _ (nwC _) q⟩
theorem e_mulS {a : Cs} {k : Int} {Q : D → Prop} : sMulS [.str a, .int k] Q ↔ -1000 ≤ k ∧ k ≤ 1000 ∧ a.length ≤ 1000 ∧ Q (.str (repC a k.toNat)) := ⟨fun ⟨_, _, e, h⟩ => by cases e; exact h, fun h => ⟨_, _, rfl, h⟩⟩
theorem rep_one (c n : Nat) : repC [c] n = List.replicate n c := by
  unfold repC
  induction n with
  | zero => rfl
  | succ n ih => rw [List.replicate_succ, List.flatten_cons, ih]; rfl
theorem rep_two (c n : Nat) : repC [c, c] n = List.replicate (2 * n) c := by
  unfold repC
  induction n with
  | zero => rfl
  | succ n ih => rw [List.replicate_succ, List.flatten_cons, ih, show 2 * (n + 1) = 2 * n + 1 + 1 by omega, List.replicate_succ, List.replicate_succ]; rfl
end VL
namespace Pk54
open PySem PySem.Spec PyProof.Rows L2 VL
def top (i : Nat) : Stmt := PySem.Challenge.pw_unjump_k54_form_read.main.body.getD i (.Pass ⟨0, 0, 0, 0⟩)
abbrev s_Opened_statement : Stmt := inClass (top 27) 2
abbrev s_Opened_turned : Stmt := inClass (top 27) 1
abbrev s_Opened_init : Stmt := inClass (top 27) 0
abbrev s_lists_of : Stmt := top 6
abbrev s_sound_opening : Stmt := top 7
abbrev s_sound_statement : Stmt := top 8
abbrev s_sound_list : Stmt := top 9
abbrev s_sound : Stmt := top 10
abbrev s_number_read : Stmt := top 19
abbrev s_is_name : Stmt := top 20
abbrev s_operand_read : Stmt := top 21
abbrev s_sum_read : Stmt := top 22
abbrev s_test_read : Stmt := top 23
abbrev s_numbered : Stmt := top 28
abbrev s_opening : Stmt := top 29
abbrev s_plain : Stmt := top 30
abbrev s_take : Stmt := top 31
abbrev s_read_form : Stmt := top 32
abbrev s_Lraw : Stmt := top 34
abbrev s_Lmix : Stmt := top 35
abbrev s_Lkept : Stmt := top 36
abbrev s_Lsign : Stmt := top 37
abbrev s_Lword : Stmt := top 38
abbrev s_Lnames : Stmt := top 39
abbrev s_Loperand : Stmt := top 40
abbrev s_Lbegins : Stmt := top 41
abbrev s_Ldeed : Stmt := top 42
abbrev s_Lgoes : Stmt := top 43
abbrev s_Lfirst : Stmt := top 44
abbrev s_Lclose : Stmt := top 45
abbrev s_Lstep : Stmt := top 46
abbrev s_Llines : Stmt := top 47
abbrev s_Lnested : Stmt := top 48
abbrev s_Lalike : Stmt := top 49
abbrev s_Ldepth : Stmt := top 50
abbrev s_Lwrapped : Stmt := top 51
abbrev s_Lwords : Stmt := top 52
abbrev s_Lspread : Stmt := top 53
abbrev s_law : Stmt := top 54
def RLx : List String := ["NoForm", "TooGreat"]
def ctx : List (XC × XTab) := []
def ktx : List (XC × (String → Bool)) := []
abbrev s_ini : Stmt := inClass (top 1) 0
def sp_Opened_statement : VSp := fun ds A B => ∃ a : OfA, ds = [a.d] ∧ a.ok ∧ ∀ o, A a.st [o]
theorem mono_Opened_statement : Mono sp_Opened_statement := fun ds A A' B B' hA hB ⟨a, e, o, h⟩ => ⟨a, e, o, fun z => hA _ _ (h z)⟩
theorem c_Opened_statement {a : OfA} {A : D → List D → Prop} {B : Value → D → List D → Prop} (o : a.ok) (q : ∀ o, A a.st [o]) : sp_Opened_statement [a.d] A B := ⟨a, rfl, o, q⟩
def sp_Opened_turned : VSp := fun ds A B => ∃ a : OfA, ds = [a.d] ∧ a.ok ∧ ((a.w = cChoice ∧ a.y = none) → A .non [OfA.d ⟨a.w, a.r, some a.xs, []⟩]) ∧ (¬(a.w = cChoice ∧ a.y = none) → B (.type "NoForm") .non [a.d])
theorem mono_Opened_turned : Mono sp_Opened_turned := fun ds A A' B B' hA hB ⟨a, e, o, h1, h2⟩ => ⟨a, e, o, fun z => hA _ _ (h1 z), fun z => hB _ _ _ (h2 z)⟩
theorem c_Opened_turned {a : OfA} {A : D → List D → Prop} {B : Value → D → List D → Prop} (o : a.ok) (h : a.w = cChoice ∧ a.y = none) (q : A .non [OfA.d ⟨a.w, a.r, some a.xs, []⟩]) : sp_Opened_turned [a.d] A B := ⟨a, rfl, o, fun _ => q, fun z => absurd h z⟩
def sp_Opened_init : VSp := Rsp (fun a : Cs × List D => [.ins true 1 [] [], .tup (.str a.1 :: a.2)]) (fun a => isFzL a.2 = true) fun a r l => r = .non ∧ l = [OfA.d ⟨a.1, a.2, none, []⟩, .tup (.str a.1 :: a.2)]
theorem mono_Opened_init : Mono sp_Opened_init := Rsp.mono
theorem c_Opened_init {w : Cs} {r : List D} {A : D → List D → Prop} {B : Value → D → List D → Prop} (h : isFzL r = true) (q : A .non [OfA.d ⟨w, r, none, []⟩, .tup (.str w :: r)]) : sp_Opened_init [.ins true 1 [] [], .tup (.str w :: r)] A B := ⟨(w, r), rfl, h, fun _ _ ⟨e1, e2⟩ => by subst e1 e2; exact q⟩
def listsF : Fm → List (List Fm)
  | .choice _ _ _ Y Z e => [Y, if e = true then Z else []]
  | .round _ B => [B]
  | .part _ B => [B]
  | _ => []
def listsD (f : Fm) : List D := (listsF f).map fun B => D.lst false (fmsD B)
def sp_lists_of : VSp := Fsp (fun a : Fm => [fmD a]) (fun _ => True) fun a => .lst true (listsD a)
theorem mono_lists_of : Mono sp_lists_of := Fsp.mono
theorem c_lists_of {f : Fm} {d : D} {A : D → List D → Prop} {B : Value → D → List D → Prop} (e : d = fmD f) (q : A (.lst true (listsD f)) [d]) : sp_lists_of [d] A B := by subst e; exact ⟨f, rfl, trivial, q⟩
def metB (U : List Int) (n : Int) : Prop := n ∈ U ∨ n < 0 ∨ 9999 < n
def sp_sound_opening : VSp := Rsp (fun a : Cs × Int × List Fm × List Int => [.tup [.str a.1, .int a.2.1, .lst false (fmsD a.2.2.1)], usedD a.2.2.2]) (fun a => a.2.2.2.length < 1000) fun a r l => ∃ d, l = [.tup [.str a.1, .int a.2.1, .lst false (fmsD a.2.2.1)], d] ∧ ((metB a.2.2.2 a.2.1 ∧ r = .bl false) ∨ (¬metB a.2.2.2 a.2.1 ∧ r = .bl true ∧ d = usedD (a.2.2.2 ++ [a.2.1])))
theorem mono_sound_opening : Mono sp_sound_opening := Rsp.mono
theorem c_sound_opening {k : Cs} {n : Int} {F : List Fm} {U : List Int} {A : D → List D → Prop} {B : Value → D → List D → Prop} (h : U.length < 1000) (q1 : metB U n → ∀ d, A (.bl false) [.tup [.str k, .int n, .lst false (fmsD F)], d]) (q2 : ¬metB U n → A (.bl true) [.tup [.str k, .int n, .lst false (fmsD F)], usedD (U ++ [n])]) :
    sp_sound_opening [.tup [.str k, .int n, .lst false (fmsD F)], usedD U] A B := ⟨(k, n, F, U), rfl, h, fun _ _ ⟨d, e, g⟩ => by
  subst e
  rcases g with ⟨g, rfl⟩ | ⟨g, rfl, rfl⟩
  · exact q1 g d
  · exact q2 g⟩
def sp_sound_statement (n : Nat) : VSp := Rsp (fun a : Fm × List Int × List Int × List Int => [fmD a.1, .lst false (intsD a.2.1), .lst false (intsD a.2.2.1), usedD a.2.2.2]) (fun a => dpF a.1 ≤ n ∧ SndPre a.2.1 a.2.2.1 a.2.2.2 (dpF a.1) (lnsF a.1).length)
    fun a r l => SndPost (sndF a.2.1 a.2.2.1 a.2.2.2 a.1) [fmD a.1, .lst false (intsD a.2.1), .lst false (intsD a.2.2.1)] r l
theorem mono_sound_statement (n : Nat) : Mono (sp_sound_statement n) := Rsp.mono
theorem c_sound_statement {n : Nat} {f : Fm} {W R U : List Int} {A : D → List D → Prop} {B : Value → D → List D → Prop} (h : dpF f ≤ n ∧ SndPre W R U (dpF f) (lnsF f).length)
    (q1 : ∀ V, sndF W R U f = some V → A (.bl true) [fmD f, .lst false (intsD W), .lst false (intsD R), usedD V])
    (q2 : ∀ d, sndF W R U f = none → A (.bl false) [fmD f, .lst false (intsD W), .lst false (intsD R), d]) :
    sp_sound_statement n [fmD f, .lst false (intsD W), .lst false (intsD R), usedD U] A B := by
  refine ⟨(f, W, R, U), rfl, h, fun r l g => ?_⟩
  rcases g with ⟨V, e, rfl, rfl⟩ | ⟨e, rfl, d, rfl⟩
  · exact q1 V e
  · exact q2 d e
def sp_sound_list : Nat → VSp
  | 0 => fun _ _ _ => False
  | n + 1 => Rsp (fun a : List Fm × List Int × List Int × List Int => [.lst false (fmsD a.1), .lst false (intsD a.2.1), .lst false (intsD a.2.2.1), usedD a.2.2.2]) (fun a => dpL a.1 ≤ n ∧ SndPre a.2.1 a.2.2.1 a.2.2.2 (dpL a.1) (lnsL a.1).length)
    fun a r l => SndPost (sndL a.2.1 a.2.2.1 a.2.2.2 a.1) [.lst false (fmsD a.1), .lst false (intsD a.2.1), .lst false (intsD a.2.2.1)] r l
theorem mono_sound_list : ∀ n, Mono (sp_sound_list n)
  | 0 => fun _ _ _ _ _ _ _ h => h
  | _ + 1 => Rsp.mono
theorem c_sound_list {n : Nat} {F : List Fm} {W R U : List Int} {A : D → List D → Prop} {B : Value → D → List D → Prop} (h : dpL F < n ∧ SndPre W R U (dpL F) (lnsL F).length)
    (q1 : ∀ V, sndL W R U F = some V → A (.bl true) [.lst false (fmsD F), .lst false (intsD W), .lst false (intsD R), usedD V])
    (q2 : ∀ d, sndL W R U F = none → A (.bl false) [.lst false (fmsD F), .lst false (intsD W), .lst false (intsD R), d]) :
    sp_sound_list n [.lst false (fmsD F), .lst false (intsD W), .lst false (intsD R), usedD U] A B := by
  obtain ⟨m, rfl⟩ : ∃ m, n = m + 1 := ⟨n - 1, by omega⟩
  refine ⟨(F, W, R, U), rfl, ⟨by have := h.1; show dpL F ≤ m; omega, h.2⟩, fun r l g => ?_⟩
  rcases g with ⟨V, e, rfl, rfl⟩ | ⟨e, rfl, d, rfl⟩
  · exact q1 V e
  · exact q2 d e
def sp_sound : VSp := Fsp (fun a : List Fm => [.lst false (fmsD a)]) (fun a => dpL a ≤ 90 ∧ (lnsL a).length < 900) fun a => .bl (sndL [] [] [] a).isSome
theorem mono_sound : Mono sp_sound := Fsp.mono
theorem c_sound {F : List Fm} {A : D → List D → Prop} {B : Value → D → List D → Prop} (h : dpL F ≤ 90 ∧ (lnsL F).length < 900) (q : A (.bl (sndL [] [] [] F).isSome) [.lst false (fmsD F)]) : sp_sound [.lst false (fmsD F)] A B := ⟨F, rfl, h, q⟩
def onatD : Option Nat → D
  | some n => .int (n : Int)
  | none => .non
def sp_number_read : VSp := Fsp (fun a : Cs × Nat => [.str a.1, .int (a.2 : Int)]) (fun a => a.1.length < 1000000 ∧ a.2 ≤ 640) fun a => onatD (numR a.1 a.2)
theorem mono_number_read : Mono sp_number_read := Fsp.mono
theorem c_number_read {w : Cs} {m : Nat} {z : Int} {A : D → List D → Prop} {B : Value → D → List D → Prop} (hz : z = (m : Int)) (h : w.length < 1000000 ∧ m ≤ 640) (q : A (onatD (numR w m)) [.str w, .int z]) : sp_number_read [.str w, .int z] A B := by subst hz; exact ⟨(w, m), rfl, h, q⟩
def sp_is_name : VSp := Fsp (fun a : Cs => [.str a]) (fun a => a.length < 1000000) fun a => .bl (isNameC a)
theorem mono_is_name : Mono sp_is_name := Fsp.mono
theorem c_is_name {w : Cs} {A : D → List D → Prop} {B : Value → D → List D → Prop} (h : w.length < 1000000) (q : A (.bl (isNameC w)) [.str w]) : sp_is_name [.str w] A B := ⟨w, rfl, h, q⟩
def oopD : Option Opd → D
  | some a => opD a
  | none => .non
theorem oop_fz (o : Option Opd) : isFz (oopD o) = true := by cases o with | none => rfl | some a => exact opD_fz a
def sp_operand_read : VSp := Fsp (fun a : Cs => [.str a]) (fun a => a.length < 1000000) fun a => oopD (opR a)
theorem mono_operand_read : Mono sp_operand_read := Fsp.mono
theorem c_operand_read {w : Cs} {A : D → List D → Prop} {B : Value → D → List D → Prop} (h : w.length < 1000000) (q : A (oopD (opR w)) [.str w]) : sp_operand_read [.str w] A B := ⟨w, rfl, h, q⟩
def osumD : Option (Cs × Opd × Cs × Opd) → D
  | some a => .tup [.str cSum, .str a.1, opD a.2.1, .str a.2.2.1, opD a.2.2.2]
  | none => .non
def WsOk (ws : List Cs) : Prop := ∀ w ∈ ws, w.length < 1000000
def sp_sum_read : VSp := Fsp (fun a : List Cs => [.lst false (strsD a)]) WsOk fun a => osumD (sumWR a)
theorem mono_sum_read : Mono sp_sum_read := Fsp.mono
theorem c_sum_read {w : List Cs} {A : D → List D → Prop} {B : Value → D → List D → Prop} (h : WsOk w) (q : A (osumD (sumWR w)) [.lst false (strsD w)]) : sp_sum_read [.lst false (strsD w)] A B := ⟨w, rfl, h, q⟩
def otestD : Option (Opd × Cs × Opd) → D
  | some a => .tup [.str cTest, opD a.1, .str a.2.1, opD a.2.2]
  | none => .non
def WsOkT (ws : List Cs) : Prop := ∀ w ∈ ws, w.length < 1000000
def sp_test_read : VSp := Fsp (fun a : List Cs => [.lst false (strsD a)]) WsOkT fun a => otestD (testR a)
theorem mono_test_read : Mono sp_test_read := Fsp.mono
theorem c_test_read {w : List Cs} {A : D → List D → Prop} {B : Value → D → List D → Prop} (h : WsOkT w) (q : A (otestD (testR w)) [.lst false (strsD w)]) : sp_test_read [.lst false (strsD w)] A B := ⟨w, rfl, h, q⟩
def sp_numbered : VSp := Fsp (fun a : List Cs × List Cs => [.lst false (strsD a.1), .tup (strsD a.2)]) (fun a => ∀ w ∈ a.1, w.length < 1000000) fun a => onumD (numbR a.1 a.2)
theorem mono_numbered : Mono sp_numbered := Fsp.mono
theorem c_numbered {ws ss : List Cs} {A : D → List D → Prop} {B : Value → D → List D → Prop} (h : ∀ w ∈ ws, w.length < 1000000) (q : A (onumD (numbR ws ss)) [.lst false (strsD ws), .tup (strsD ss)]) : sp_numbered [.lst false (strsD ws), .tup (strsD ss)] A B := ⟨(ws, ss), rfl, h, q⟩
def sp_opening : VSp := Fsp (fun a : List Cs => [.lst false (strsD a)]) (fun a => ∀ w ∈ a, w.length < 1000000) fun a => openD a
theorem mono_opening : Mono sp_opening := Fsp.mono
theorem c_opening {ws : List Cs} {A : D → List D → Prop} {B : Value → D → List D → Prop} (h : ∀ w ∈ ws, w.length < 1000000) (q : A (openD ws) [.lst false (strsD ws)]) : sp_opening [.lst false (strsD ws)] A B := ⟨ws, rfl, h, q⟩
def sp_plain : VSp := fun ds A B => ∃ ws : List Cs, ds = [.lst false (strsD ws)] ∧ ((∀ w ∈ ws, w.length < 1000000) ∧ ∀ w ∈ ws, Sgs w) ∧ (∀ d, plainO ws = some d → A d ds) ∧ (plainO ws = none → B (.type "NoForm") .non ds)
theorem mono_plain : Mono sp_plain := fun ds A A' B B' hA hB ⟨a, e, o, h1, h2⟩ => ⟨a, e, o, fun d z => hA _ _ (h1 d z), fun z => hB _ _ _ (h2 z)⟩
theorem c_plain {ws : List Cs} {d : D} {A : D → List D → Prop} {B : Value → D → List D → Prop} (h : (∀ w ∈ ws, w.length < 1000000) ∧ ∀ w ∈ ws, Sgs w) (e : plainO ws = some d) (q : A d [.lst false (strsD ws)]) : sp_plain [.lst false (strsD ws)] A B := ⟨ws, rfl, h, fun d' z => by rw [e] at z; cases z; exact q, fun z => by rw [e] at z; cases z⟩
structure TkA where
  l : Ln
  S : List OfA
  S' : List OfA
structure TkA.pre (a : TkA) : Prop where
  ln : LnT a.l
  st : TkR a.l a.S a.S'
  ok : ∀ f ∈ a.S, f.ok
  few : a.S.length ≤ 90
def sp_take : VSp := Rsp (fun a : TkA => [.lst false (strsD (wdL a.l)), .lst true (a.S.map OfA.d)]) TkA.pre fun a r l => r = .non ∧ l = [.lst false (strsD (wdL a.l)), .lst true (a.S'.map OfA.d)]
theorem mono_take : Mono sp_take := Rsp.mono
theorem c_take {l : Ln} {S S' : List OfA} {A : D → List D → Prop} {B : Value → D → List D → Prop} (h1 : LnT l) (h2 : TkR l S S') (h3 : ∀ f ∈ S, f.ok) (h4 : S.length ≤ 90) (q : A .non [.lst false (strsD (wdL l)), .lst true (S'.map OfA.d)]) :
    sp_take [.lst false (strsD (wdL l)), .lst true (S.map OfA.d)] A B := ⟨⟨l, S, S'⟩, rfl, ⟨h1, h2, h3, h4⟩, fun _ _ ⟨e1, e2⟩ => by subst e1 e2; exact q⟩
/-- a text's lines are a form's -/
structure FTxt (ls : List Cs) (F : List Fm) : Prop where
  ne : ls ≠ []
  many : ls.length < 100000
  free : ∀ l ∈ ls, 10 ∉ l ∧ l.length < 10000
  lns : (ls.map fun l => lstC l [32]).filter (fun l => decide (l ≠ [])) = (lnsL F).map txtL
  ok : FmG 400 89 F
  size : (TL.joinL [10] ls).length < 1000000
def sp_read_form : VSp := Fsp (fun a : List Cs × List Fm => [.str (TL.joinL [10] a.1)]) (fun a => FTxt a.1 a.2) fun a => .lst true (fmsD a.2)
theorem mono_read_form : Mono sp_read_form := Fsp.mono
theorem c_read_form {ls : List Cs} {F : List Fm} {t : Cs} {A : D → List D → Prop} {B : Value → D → List D → Prop} (e : t = TL.joinL [10] ls) (h : FTxt ls F) (q : A (.lst true (fmsD F)) [.str t]) : sp_read_form [.str t] A B := by
  subst e
  exact ⟨(ls, F), rfl, h, q⟩
def sp_Lraw : VSp := Fsp (fun a : List Int × Int => [scriptD a.1, .int a.2]) (fun a => 0 ≤ a.2) fun a => .int (rawI a.1 a.2)
theorem mono_Lraw : Mono sp_Lraw := Fsp.mono
theorem c_Lraw {ns : List Int} {k : Int} {A : D → List D → Prop} {B : Value → D → List D → Prop} (h : 0 ≤ k) (q : A (.int (rawI ns k)) [scriptD ns, .int k]) : sp_Lraw [scriptD ns, .int k] A B := ⟨(ns, k), rfl, h, q⟩
def sp_Lmix : VSp := Fsp (fun a : List Int × Int => [scriptD a.1, .int a.2]) (fun a => a.1.length ≤ 63 ∧ 0 ≤ a.2 ∧ a.2 < 1000000) fun a => .int (mixI a.1 a.2)
theorem mono_Lmix : Mono sp_Lmix := Fsp.mono
theorem c_Lmix {ns : List Int} {k : Int} {A : D → List D → Prop} {B : Value → D → List D → Prop} (h : ns.length ≤ 63 ∧ 0 ≤ k ∧ k < 1000000) (q : A (.int (mixI ns k)) [scriptD ns, .int k]) : sp_Lmix [scriptD ns, .int k] A B := ⟨(ns, k), rfl, h, q⟩
def sp_Lkept : VSp := Fsp (fun _ : Unit => []) (fun _ => True) fun _ => .lst true (strsD keptW)
theorem mono_Lkept : Mono sp_Lkept := Fsp.mono
theorem c_Lkept {A : D → List D → Prop} {B : Value → D → List D → Prop} (q : A (.lst true (strsD keptW)) []) : sp_Lkept [] A B := ⟨(), rfl, trivial, q⟩
def sp_Lsign : VSp := Psp (fun a : Int × Bool => [.int a.1, .bl a.2]) (fun _ => True) fun a r => ∃ c, r = .str [c] ∧ isLd c = true ∧ (a.2 = true → isLet c = true)
theorem mono_Lsign : Mono sp_Lsign := Psp.mono
theorem c_Lsign {n : Int} {b : Bool} {A : D → List D → Prop} {B : Value → D → List D → Prop} (q : ∀ c, isLd c = true → (b = true → isLet c = true) → A (.str [c]) [.int n, .bl b]) : sp_Lsign [.int n, .bl b] A B := ⟨(n, b), rfl, trivial, fun _ ⟨c, e, h1, h2⟩ => by cases e; exact q c h1 h2⟩
def sp_Lword : VSp := Psp (fun a : Int × Nat => [.int a.1, .int (a.2 : Int)]) (fun a => 0 < a.2 ∧ a.2 ≤ 8) fun a r => ∃ s, r = .str s ∧ wordOk s ∧ s.length = a.2
theorem mono_Lword : Mono sp_Lword := Psp.mono
theorem c_Lword {n : Int} {z : Nat} {A : D → List D → Prop} {B : Value → D → List D → Prop} (h : 0 < z ∧ z ≤ 8) (q : ∀ s, wordOk s → s.length = z → A (.str s) [.int n, .int (z : Int)]) : sp_Lword [.int n, .int (z : Int)] A B := ⟨(n, z), rfl, h, fun _ ⟨s, e, h1, h2⟩ => by cases e; exact q s h1 h2⟩
def sp_Lnames : VSp := Psp (fun a : List Int => [scriptD a]) (fun a => a.length ≤ 63) fun _ r => ∃ nm, r = .lst true (strsD nm) ∧ Nms5 nm
theorem mono_Lnames : Mono sp_Lnames := Psp.mono
theorem c_Lnames {ns : List Int} {A : D → List D → Prop} {B : Value → D → List D → Prop} (h : ns.length ≤ 63) (q : ∀ nm, Nms5 nm → A (.lst true (strsD nm)) [scriptD ns]) : sp_Lnames [scriptD ns] A B := ⟨ns, rfl, h, fun _ ⟨nm, e, h⟩ => by cases e; exact q nm h⟩
def sp_Loperand : VSp := Psp (fun a : List Int × Int × List Cs × Int => [scriptD a.1, .int a.2.1, .lst false (strsD a.2.2.1), .int a.2.2.2]) (fun a => 0 ≤ a.2.1 ∧ Nms5 a.2.2.1) fun _ r => ∃ o : Opd, r = opD o ∧ OpdOk o
theorem mono_Loperand : Mono sp_Loperand := Psp.mono
theorem c_Loperand {ns : List Int} {k n : Int} {nm : List Cs} {A : D → List D → Prop} {B : Value → D → List D → Prop} (h : 0 ≤ k ∧ Nms5 nm) (q : ∀ o : Opd, OpdOk o → A (opD o) [scriptD ns, .int k, .lst false (strsD nm), .int n]) : sp_Loperand [scriptD ns, .int k, .lst false (strsD nm), .int n] A B := ⟨(ns, k, nm, n), rfl, h, fun _ ⟨o, e, g⟩ => by cases e; exact q o g⟩
def opens : Ln → Bool
  | .iff _ _ _ => true
  | .round _ => true
  | .part _ => true
  | _ => false
def sp_Lbegins : VSp := Fsp (fun a : Ln => [lnD a]) (fun _ => True) fun a => .bl (opens a)
theorem mono_Lbegins : Mono sp_Lbegins := Fsp.mono
theorem c_Lbegins {l : Ln} {A : D → List D → Prop} {B : Value → D → List D → Prop} (q : A (.bl (opens l)) [lnD l]) : sp_Lbegins [lnD l] A B := ⟨l, rfl, trivial, q⟩
def sp_Ldeed : VSp := Psp (fun a : List Int × Int × List Cs × Int => [scriptD a.1, .int a.2.1, .lst false (strsD a.2.2.1), .int a.2.2.2]) (fun a => 0 ≤ a.2.1 ∧ Nms5 a.2.2.1) fun a r => ∃ l : Ln, r = lnD l ∧ LnOk l ∧ ((∃ x b s c, l = .sum x b s c) ∨ (a.2.2.2 % 24 < 4 ∧ ∃ b s c, l = .iff b s c))
theorem mono_Ldeed : Mono sp_Ldeed := Psp.mono
theorem c_Ldeed {ns : List Int} {k n : Int} {nm : List Cs} {A : D → List D → Prop} {B : Value → D → List D → Prop} (h : 0 ≤ k ∧ Nms5 nm) (q : ∀ l : Ln, LnOk l → ((∃ x b s c, l = .sum x b s c) ∨ (n % 24 < 4 ∧ ∃ b s c, l = .iff b s c)) → A (lnD l) [scriptD ns, .int k, .lst false (strsD nm), .int n]) : sp_Ldeed [scriptD ns, .int k, .lst false (strsD nm), .int n] A B := ⟨(ns, k, nm, n), rfl, h, fun _ ⟨l, e, g, h2⟩ => by cases e; exact q l g h2⟩
def sp_Lgoes : VSp := Psp (fun a : List Tk × Int => [.lst false (stD a.1), .int a.2]) (fun a => a.1.length < 1000 ∧ ∀ n, home a.1 n → 0 ≤ n) fun a r => r = .non ∨ (∃ n, r = lnD (.leave n) ∧ home a.1 n) ∨ ∃ n, r = lnD (.again n) ∧ Tk.rnd n ∈ a.1
theorem mono_Lgoes : Mono sp_Lgoes := Psp.mono
theorem c_Lgoes {st : List Tk} {n : Int} {A : D → List D → Prop} {B : Value → D → List D → Prop} (h : st.length < 1000 ∧ ∀ n, home st n → 0 ≤ n) (q1 : A .non [.lst false (stD st), .int n]) (q2 : ∀ l : Ln, ((∃ n, l = .leave n ∧ home st n) ∨ ∃ n, l = .again n ∧ Tk.rnd n ∈ st) → A (lnD l) [.lst false (stD st), .int n]) : sp_Lgoes [.lst false (stD st), .int n] A B := ⟨(st, n), rfl, h, fun r hr => by
  rcases hr with rfl | ⟨m, rfl, hm⟩ | ⟨m, rfl, hm⟩
  · exact q1
  · exact q2 _ (.inl ⟨m, rfl, hm⟩)
  · exact q2 _ (.inr ⟨m, rfl, hm⟩)⟩
def firstI (ns : List Int) : Int := [mixI ns 911 / 8 % 10000, 0, 9999].getD (mixI ns 911 % 3).toNat 0
def sp_Lfirst : VSp := Fsp (fun a : List Int => [scriptD a]) (fun a => a.length ≤ 63) fun a => .int (firstI a)
theorem mono_Lfirst : Mono sp_Lfirst := Fsp.mono
theorem c_Lfirst {ns : List Int} {A : D → List D → Prop} {B : Value → D → List D → Prop} (h : ns.length ≤ 63) (q : A (.int (firstI ns)) [scriptD ns]) : sp_Lfirst [scriptD ns] A B := ⟨ns, rfl, h, q⟩
def sp_Lclose : VSp := Rsp (fun a : List Tk × Int => [.lst true (stD a.1), .int a.2]) (fun a => a.1 ≠ [] ∧ a.1.length < 1000) fun a r l => ∃ (ln : Ln) (st : List Tk), r = lnD ln ∧ l = [.lst true (stD st), .int a.2] ∧ stepT a.1 ln = some st ∧ (ln = .done ∨ ln = .els)
theorem mono_Lclose : Mono sp_Lclose := Rsp.mono
theorem c_Lclose {st : List Tk} {n : Int} {A : D → List D → Prop} {B : Value → D → List D → Prop} (h : st ≠ [] ∧ st.length < 1000) (q : ∀ (ln : Ln) (st' : List Tk), stepT st ln = some st' → (ln = .done ∨ ln = .els) → A (lnD ln) [.lst true (stD st'), .int n]) : sp_Lclose [.lst true (stD st), .int n] A B := ⟨(st, n), rfl, h, fun _ _ ⟨ln, st', e1, e2, h1, h2⟩ => by subst e1 e2; exact q ln st' h1 h2⟩
def sp_Lstep : VSp := Rsp (fun a : List Int × Nat × List Cs × List Tk => [scriptD a.1, .int (a.2.1 : Int), .lst false (strsD a.2.2.1), .lst true (stD a.2.2.2)]) (fun a => a.1.length ≤ 63 ∧ a.2.1 < 1000 ∧ Nms5 a.2.2.1 ∧ a.2.2.2.length ≤ 60 ∧ ∀ n, home a.2.2.2 n → 0 ≤ n) fun a r l => ∃ (ln : Ln) (st : List Tk), r = lnD ln ∧ l = [scriptD a.1, .int (a.2.1 : Int), .lst false (strsD a.2.2.1), .lst true (stD st)] ∧ GLn (firstI a.1) a.2.1 a.2.2.2 ln st
theorem mono_Lstep : Mono sp_Lstep := Rsp.mono
theorem c_Lstep {ns : List Int} {k : Nat} {nm : List Cs} {st : List Tk} {A : D → List D → Prop} {B : Value → D → List D → Prop} (h : ns.length ≤ 63 ∧ k < 1000 ∧ Nms5 nm ∧ st.length ≤ 60 ∧ ∀ n, home st n → 0 ≤ n) (q : ∀ (ln : Ln) (st' : List Tk), GLn (firstI ns) k st ln st' → A (lnD ln) [scriptD ns, .int (k : Int), .lst false (strsD nm), .lst true (stD st')]) : sp_Lstep [scriptD ns, .int (k : Int), .lst false (strsD nm), .lst true (stD st)] A B := ⟨(ns, k, nm, st), rfl, h, fun _ _ ⟨ln, st', e1, e2, h1⟩ => by subst e1 e2; exact q ln st' h1⟩
def sp_Llines : VSp := Psp (fun a : List Int × Nat => [scriptD a.1, .int (a.2 : Int)]) (fun a => a.1.length ≤ 63 ∧ a.2 ≤ 60) fun _ r => ∃ L, r = .lst true (L.map lnD) ∧ GenOk L
theorem mono_Llines : Mono sp_Llines := Psp.mono
theorem c_Llines {ns : List Int} {m : Nat} {A : D → List D → Prop} {B : Value → D → List D → Prop} (h : ns.length ≤ 63 ∧ m ≤ 60) (q : ∀ L, GenOk L → A (.lst true (L.map lnD)) [scriptD ns, .int (m : Int)]) : sp_Llines [scriptD ns, .int (m : Int)] A B := ⟨(ns, m), rfl, h, fun _ ⟨L, e, h⟩ => by cases e; exact q L h⟩
def sp_Lnested : VSp := Fsp (fun a : List Fm => [.lst false ((lnsL a).map lnD)]) (fun a => (lnsL a).length < 1000) fun a => .lst true (fmsD a)
theorem mono_Lnested : Mono sp_Lnested := Fsp.mono
theorem c_Lnested {F : List Fm} {A : D → List D → Prop} {B : Value → D → List D → Prop} (h : (lnsL F).length < 1000) (q : A (.lst true (fmsD F)) [.lst false ((lnsL F).map lnD)]) : sp_Lnested [.lst false ((lnsL F).map lnD)] A B := ⟨F, rfl, h, q⟩
/-- the same plain data, twice -/
def sp_Lalike : Nat → VSp
  | 0 => fun _ _ _ => False
  | n + 1 => Fsp (fun a : D => [a, a]) (fun a => plN n a = true) fun _ => .bl true
theorem mono_Lalike : ∀ n, Mono (sp_Lalike n)
  | 0 => fun _ _ _ _ _ _ _ h => h
  | _ + 1 => Fsp.mono
theorem c_Lalike {n : Nat} {x y : D} {A : D → List D → Prop} {B : Value → D → List D → Prop} (e : x = y) (h : plN n x = true) (q : A (.bl true) [x, x]) : sp_Lalike (n + 1) [x, y] A B := by
  subst e
  exact ⟨x, rfl, h, q⟩
def sp_Ldepth : VSp := Fsp (fun a : List Fm => [.lst false ((lnsL a).map lnD)]) (fun a => (lnsL a).length < 1000) fun a => .int ((dpL a + 1 : Nat) : Int)
theorem mono_Ldepth : Mono sp_Ldepth := Fsp.mono
theorem c_Ldepth {F : List Fm} {A : D → List D → Prop} {B : Value → D → List D → Prop} (h : (lnsL F).length < 1000) (q : A (.int ((dpL F + 1 : Nat) : Int)) [.lst false ((lnsL F).map lnD)]) : sp_Ldepth [.lst false ((lnsL F).map lnD)] A B := ⟨F, rfl, h, q⟩
structure WrA where
  F : List Fm
  num : Int
  many : Nat
  n : Nat
  d : Nat
def sp_Lwrapped : VSp := Psp (fun a : WrA => [.lst false ((lnsL a.F).map lnD), .int a.num, .int (a.many : Int)]) (fun a => FmG a.n a.d a.F ∧ a.n ≤ 200 ∧ a.many ≤ 90) fun a r => ∃ F', r = .lst false ((lnsL F').map lnD) ∧ FmG (a.n + 2 * a.many) (a.d + a.many) F'
theorem mono_Lwrapped : Mono sp_Lwrapped := Psp.mono
theorem c_Lwrapped {F : List Fm} {num : Int} {many n d : Nat} {A : D → List D → Prop} {B : Value → D → List D → Prop} (h : FmG n d F) (h1 : n ≤ 200) (h2 : many ≤ 90) (q : ∀ F', FmG (n + 2 * many) (d + many) F' → A (.lst false ((lnsL F').map lnD)) [.lst false ((lnsL F).map lnD), .int num, .int (many : Int)]) :
    sp_Lwrapped [.lst false ((lnsL F).map lnD), .int num, .int (many : Int)] A B := ⟨⟨F, num, many, n, d⟩, rfl, ⟨h, h1, h2⟩, fun _ ⟨F', e, g⟩ => by subst e; exact q F' g⟩
def sp_Lwords : VSp := Fsp (fun a : Ln => [lnD a]) LnT fun a => .str (txtL a)
theorem mono_Lwords : Mono sp_Lwords := Fsp.mono
theorem c_Lwords {l : Ln} {A : D → List D → Prop} {B : Value → D → List D → Prop} (h : LnT l) (q : A (.str (txtL l)) [lnD l]) : sp_Lwords [lnD l] A B := ⟨l, rfl, h, q⟩
/-- lines of a text, blanks ahead, lines without signs among them -/
structure SprOk (ls : List Cs) (L : List Ln) : Prop where
  lns : (ls.map fun l => lstC l [32]).filter (fun l => decide (l ≠ [])) = L.map txtL
  free : ∀ l ∈ ls, 10 ∉ l ∧ l.length ≤ 100
  few : ls.length ≤ 2 * L.length + 2
def sp_Lspread : VSp := Psp (fun a : List Int × List Ln => [scriptD a.1, .lst false (a.2.map lnD)]) (fun a => a.1.length ≤ 63 ∧ a.2.length ≤ 1000 ∧ ∀ l ∈ a.2, LnT l) fun a r => ∃ ls, r = .str (TL.joinL [10] ls) ∧ SprOk ls a.2
theorem mono_Lspread : Mono sp_Lspread := Psp.mono
theorem c_Lspread {s : List Int} {L : List Ln} {A : D → List D → Prop} {B : Value → D → List D → Prop} (h : s.length ≤ 63 ∧ L.length ≤ 1000 ∧ ∀ l ∈ L, LnT l) (q : ∀ ls, SprOk ls L → A (.str (TL.joinL [10] ls)) [scriptD s, .lst false (L.map lnD)]) : sp_Lspread [scriptD s, .lst false (L.map lnD)] A B := ⟨(s, L), rfl, h, fun _ ⟨ls, e, g⟩ => by subst e; exact q ls g⟩
def sp_law : VSp := Fsp (fun a : List Int => [scriptD a]) (fun a => a.length ≤ 63 ∧ ∀ z ∈ a, Builtin.Int.intBits z ≤ 1048576) fun _ => .bl true
theorem mono_law : Mono sp_law := Fsp.mono
def t_Opened_statement : VTS := vSeq (vIfS (vViewT (wOp sNe (w2 (wOp sIx (w2 (wFld 1 [104, 101, 97, 100] (wName 0)) (wC (.int 0)))) (wC (.str [99, 104, 111, 105, 99, 101]))))) (vRet (vOp sAdd [none, none] (va2 (vAt 0 (vpFd 0 1 [104, 101, 97, 100] (vpName 0))) (vTup (vaCons (vStill (vTake 0 (vpFd 0 1 [110, 111, 119] (vpName 0)))) (vaNil)))))) (vSkip)) (vSeq (vIfS (vViewT (wOp sIsN (w2 (wFld 1 [121, 101, 115] (wName 0)) (wC .non)))) (vRet (vOp sAdd [none, none] (va2 (vAt 0 (vpFd 0 1 [104, 101, 97, 100] (vpName 0))) (vTup (vaCons (vStill (vTake 0 (vpFd 0 1 [110, 111, 119] (vpName 0)))) (vaCons (vStill (vLst (vaNil))) (vaNil))))))) (vSkip)) (vRet (vOp sAdd [none, none] (va2 (vAt 0 (vpFd 0 1 [104, 101, 97, 100] (vpName 0))) (vTup (vaCons (vAt 0 (vpFd 0 1 [121, 101, 115] (vpName 0))) (vaCons (vStill (vTake 0 (vpFd 0 1 [110, 111, 119] (vpName 0)))) (vaNil))))))))
def t_Opened_turned : VTS := vSeq (vIfS (vOr (vViewT (wOp sNe (w2 (wOp sIx (w2 (wFld 1 [104, 101, 97, 100] (wName 0)) (wC (.int 0)))) (wC (.str [99, 104, 111, 105, 99, 101]))))) (vViewT (wOp sNotN (w2 (wFld 1 [121, 101, 115] (wName 0)) (wC .non))))) (vRaise "NoForm") (vSkip)) (vSeq (vFldE 0 1 [121, 101, 115] (vStill (vTake 0 (vpFd 0 1 [110, 111, 119] (vpName 0))))) (vFldE 0 1 [110, 111, 119] (vLst (vaNil))))
def t_Opened_init : VTS := vSeq (vFld 0 1 [104, 101, 97, 100] (vVar 1)) (vSeq (vFld 0 1 [121, 101, 115] (vC .non)) (vFld 0 1 [110, 111, 119] (vLst (vaNil))))
def t_lists_of : VTS := vSeq (vIfS (vB (vOp sEq [none, none] (va2 (vOp sIx [none, none] (va2 (vVar 0) (vC (.int 0)))) (vC (.str [99, 104, 111, 105, 99, 101]))))) (vRet (vLst (vaCons (vOp sIx [none, none] (va2 (vVar 0) (vC (.int 4)))) (vaCons (vOp sIx [none, none] (va2 (vVar 0) (vC (.int 5)))) (vaNil))))) (vSkip)) (vSeq (vIfS (vOr (vB (vOp sEq [none, none] (va2 (vOp sIx [none, none] (va2 (vVar 0) (vC (.int 0)))) (vC (.str [114, 111, 117, 110, 100]))))) (vB (vOp sEq [none, none] (va2 (vOp sIx [none, none] (va2 (vVar 0) (vC (.int 0)))) (vC (.str [112, 97, 114, 116])))))) (vRet (vLst (vaCons (vOp sIx [none, none] (va2 (vVar 0) (vC (.int 2)))) (vaNil)))) (vSkip)) (vRet (vLst (vaNil))))
def t_sound_opening : VTS := vSeq (vAsg 2 (vOp sIx [none, none] (va2 (vVar 0) (vC (.int 1))))) (vSeq (vIfS (vOr (vViewT (wOp (sIn false) (w2 (wName 2) (wName 1)))) (vOr (vB (vOp oLt [none, none] (va2 (vVar 2) (vC (.int 0))))) (vB (vOp oGt [none, none] (va2 (vVar 2) (vC (.int 9999))))))) (vRet (vC (.bl false))) (vSkip)) (vSeq (vSet 1 (vC (.bl true)) (vpName 1) (vVar 2)) (vRet (vC (.bl true)))))
def lb_sound_statement0 (n : Nat) : VTS := vIfS (vNot (vB (vCall ((sp_sound_list n)) [none, none, none, some 3] (vaCons (vVar 4) (vaCons (vVar 1) (vaCons (vVar 2) (vaLate 3 (vaNil)))))))) (vRet (vC (.bl false))) (vSkip)
def t_sound_statement (n : Nat) : VTS := vSeq (vIfS (vB (vOp sEq [none, none] (va2 (vOp sIx [none, none] (va2 (vVar 0) (vC (.int 0)))) (vC (.str [108, 101, 97, 118, 101]))))) (vRet (vOp (sIn false) [none, none] (va2 (vOp sIx [none, none] (va2 (vVar 0) (vC (.int 1)))) (vVar 1)))) (vSkip)) (vSeq (vIfS (vB (vOp sEq [none, none] (va2 (vOp sIx [none, none] (va2 (vVar 0) (vC (.int 0)))) (vC (.str [97, 103, 97, 105, 110]))))) (vRet (vOp (sIn false) [none, none] (va2 (vOp sIx [none, none] (va2 (vVar 0) (vC (.int 1)))) (vVar 2)))) (vSkip)) (vSeq (vIfS (vOr (vB (vOp sEq [none, none] (va2 (vOp sIx [none, none] (va2 (vVar 0) (vC (.int 0)))) (vC (.str [114, 111, 117, 110, 100]))))) (vB (vOp sEq [none, none] (va2 (vOp sIx [none, none] (va2 (vVar 0) (vC (.int 0)))) (vC (.str [112, 97, 114, 116])))))) (vSeq (vIfS (vNot (vB (vCall (sp_sound_opening) [none, some 3] (vaCons (vVar 0) (vaLate 3 (vaNil)))))) (vRet (vC (.bl false))) (vSkip)) (vSeq (vAsg 1 (vStill (vOp sAdd [none, none] (va2 (vVar 1) (vLst (vaCons (vOp sIx [none, none] (va2 (vVar 0) (vC (.int 1)))) (vaNil))))))) (vIfS (vB (vOp sEq [none, none] (va2 (vOp sIx [none, none] (va2 (vVar 0) (vC (.int 0)))) (vC (.str [114, 111, 117, 110, 100]))))) (vAsg 2 (vStill (vOp sAdd [none, none] (va2 (vVar 2) (vLst (vaCons (vOp sIx [none, none] (va2 (vVar 0) (vC (.int 1)))) (vaNil))))))) (vSkip)))) (vSkip)) (vSeq (vFor (viLst (vStill (vCall (sp_lists_of) [none] (vaCons (vVar 0) (vaNil))))) (vName 4) ((lb_sound_statement0 n))) (vRet (vC (.bl true))))))
def lb_sound_list0 (n : Nat) : VTS := vIfS (vNot (vB (vCall ((sp_sound_statement n)) [none, none, none, some 3] (vaCons (vVar 4) (vaCons (vVar 1) (vaCons (vVar 2) (vaLate 3 (vaNil)))))))) (vRet (vC (.bl false))) (vSkip)
def t_sound_list (n : Nat) : VTS := vSeq (vFor (viLst (vVar 0)) (vName 4) ((lb_sound_list0 n))) (vRet (vC (.bl true)))
def t_sound : VTS := vRet (vCall ((sp_sound_list 92)) [none, none, none, none] (vaCons (vVar 0) (vaCons (vStill (vLst (vaNil))) (vaCons (vStill (vLst (vaNil))) (vaCons (vC (.dK true [] [])) (vaNil))))))
def lb_number_read0 : VTS := vIfS (vB (vOp (sIn true) [none, none] (va2 (vVar 2) (vC (.str [48, 49, 50, 51, 52, 53, 54, 55, 56, 57]))))) (vRet (vC .non)) (vSkip)
def t_number_read : VTS := vSeq (vIfS (vOr (vB (vOp sEq [none, none] (va2 (vVar 0) (vC (.str []))))) (vB (vOp oGt [none, none] (va2 (vOp sLen [none] (vaCons (vVar 0) (vaNil))) (vVar 1))))) (vRet (vC .non)) (vSkip)) (vSeq (vFor (viStr (vVar 0)) (vName 2) (lb_number_read0)) (vSeq (vIfS (vAnd (vB (vOp sEq [none, none] (va2 (vOp sIx [none, none] (va2 (vVar 0) (vC (.int 0)))) (vC (.str [48]))))) (vB (vOp oGt [none, none] (va2 (vOp sLen [none] (vaCons (vVar 0) (vaNil))) (vC (.int 1)))))) (vRet (vC .non)) (vSkip)) (vRet (vOp sIntS [none] (vaCons (vVar 0) (vaNil))))))
def lb_is_name0 : VTS := vIfS (vAnd (vB (vOp (sIn true) [none, none] (va2 (vVar 1) (vC (.str [97, 98, 99, 100, 101, 102, 103, 104, 105, 106, 107, 108, 109, 110, 111, 112, 113, 114, 115, 116, 117, 118, 119, 120, 121, 122]))))) (vB (vOp (sIn true) [none, none] (va2 (vVar 1) (vC (.str [48, 49, 50, 51, 52, 53, 54, 55, 56, 57])))))) (vRet (vC (.bl false))) (vSkip)
def t_is_name : VTS := vSeq (vIfS (vOr (vB (vOp sEq [none, none] (va2 (vVar 0) (vC (.str []))))) (vOr (vB (vOp oGt [none, none] (va2 (vOp sLen [none] (vaCons (vVar 0) (vaNil))) (vC (.int 8))))) (vB (vOp (sInG false [[105, 102], [106, 117, 109, 112], [101, 110, 100], [114, 101, 115, 116], [114, 111, 117, 110, 100], [112, 97, 114, 116], [108, 101, 97, 118, 101], [97, 103, 97, 105, 110], [101, 108, 115, 101], [100, 111, 110, 101]]) [none] (va1 (vVar 0)))))) (vRet (vC (.bl false))) (vSkip)) (vSeq (vFor (viStr (vVar 0)) (vName 1) (lb_is_name0)) (vRet (vOp (sIn false) [none, none] (va2 (vOp sIx [none, none] (va2 (vVar 0) (vC (.int 0)))) (vC (.str [97, 98, 99, 100, 101, 102, 103, 104, 105, 106, 107, 108, 109, 110, 111, 112, 113, 114, 115, 116, 117, 118, 119, 120, 121, 122]))))))
def t_operand_read : VTS := vSeq (vIfS (vB (vCall (sp_is_name) [none] (vaCons (vVar 0) (vaNil)))) (vRet (vVar 0)) (vSkip)) (vSeq (vIfS (vNot (vViewT (wMeth "str" sStarts (wName 0) (wCons (wC (.str [45])) (wNil))))) (vRet (vCall (sp_number_read) [none, none] (vaCons (vVar 0) (vaCons (vC (.int 18)) (vaNil))))) (vSkip)) (vSeq (vAsg 1 (vCall (sp_number_read) [none, none] (vaCons (vStill (vSl (none) (vVar 0) (vPart (vC (.int 1))) (vNoPart))) (vaCons (vC (.int 18)) (vaNil))))) (vSeq (vIfS (vOr (vB (vOp sIsN [none, none] (va2 (vVar 1) (vC .non)))) (vB (vOp sEq [none, none] (va2 (vVar 1) (vC (.int 0)))))) (vRet (vC .non)) (vSkip)) (vRet (vOp oSub [none, none] (va2 (vC (.int 0)) (vVar 1)))))))
def t_sum_read : VTS := vSeq (vIfS (vOr (vB (vOp sNe [none, none] (va2 (vOp sLen [none] (vaCons (vVar 0) (vaNil))) (vC (.int 5))))) (vOr (vB (vOp sNe [none, none] (va2 (vOp sIx [none, none] (va2 (vVar 0) (vC (.int 1)))) (vC (.str [61]))))) (vOr (vB (vOp (sInG true [[43], [45], [47], [114, 101, 115, 116], [38], [94]]) [none] (va1 (vOp sIx [none, none] (va2 (vVar 0) (vC (.int 3))))))) (vNot (vB (vCall (sp_is_name) [none] (vaCons (vOp sIx [none, none] (va2 (vVar 0) (vC (.int 0)))) (vaNil)))))))) (vRet (vC .non)) (vSkip)) (vSeq (vAsg 1 (vCall (sp_operand_read) [none] (vaCons (vOp sIx [none, none] (va2 (vVar 0) (vC (.int 2)))) (vaNil)))) (vSeq (vAsg 2 (vCall (sp_operand_read) [none] (vaCons (vOp sIx [none, none] (va2 (vVar 0) (vC (.int 4)))) (vaNil)))) (vSeq (vIfS (vOr (vB (vOp sIsN [none, none] (va2 (vVar 1) (vC .non)))) (vB (vOp sIsN [none, none] (va2 (vVar 2) (vC .non))))) (vRet (vC .non)) (vSkip)) (vRet (vTup (vaCons (vC (.str [115, 117, 109])) (vaCons (vOp sIx [none, none] (va2 (vVar 0) (vC (.int 0)))) (vaCons (vVar 1) (vaCons (vOp sIx [none, none] (va2 (vVar 0) (vC (.int 3)))) (vaCons (vVar 2) (vaNil)))))))))))
def t_test_read : VTS := vSeq (vIfS (vOr (vB (vOp sNe [none, none] (va2 (vOp sLen [none] (vaCons (vVar 0) (vaNil))) (vC (.int 4))))) (vOr (vB (vOp sNe [none, none] (va2 (vOp sIx [none, none] (va2 (vVar 0) (vC (.int 0)))) (vC (.str [105, 102]))))) (vB (vOp (sInG true [[60], [61]]) [none] (va1 (vOp sIx [none, none] (va2 (vVar 0) (vC (.int 2))))))))) (vRet (vC .non)) (vSkip)) (vSeq (vAsg 1 (vCall (sp_operand_read) [none] (vaCons (vOp sIx [none, none] (va2 (vVar 0) (vC (.int 1)))) (vaNil)))) (vSeq (vAsg 2 (vCall (sp_operand_read) [none] (vaCons (vOp sIx [none, none] (va2 (vVar 0) (vC (.int 3)))) (vaNil)))) (vSeq (vIfS (vOr (vB (vOp sIsN [none, none] (va2 (vVar 1) (vC .non)))) (vB (vOp sIsN [none, none] (va2 (vVar 2) (vC .non))))) (vRet (vC .non)) (vSkip)) (vRet (vTup (vaCons (vC (.str [116, 101, 115, 116])) (vaCons (vVar 1) (vaCons (vOp sIx [none, none] (va2 (vVar 0) (vC (.int 2)))) (vaCons (vVar 2) (vaNil))))))))))
def t_numbered : VTS := vSeq (vIfS (vOr (vB (vOp sNe [none, none] (va2 (vOp sLen [none] (vaCons (vVar 0) (vaNil))) (vC (.int 2))))) (vB (vOp (sIn true) [none, none] (va2 (vOp sIx [none, none] (va2 (vVar 0) (vC (.int 0)))) (vVar 1))))) (vRet (vC .non)) (vSkip)) (vSeq (vAsg 2 (vCall (sp_number_read) [none, none] (vaCons (vOp sIx [none, none] (va2 (vVar 0) (vC (.int 1)))) (vaCons (vC (.int 4)) (vaNil))))) (vSeq (vIfS (vB (vOp sIsN [none, none] (va2 (vVar 2) (vC .non)))) (vRet (vC .non)) (vSkip)) (vRet (vTup (vaCons (vOp sIx [none, none] (va2 (vVar 0) (vC (.int 0)))) (vaCons (vVar 2) (vaNil)))))))
def t_opening : VTS := vSeq (vAsg 1 (vCall (sp_test_read) [none] (vaCons (vVar 0) (vaNil)))) (vSeq (vIfS (vB (vOp sNotN [none, none] (va2 (vVar 1) (vC .non)))) (vRet (vOp sAdd [none, none] (va2 (vTup (vaCons (vC (.str [99, 104, 111, 105, 99, 101])) (vaNil))) (vSl (none) (vVar 1) (vPart (vC (.int 1))) (vNoPart))))) (vSkip)) (vRet (vCall (sp_numbered) [none, none] (vaCons (vVar 0) (vaCons (vTup (vaCons (vC (.str [114, 111, 117, 110, 100])) (vaCons (vC (.str [112, 97, 114, 116])) (vaNil)))) (vaNil))))))
def t_plain : VTS := vSeq (vIfS (vB (vOp sEq [none, none] (va2 (vVar 0) (vLst (vaCons (vC (.str [101, 110, 100])) (vaNil)))))) (vRet (vTup (vaCons (vC (.str [101, 110, 100])) (vaNil)))) (vSkip)) (vSeq (vAsg 1 (vCall (sp_numbered) [none, none] (vaCons (vVar 0) (vaCons (vTup (vaCons (vC (.str [108, 101, 97, 118, 101])) (vaCons (vC (.str [97, 103, 97, 105, 110])) (vaNil)))) (vaNil))))) (vSeq (vIfS (vB (vOp sIsN [none, none] (va2 (vVar 1) (vC .non)))) (vAsg 1 (vCall (sp_sum_read) [none] (vaCons (vVar 0) (vaNil)))) (vSkip)) (vSeq (vIfS (vB (vOp sIsN [none, none] (va2 (vVar 1) (vC .non)))) (vRaise "NoForm") (vSkip)) (vRet (vVar 1)))))
def t_take : VTS := vSeq (vIfS (vB (vOp sEq [none, none] (va2 (vVar 0) (vLst (vaCons (vC (.str [101, 108, 115, 101])) (vaNil)))))) (vSeq (vDrop (vMethP 1 1 [116, 117, 114, 110, 101, 100] sp_Opened_turned (vpIx 1 (vpName 1) (vOpQ oNeg (va1 (vC (.int 1))))))) (vRetN)) (vSkip)) (vSeq (vIfS (vB (vOp sEq [none, none] (va2 (vVar 0) (vLst (vaCons (vC (.str [100, 111, 110, 101])) (vaNil)))))) (vSeq (vIfS (vViewT (wOp sEq (w2 (wOp sLen (wCons (wName 1) (wNil))) (wC (.int 1))))) (vRaise "NoForm") (vSkip)) (vSeq (vAsg 2 (vMethT 1 [115, 116, 97, 116, 101, 109, 101, 110, 116] sp_Opened_statement (vMut muPop 1 (vpName 1) vaNil))) (vSeq (vDrop (vMut muAppend 1 (vpFd 1 1 [110, 111, 119] (vpIx 1 (vpName 1) (vOpQ oNeg (va1 (vC (.int 1)))))) (vaCons (vVar 2) (vaNil)))) (vRetN)))) (vSkip)) (vSeq (vAsg 3 (vCall (sp_opening) [none] (vaCons (vVar 0) (vaNil)))) (vSeq (vIfS (vB (vOp sIsN [none, none] (va2 (vVar 3) (vC .non)))) (vSeq (vDrop (vAppC 1 (vpFd 1 1 [110, 111, 119] (vpIx 1 (vpName 1) (vOpQ oNeg (va1 (vC (.int 1)))))) (vaCons (vCall (sp_plain) [none] (vaCons (vVar 0) (vaNil))) (vaNil)))) (vRetN)) (vSkip)) (vSeq (vIfS (vViewT (wOp oGe (w2 (wOp sLen (wCons (wName 1) (wNil))) (wC (.int 90))))) (vRaise "TooGreat") (vSkip)) (vDrop (vMutN muAppend 1 (vaCons (vNew 1 sp_Opened_init [none] (vaCons (vVar 3) (vaNil))) (vaNil))))))))
def le_read_form0 : VTE := vView (wMeth "str" sLstrip (wName 2) (wCons (wC (.str [32])) (wNil)))
def le_read_form1 : VTE := vVar 2
def lt_read_form1 : VTT := vB (vOp sNe [none, none] (va2 (vVar 2) (vC (.str []))))
def lb_read_form0 : VTS := vDrop (vCall (sp_take) [none, some 3] (vaCons (vStill (vM1 sSplit (none) (none) (vVar 2) (vC (.str [32])))) (vaLate 3 (vaNil))))
def t_read_form : VTS := vSeq (vAsg 1 (vStill (vLc [2] (viLst (vStill (vM1 sSplit (none) (none) (vVar 0) (vC (.str [10]))))) (vName 2) (vYes) (le_read_form0)))) (vSeq (vAsg 1 (vStill (vLc [2] (viLst (vVar 1)) (vName 2) (lt_read_form1) (le_read_form1)))) (vSeq (vIfS (vB (vOp oGt [none, none] (va2 (vOp sLen [none] (vaCons (vVar 1) (vaNil))) (vC (.int 400))))) (vRaise "TooGreat") (vSkip)) (vSeq (vAsg 3 (vLst (vaCons (vNew 1 sp_Opened_init [none] (vaCons (vTup (vaCons (vC (.str [102, 111, 114, 109])) (vaNil))) (vaNil))) (vaNil)))) (vSeq (vFor (viLst (vVar 1)) (vName 2) (lb_read_form0)) (vSeq (vIfS (vOr (vViewT (wOp oGt (w2 (wOp sLen (wCons (wName 3) (wNil))) (wC (.int 1))))) (vNot (vViewT (wCall (sp_sound) (wCons (wFld 1 [110, 111, 119] (wOp sIx (w2 (wName 3) (wC (.int 0))))) (wNil)))))) (vRaise "NoForm") (vSkip)) (vRet (vTake 3 (vpFd 3 1 [110, 111, 119] (vpIx 3 (vpName 3) (vC (.int 0)))))))))))
def t_Lraw : VTS := vSeq (vIfS (vB (vOp sEq [none, none] (va2 (vOp sLen [none] (vaCons (vVar 0) (vaNil))) (vC (.int 0))))) (vRet (vVar 1)) (vSkip)) (vRet (vOp sIx [none, none] (va2 (vVar 0) (vOp oMod [none, none] (va2 (vVar 1) (vOp sLen [none] (vaCons (vVar 0) (vaNil))))))))
def t_Lmix : VTS := vSeq (vIfS (vB (vOp sEq [none, none] (va2 (vOp sLen [none] (vaCons (vVar 0) (vaNil))) (vC (.int 0))))) (vRet (vOp oMod [none, none] (va2 (vOp sMul [none, none] (va2 (vOp sAdd [none, none] (va2 (vOp sMul [none, none] (va2 (vVar 1) (vVar 1))) (vC (.int 3)))) (vC (.int 48271)))) (vC (.int 2147483647))))) (vSkip)) (vSeq (vAsg 2 (vOp oDiv [none, none] (va2 (vVar 1) (vOp sLen [none] (vaCons (vVar 0) (vaNil)))))) (vRet (vOp oMod [none, none] (va2 (vOp sMul [none, none] (va2 (vOp sAdd [none, none] (va2 (vOp oMod [none, none] (va2 (vCall (sp_Lraw) [none, none] (vaCons (vVar 0) (vaCons (vVar 1) (vaNil)))) (vC (.int 2147483629)))) (vC (.int 2)))) (vOp sAdd [none, none] (va2 (vC (.int 48271)) (vOp sMul [none, none] (va2 (vOp sMul [none, none] (va2 (vC (.int 7)) (vVar 2))) (vVar 2))))))) (vC (.int 2147483647))))))
def t_Lkept : VTS := vRet (vLst (vaCons (vC (.str [105, 102])) (vaCons (vC (.str [106, 117, 109, 112])) (vaCons (vC (.str [101, 110, 100])) (vaCons (vC (.str [114, 101, 115, 116])) (vaCons (vC (.str [114, 111, 117, 110, 100])) (vaCons (vC (.str [112, 97, 114, 116])) (vaCons (vC (.str [108, 101, 97, 118, 101])) (vaCons (vC (.str [97, 103, 97, 105, 110])) (vaCons (vC (.str [101, 108, 115, 101])) (vaCons (vC (.str [100, 111, 110, 101])) (vaNil))))))))))))
def t_Lsign : VTS := vSeq (vIfS (vB (vVar 1)) (vRet (vOp sIx [none, none] (va2 (vC (.str [97, 98, 99, 100, 101, 102, 103, 104, 105, 106, 107, 108, 109, 110, 111, 112, 113, 114, 115, 116, 117, 118, 119, 120, 121, 122])) (vOp oMod [none, none] (va2 (vVar 0) (vC (.int 26))))))) (vSkip)) (vRet (vOp sIx [none, none] (va2 (vC (.str [97, 98, 99, 100, 101, 102, 103, 104, 105, 106, 107, 108, 109, 110, 111, 112, 113, 114, 115, 116, 117, 118, 119, 120, 121, 122, 48, 49, 50, 51, 52, 53, 54, 55, 56, 57])) (vOp oMod [none, none] (va2 (vVar 0) (vC (.int 36)))))))
def lb_Lword0 : VTS := vSeq (vAsg 0 (vOp oMod [none, none] (va2 (vOp sMul [none, none] (va2 (vOp sAdd [none, none] (va2 (vVar 0) (vC (.int 2)))) (vC (.int 69621)))) (vC (.int 2147483629))))) (vAsg 2 (vOp sAdd [none, none] (va2 (vVar 2) (vCall (sp_Lsign) [none, none] (vaCons (vOp oDiv [none, none] (va2 (vVar 0) (vC (.int 64)))) (vaCons (vOp sEq [none, none] (va2 (vVar 3) (vC (.int 0)))) (vaNil)))))))
def t_Lword : VTS := vSeq (vAsg 2 (vC (.str []))) (vSeq (vFor (viR1 (vaCons (vVar 1) (vaNil))) (vName 3) (lb_Lword0)) (vRet (vVar 2)))
def tc_Lnames5 : VTS  := vDrop (vMutN muAppend 4 (vaCons (vVar 7) (vaNil)))
def tc_Lnames4 : VTS  := vSeq (vIfS (vB (vOp (sIn false) [none, none] (va2 (vVar 7) (vCall (sp_Lkept) [] vaNil)))) (vAsg 7 (vStill (vOp sAdd [none, none] (va2 (vC (.str [113])) (vSl (none) (vVar 7) (vPart (vC (.int 1))) (vNoPart)))))) (vSkip)) (tc_Lnames5)
def tc_Lnames3 : VTS  := vSeq (vIfS (vAnd (vB (vOp sEq [none, none] (va2 (vVar 5) (vC (.int 4))))) (vB (vOp sEq [none, none] (va2 (vOp oMod [none, none] (va2 (vVar 6) (vC (.int 4)))) (vC (.int 1)))))) (vAsg 7 (vOp sAdd [none, none] (va2 (vOp sIx [none, none] (va2 (vCall (sp_Lkept) [] vaNil) (vOp oMod [none, none] (va2 (vOp oDiv [none, none] (va2 (vVar 6) (vC (.int 4)))) (vC (.int 10)))))) (vCall (sp_Lsign) [none, none] (vaCons (vOp oDiv [none, none] (va2 (vVar 6) (vC (.int 64)))) (vaCons (vC (.bl false)) (vaNil))))))) (vSkip)) (tc_Lnames4)
def tc_Lnames2 : VTS  := vSeq (vIfS (vB (vOp sEq [none, none] (va2 (vOp oMod [none, none] (va2 (vVar 1) (vC (.int 2)))) (vC (.int 0))))) (vAsg 7 (vCall (sp_Lword) [none, none] (vaCons (vVar 6) (vaCons (vOp sAdd [none, none] (va2 (vC (.int 1)) (vOp oMod [none, none] (va2 (vOp oDiv [none, none] (va2 (vVar 6) (vC (.int 8)))) (vC (.int 8)))))) (vaNil))))) (vSkip)) (tc_Lnames3)
def lb_Lnames0 : VTS := vSeq (vAsg 6 (vCall (sp_Lmix) [none, none] (vaCons (vVar 0) (vaCons (vOp sAdd [none, none] (va2 (vC (.int 902)) (vVar 5))) (vaNil))))) (vSeq (vAsg 7 (vStill (vOp sAdd [none, none] (va2 (vOp sAdd [none, none] (va2 (vSl (none) (vVar 2) (vNoPart) (vPart (vVar 3))) (vCall (sp_Lsign) [none, none] (vaCons (vOp sAdd [none, none] (va2 (vOp oDiv [none, none] (va2 (vVar 1) (vC (.int 512)))) (vOp sMul [none, none] (va2 (vC (.int 7)) (vVar 5))))) (vaCons (vOp sEq [none, none] (va2 (vVar 3) (vC (.int 0)))) (vaNil)))))) (vSl (none) (vVar 2) (vPart (vOp sAdd [none, none] (va2 (vVar 3) (vC (.int 1))))) (vNoPart)))))) (tc_Lnames2))
def t_Lnames : VTS := vSeq (vAsg 1 (vCall (sp_Lmix) [none, none] (vaCons (vVar 0) (vaCons (vC (.int 901)) (vaNil))))) (vSeq (vAsg 2 (vCall (sp_Lword) [none, none] (vaCons (vVar 1) (vaCons (vOp sAdd [none, none] (va2 (vC (.int 1)) (vOp oMod [none, none] (va2 (vOp oDiv [none, none] (va2 (vVar 1) (vC (.int 8)))) (vC (.int 8)))))) (vaNil))))) (vSeq (vAsg 3 (vOp oMod [none, none] (va2 (vOp oDiv [none, none] (va2 (vVar 1) (vC (.int 64)))) (vOp sLen [none] (vaCons (vVar 2) (vaNil)))))) (vSeq (vAsg 4 (vLst (vaNil))) (vSeq (vFor (viR1 (vaCons (vC (.int 5)) (vaNil))) (vName 5) (lb_Lnames0)) (vRet (vMov 4))))))
def t_Loperand : VTS := vSeq (vIfS (vB (vOp sEq [none, none] (va2 (vOp oMod [none, none] (va2 (vVar 3) (vC (.int 3)))) (vC (.int 0))))) (vRet (vOp sIx [none, none] (va2 (vVar 2) (vOp oMod [none, none] (va2 (vOp oDiv [none, none] (va2 (vVar 3) (vC (.int 3)))) (vC (.int 5))))))) (vSkip)) (vSeq (vIfS (vB (vOp sEq [none, none] (va2 (vOp oMod [none, none] (va2 (vVar 3) (vC (.int 3)))) (vC (.int 1))))) (vRet (vOp oSub [none, none] (va2 (vOp oMod [none, none] (va2 (vOp oDiv [none, none] (va2 (vVar 3) (vC (.int 3)))) (vC (.int 41)))) (vC (.int 20))))) (vSkip)) (vSeq (vAsg 4 (vOp oMod [none, none] (va2 (vOp sMul [none, none] (va2 (vOp oMod [none, none] (va2 (vCall (sp_Lraw) [none, none] (vaCons (vVar 0) (vaCons (vVar 1) (vaNil)))) (vOp oPow [none, none] (va2 (vC (.int 10)) (vC (.int 18)))))) (vOp sAdd [none, none] (va2 (vC (.int 1)) (vOp oMod [none, none] (va2 (vOp oDiv [none, none] (va2 (vVar 3) (vC (.int 24)))) (vC (.int 1000)))))))) (vOp oPow [none, none] (va2 (vC (.int 10)) (vC (.int 18))))))) (vSeq (vIfS (vB (vOp sEq [none, none] (va2 (vOp oMod [none, none] (va2 (vOp oDiv [none, none] (va2 (vVar 3) (vC (.int 3)))) (vC (.int 4)))) (vC (.int 0))))) (vAsg 4 (vOp oSub [none, none] (va2 (vOp oSub [none, none] (va2 (vOp oPow [none, none] (va2 (vC (.int 10)) (vC (.int 18)))) (vC (.int 1)))) (vOp oMod [none, none] (va2 (vOp oDiv [none, none] (va2 (vVar 3) (vC (.int 24)))) (vC (.int 3))))))) (vSkip)) (vSeq (vIfS (vB (vOp sEq [none, none] (va2 (vOp oMod [none, none] (va2 (vOp oDiv [none, none] (va2 (vVar 3) (vC (.int 12)))) (vC (.int 2)))) (vC (.int 0))))) (vRet (vOp oSub [none, none] (va2 (vC (.int 0)) (vVar 4)))) (vSkip)) (vRet (vVar 4))))))
def t_Lbegins : VTS := vRet (vOrV (vOp sEq [none, none] (va2 (vOp sIx [none, none] (va2 (vVar 0) (vC (.int 0)))) (vC (.str [105, 102])))) (vOrV (vOp sEq [none, none] (va2 (vOp sIx [none, none] (va2 (vVar 0) (vC (.int 0)))) (vC (.str [114, 111, 117, 110, 100])))) (vOp sEq [none, none] (va2 (vOp sIx [none, none] (va2 (vVar 0) (vC (.int 0)))) (vC (.str [112, 97, 114, 116]))))))
def t_Ldeed : VTS := vSeq (vAsg 4 (vCall (sp_Loperand) [none, none, none, none] (vaCons (vVar 0) (vaCons (vVar 1) (vaCons (vVar 2) (vaCons (vOp oDiv [none, none] (va2 (vOp oMod [none, none] (va2 (vOp sMul [none, none] (va2 (vVar 3) (vC (.int 16807)))) (vC (.int 2147483563)))) (vC (.int 8)))) (vaNil))))))) (vSeq (vAsg 5 (vCall (sp_Loperand) [none, none, none, none] (vaCons (vVar 0) (vaCons (vOp sAdd [none, none] (va2 (vVar 1) (vC (.int 1)))) (vaCons (vVar 2) (vaCons (vOp oDiv [none, none] (va2 (vOp oMod [none, none] (va2 (vOp sMul [none, none] (va2 (vVar 3) (vC (.int 39373)))) (vC (.int 2147483543)))) (vC (.int 8)))) (vaNil))))))) (vSeq (vIfS (vB (vOp oLt [none, none] (va2 (vOp oMod [none, none] (va2 (vVar 3) (vC (.int 24)))) (vC (.int 4))))) (vSeq (vAsg 6 (vOp sIx [none, none] (va2 (vLst (vaCons (vC (.str [60])) (vaCons (vC (.str [61])) (vaNil)))) (vOp oMod [none, none] (va2 (vOp oDiv [none, none] (va2 (vVar 3) (vC (.int 24)))) (vC (.int 2))))))) (vRet (vTup (vaCons (vC (.str [105, 102])) (vaCons (vVar 4) (vaCons (vVar 6) (vaCons (vVar 5) (vaNil)))))))) (vSkip)) (vSeq (vAsg 6 (vOp sIx [none, none] (va2 (vLst (vaCons (vC (.str [43])) (vaCons (vC (.str [45])) (vaCons (vC (.str [47])) (vaCons (vC (.str [114, 101, 115, 116])) (vaCons (vC (.str [38])) (vaCons (vC (.str [94])) (vaNil)))))))) (vOp oMod [none, none] (va2 (vOp oDiv [none, none] (va2 (vVar 3) (vC (.int 24)))) (vC (.int 6))))))) (vSeq (vAsg 7 (vOp sIx [none, none] (va2 (vVar 2) (vOp oMod [none, none] (va2 (vOp oDiv [none, none] (va2 (vVar 3) (vC (.int 144)))) (vC (.int 5))))))) (vRet (vTup (vaCons (vC (.str [115, 117, 109])) (vaCons (vVar 7) (vaCons (vVar 4) (vaCons (vVar 6) (vaCons (vVar 5) (vaNil))))))))))))
def le_Lgoes0 : VTE := vOp sIx [none, none] (va2 (vVar 3) (vC (.int 1)))
def lt_Lgoes0 : VTT := vB (vOp oGe [none, none] (va2 (vOp sIx [none, none] (va2 (vVar 3) (vC (.int 1)))) (vC (.int 0))))
def le_Lgoes2 : VTE := vOp sIx [none, none] (va2 (vVar 3) (vC (.int 1)))
def lt_Lgoes2 : VTT := vB (vOp sEq [none, none] (va2 (vOp sIx [none, none] (va2 (vVar 3) (vC (.int 0)))) (vC (.str [114, 111, 117, 110, 100]))))
def t_Lgoes : VTS := vSeq (vAsg 2 (vStill (vLc [3] (viLst (vVar 0)) (vName 3) (lt_Lgoes0) (le_Lgoes0)))) (vSeq (vAsg 4 (vStill (vLc [3] (viLst (vVar 0)) (vName 3) (lt_Lgoes2) (le_Lgoes2)))) (vSeq (vIfS (vAnd (vB (vOp sEq [none, none] (va2 (vOp oMod [none, none] (va2 (vVar 1) (vC (.int 24)))) (vC (.int 16))))) (vB (vOp sNe [none, none] (va2 (vVar 4) (vLst (vaNil)))))) (vRet (vTup (vaCons (vC (.str [97, 103, 97, 105, 110])) (vaCons (vOp sIx [none, none] (va2 (vVar 4) (vOp oMod [none, none] (va2 (vOp oDiv [none, none] (va2 (vVar 1) (vC (.int 24)))) (vOp sLen [none] (vaCons (vVar 4) (vaNil))))))) (vaNil))))) (vSkip)) (vSeq (vIfS (vB (vOp sEq [none, none] (va2 (vVar 2) (vLst (vaNil))))) (vRet (vC .non)) (vSkip)) (vRet (vTup (vaCons (vC (.str [108, 101, 97, 118, 101])) (vaCons (vOp sIx [none, none] (va2 (vVar 2) (vOp oMod [none, none] (va2 (vOp oDiv [none, none] (va2 (vVar 1) (vC (.int 24)))) (vOp sLen [none] (vaCons (vVar 2) (vaNil))))))) (vaNil))))))))
def t_Lfirst : VTS := vSeq (vAsg 1 (vCall (sp_Lmix) [none, none] (vaCons (vVar 0) (vaCons (vC (.int 911)) (vaNil))))) (vRet (vOp sIx [none, none] (va2 (vLst (vaCons (vOp oMod [none, none] (va2 (vOp oDiv [none, none] (va2 (vVar 1) (vC (.int 8)))) (vC (.int 10000)))) (vaCons (vC (.int 0)) (vaCons (vC (.int 9999)) (vaNil))))) (vOp oMod [none, none] (va2 (vVar 1) (vC (.int 3)))))))
def t_Lclose : VTS := vSeq (vAsg 2 (vMut muPop 0 (vpName 0) vaNil)) (vSeq (vIfS (vAnd (vB (vOp sEq [none, none] (va2 (vOp sIx [none, none] (va2 (vVar 2) (vC (.int 0)))) (vC (.str [105, 102]))))) (vB (vOp oGt [none, none] (va2 (vOp oMod [none, none] (va2 (vOp oDiv [none, none] (va2 (vVar 1) (vC (.int 24)))) (vC (.int 3)))) (vC (.int 0)))))) (vSeq (vDrop (vMutN muAppend 0 (vaCons (vTup (vaCons (vC (.str [101, 108, 115, 101])) (vaCons (vOp oNeg [none] (va1 (vC (.int 1)))) (vaNil)))) (vaNil)))) (vRet (vTup (vaCons (vC (.str [101, 108, 115, 101])) (vaNil))))) (vSkip)) (vRet (vTup (vaCons (vC (.str [100, 111, 110, 101])) (vaNil)))))
def tb_Lstep9 : VTS  := vSeq (vIfS (vB (vCall (sp_Lbegins) [none] (vaCons (vVar 6) (vaNil)))) (vDrop (vMutN muAppend 3 (vaCons (vTup (vaCons (vOp sIx [none, none] (va2 (vVar 6) (vC (.int 0)))) (vaCons (vOp sIx [none, none] (va2 (vLst (vaCons (vOp sIx [none, none] (va2 (vVar 6) (vC (.int 1)))) (vaCons (vOp oNeg [none] (va1 (vC (.int 1)))) (vaNil)))) (vOp sInt [none] (vaCons (vOp sEq [none, none] (va2 (vOp sIx [none, none] (va2 (vVar 6) (vC (.int 0)))) (vC (.str [105, 102])))) (vaNil))))) (vaNil)))) (vaNil)))) (vSkip)) (vRet (vVar 6))
def tb_Lstep8 : VTS  := vSeq (vIfS (vB (vOp sIsN [none, none] (va2 (vVar 6) (vC .non)))) (vAsg 6 (vCall (sp_Ldeed) [none, none, none, none] (vaCons (vVar 0) (vaCons (vVar 1) (vaCons (vVar 2) (vaCons (vOp sAdd [none, none] (va2 (vOp sMul [none, none] (va2 (vOp oDiv [none, none] (va2 (vVar 4) (vC (.int 24)))) (vC (.int 24)))) (vC (.int 18)))) (vaNil))))))) (vSkip)) (tb_Lstep9)
def tb_Lstep7 : VTS  := vSeq (vIfS (vAnd (vB (vOp sEq [none, none] (va2 (vVar 5) (vC (.int 17))))) (vAnd (vViewT (wOp sNe (w2 (wName 3) (wLst (wNil))))) (vViewT (wOp (sIn false) (w2 (wOp sIx (w2 (wOp sIx (w2 (wName 3) (wOp oNeg (w1 (wC (.int 1)))))) (wC (.int 0)))) (wLst (wCons (wC (.str [105, 102])) (wCons (wC (.str [101, 108, 115, 101])) (wNil))))))))) (vAsg 6 (vTup (vaCons (vC (.str [101, 110, 100])) (vaNil)))) (vSkip)) (tb_Lstep8)
def tb_Lstep6 : VTS  := vSeq (vIfS (vAnd (vB (vOp oGt [none, none] (va2 (vVar 5) (vC (.int 13))))) (vB (vOp oLt [none, none] (va2 (vVar 5) (vC (.int 17)))))) (vAsg 6 (vLend (sp_Lgoes) (wCons (wName 3) (wCons (wName 4) (wNil))))) (vSkip)) (tb_Lstep7)
def tb_Lstep5 : VTS  := vSeq (vIfS (vAnd (vB (vOp oGt [none, none] (va2 (vVar 5) (vC (.int 8))))) (vAnd (vB (vOp oLt [none, none] (va2 (vVar 5) (vC (.int 14))))) (vViewT (wOp sNe (w2 (wName 3) (wLst (wNil))))))) (vRet (vCall (sp_Lclose) [some 3, none] (vaLate 3 (vaCons (vVar 4) (vaNil))))) (vSkip)) (tb_Lstep6)
def tb_Lstep4 : VTS  := vSeq (vIfS (vAnd (vB (vOp oGt [none, none] (va2 (vVar 5) (vC (.int 3))))) (vAnd (vB (vOp oLt [none, none] (va2 (vVar 5) (vC (.int 9))))) (vViewT (wOp oLt (w2 (wOp sLen (wCons (wName 3) (wNil))) (wC (.int 60))))))) (vAsg 6 (vTup (vaCons (vOp sIx [none, none] (va2 (vLst (vaCons (vC (.str [114, 111, 117, 110, 100])) (vaCons (vC (.str [112, 97, 114, 116])) (vaNil)))) (vOp sInt [none] (vaCons (vOp oGt [none, none] (va2 (vVar 5) (vC (.int 6)))) (vaNil))))) (vaCons (vOp oMod [none, none] (va2 (vOp sAdd [none, none] (va2 (vCall (sp_Lfirst) [none] (vaCons (vVar 0) (vaNil))) (vOp sMul [none, none] (va2 (vC (.int 97)) (vVar 1))))) (vC (.int 10000)))) (vaNil))))) (vSkip)) (tb_Lstep5)
def tb_Lstep3 : VTS  := vSeq (vIfS (vAnd (vB (vOp oLt [none, none] (va2 (vVar 5) (vC (.int 4))))) (vViewT (wOp oLt (w2 (wOp sLen (wCons (wName 3) (wNil))) (wC (.int 60)))))) (vAsg 6 (vCall (sp_Ldeed) [none, none, none, none] (vaCons (vVar 0) (vaCons (vVar 1) (vaCons (vVar 2) (vaCons (vVar 4) (vaNil))))))) (vSkip)) (tb_Lstep4)
def tb_Lstep2 : VTS  := vSeq (vAsg 6 (vC .non)) (tb_Lstep3)
def tb_Lstep1 : VTS  := vSeq (vAsg 5 (vOp oMod [none, none] (va2 (vVar 4) (vC (.int 24))))) (tb_Lstep2)
def t_Lstep : VTS := vSeq (vAsg 4 (vCall (sp_Lmix) [none, none] (vaCons (vVar 0) (vaCons (vVar 1) (vaNil))))) (tb_Lstep1)
def lb_Llines0 : VTS := vDrop (vMutN muAppend 3 (vaCons (vCall (sp_Lstep) [none, none, none, some 4] (vaCons (vVar 0) (vaCons (vVar 5) (vaCons (vVar 2) (vaLate 4 (vaNil)))))) (vaNil)))
def lb_Llines1 : VTS := vSeq (vDrop (vMut muPop 4 (vpName 4) vaNil)) (vDrop (vMutN muAppend 3 (vaCons (vTup (vaCons (vC (.str [100, 111, 110, 101])) (vaNil))) (vaNil))))
def t_Llines : VTS := vSeq (vAsg 2 (vStill (vCall (sp_Lnames) [none] (vaCons (vVar 0) (vaNil))))) (vSeq (vAsg 3 (vLst (vaNil))) (vSeq (vAsg 4 (vLst (vaNil))) (vSeq (vFor (viR1 (vaCons (vVar 1) (vaNil))) (vName 5) (lb_Llines0)) (vSeq (vWhile (vViewT (wOp sNe (w2 (wName 4) (wLst (wNil))))) (lb_Llines1)) (vRet (vMov 3))))))
def lb_Lnested0 : VTS := vIfS (vB (vCall (sp_Lbegins) [none] (vaCons (vVar 2) (vaNil)))) (vDrop (vMutN muAppend 1 (vaCons (vLst (vaCons (vVar 2) (vaCons (vC .non) (vaCons (vLst (vaNil)) (vaNil))))) (vaNil)))) (vIfS (vB (vOp sEq [none, none] (va2 (vOp sIx [none, none] (va2 (vVar 2) (vC (.int 0)))) (vC (.str [101, 108, 115, 101]))))) (vSeq (vSet 1 (vStill (vTake 1 (vpIx 1 (vpIx 1 (vpName 1) (vOpQ oNeg (va1 (vC (.int 1))))) (vC (.int 2))))) (vpIx 1 (vpName 1) (vOpQ oNeg (va1 (vC (.int 1))))) (vC (.int 1))) (vSet 1 (vLst (vaNil)) (vpIx 1 (vpName 1) (vOpQ oNeg (va1 (vC (.int 1))))) (vC (.int 2)))) (vIfS (vB (vOp sEq [none, none] (va2 (vOp sIx [none, none] (va2 (vVar 2) (vC (.int 0)))) (vC (.str [100, 111, 110, 101]))))) (vSeq (vAsgT (vStill (vMut muPop 1 (vpName 1) vaNil)) (vNames [3, 4, 5])) (vIfS (vB (vOp sNe [none, none] (va2 (vOp sIx [none, none] (va2 (vVar 3) (vC (.int 0)))) (vC (.str [105, 102]))))) (vDrop (vMut muAppend 1 (vpIx 1 (vpIx 1 (vpName 1) (vOpQ oNeg (va1 (vC (.int 1))))) (vC (.int 2))) (vaCons (vOpQ sAdd (va2 (vVar 3) (vTup (vaCons (vVar 5) (vaNil))))) (vaNil)))) (vIfS (vB (vOp sIsN [none, none] (va2 (vVar 4) (vC .non)))) (vDrop (vMut muAppend 1 (vpIx 1 (vpIx 1 (vpName 1) (vOpQ oNeg (va1 (vC (.int 1))))) (vC (.int 2))) (vaCons (vOpQ sAdd (va2 (vOpQ sAdd (va2 (vTup (vaCons (vC (.str [99, 104, 111, 105, 99, 101])) (vaNil))) (vSlQ (vVar 3) (some 1) none))) (vStill (vTup (vaCons (vVar 5) (vaCons (vLst (vaNil)) (vaNil))))))) (vaNil)))) (vDrop (vMut muAppend 1 (vpIx 1 (vpIx 1 (vpName 1) (vOpQ oNeg (va1 (vC (.int 1))))) (vC (.int 2))) (vaCons (vOpQ sAdd (va2 (vOpQ sAdd (va2 (vTup (vaCons (vC (.str [99, 104, 111, 105, 99, 101])) (vaNil))) (vSlQ (vVar 3) (some 1) none))) (vTup (vaCons (vVar 4) (vaCons (vVar 5) (vaNil)))))) (vaNil))))))) (vDrop (vMut muAppend 1 (vpIx 1 (vpIx 1 (vpName 1) (vOpQ oNeg (va1 (vC (.int 1))))) (vC (.int 2))) (vaCons (vVar 2) (vaNil))))))
def t_Lnested : VTS := vSeq (vAsg 1 (vLst (vaCons (vLst (vaCons (vTup (vaCons (vC (.str [102, 111, 114, 109])) (vaNil))) (vaCons (vC .non) (vaCons (vLst (vaNil)) (vaNil))))) (vaNil)))) (vSeq (vFor (viLst (vVar 0)) (vName 2) (lb_Lnested0)) (vRet (vTake 1 (vpIx 1 (vpIx 1 (vpName 1) (vC (.int 0))) (vC (.int 2))))))
def lb_Lalike0 (n : Nat) : VTS := vIfS (vNot (vB (vCall ((sp_Lalike n)) [none, none] (vaCons (vVar 2) (vaCons (vVar 3) (vaNil)))))) (vRet (vC (.bl false))) (vSkip)
def t_Lalike (n : Nat) : VTS := vSeq (vIfS (vB (vOp sIsi [none, none] (vaCons (vVar 1) (vaCons (vC (.ty "bool")) (vaNil))))) (vRet (vAndV (vOp sIsi [none, none] (vaCons (vVar 0) (vaCons (vC (.ty "bool")) (vaNil)))) (vOp sEq [none, none] (va2 (vVar 0) (vVar 1))))) (vSkip)) (vSeq (vIfS (vB (vOp sIsi [none, none] (vaCons (vVar 1) (vaCons (vC (.ty "int")) (vaNil))))) (vRet (vAndV (vOp sIsi [none, none] (vaCons (vVar 0) (vaCons (vC (.ty "int")) (vaNil)))) (vAndV (vNotV (vOp sIsi [none, none] (vaCons (vVar 0) (vaCons (vC (.ty "bool")) (vaNil))))) (vOp sEq [none, none] (va2 (vVar 0) (vVar 1)))))) (vSkip)) (vSeq (vIfS (vB (vOp sIsi [none, none] (vaCons (vVar 1) (vaCons (vC (.ty "str")) (vaNil))))) (vRet (vAndV (vOp sIsi [none, none] (vaCons (vVar 0) (vaCons (vC (.ty "str")) (vaNil)))) (vOp sEq [none, none] (va2 (vVar 0) (vVar 1))))) (vSkip)) (vSeq (vIfS (vAnd (vB (vOp sIsi [none, none] (vaCons (vVar 1) (vaCons (vC (.ty "list")) (vaNil))))) (vNot (vB (vOp sIsi [none, none] (vaCons (vVar 0) (vaCons (vC (.ty "list")) (vaNil))))))) (vRet (vC (.bl false))) (vSkip)) (vSeq (vIfS (vAnd (vB (vOp sIsi [none, none] (vaCons (vVar 1) (vaCons (vC (.ty "tuple")) (vaNil))))) (vNot (vB (vOp sIsi [none, none] (vaCons (vVar 0) (vaCons (vC (.ty "tuple")) (vaNil))))))) (vRet (vC (.bl false))) (vSkip)) (vSeq (vIfS (vB (vOp sNe [none, none] (va2 (vOp sLen [none] (vaCons (vVar 0) (vaNil))) (vOp sLen [none] (vaCons (vVar 1) (vaNil)))))) (vRet (vC (.bl false))) (vSkip)) (vSeq (vFor (viZipA (vaCons (vVar 0) (vaCons (vVar 1) (vaNil)))) (vNames [2, 3]) ((lb_Lalike0 n))) (vRet (vC (.bl true)))))))))
def lb_Ldepth0 : VTS := vSeq (vAsg 1 (vOp oSub [none, none] (va2 (vOp sAdd [none, none] (va2 (vVar 1) (vOp sInt [none] (vaCons (vCall (sp_Lbegins) [none] (vaCons (vVar 3) (vaNil))) (vaNil))))) (vOp sInt [none] (vaCons (vOp sEq [none, none] (va2 (vOp sIx [none, none] (va2 (vVar 3) (vC (.int 0)))) (vC (.str [100, 111, 110, 101])))) (vaNil)))))) (vAsg 2 (vOp sMax [none, none] (vaCons (vVar 2) (vaCons (vVar 1) (vaNil)))))
def t_Ldepth : VTS := vSeq (vAsg 1 (vC (.int 1))) (vSeq (vAsg 2 (vC (.int 1))) (vSeq (vFor (viLst (vVar 0)) (vName 3) (lb_Ldepth0)) (vRet (vVar 2))))
def le_Lwrapped0 : VTE := vOp sIx [none, none] (va2 (vVar 4) (vC (.int 1)))
def lt_Lwrapped0 : VTT := vOr (vB (vOp sEq [none, none] (va2 (vOp sIx [none, none] (va2 (vVar 4) (vC (.int 0)))) (vC (.str [114, 111, 117, 110, 100]))))) (vB (vOp sEq [none, none] (va2 (vOp sIx [none, none] (va2 (vVar 4) (vC (.int 0)))) (vC (.str [112, 97, 114, 116])))))
def le_Lwrapped2 : VTE := vVar 6
def lt_Lwrapped2 : VTT := vB (vOp (sIn true) [none, none] (va2 (vVar 6) (vVar 3)))
def lb_Lwrapped0 : VTS := vSeq (vAsg 7 (vOp sIx [none, none] (va2 (vLst (vaCons (vC (.str [112, 97, 114, 116])) (vaCons (vC (.str [105, 102])) (vaCons (vC (.str [114, 111, 117, 110, 100])) (vaNil))))) (vOp oMod [none, none] (va2 (vOp oDiv [none, none] (va2 (vVar 1) (vOp sAdd [none, none] (va2 (vC (.int 1)) (vOp sMul [none, none] (va2 (vVar 6) (vVar 6))))))) (vC (.int 3))))))) (vSeq (vAsg 8 (vTup (vaCons (vVar 7) (vaCons (vOp sIx [none, none] (va2 (vVar 5) (vVar 6))) (vaNil))))) (vSeq (vIfS (vB (vOp sEq [none, none] (va2 (vVar 7) (vC (.str [105, 102]))))) (vAsg 8 (vTup (vaCons (vC (.str [105, 102])) (vaCons (vVar 6) (vaCons (vC (.str [61])) (vaCons (vC (.str [120])) (vaNil))))))) (vSkip)) (vAsg 0 (vStill (vOp sAdd [none, none] (va2 (vOp sAdd [none, none] (va2 (vLst (vaCons (vVar 8) (vaNil))) (vVar 0))) (vLst (vaCons (vTup (vaCons (vC (.str [100, 111, 110, 101])) (vaNil))) (vaNil)))))))))
def t_Lwrapped : VTS := vSeq (vAsg 3 (vStill (vLc [4] (viLst (vVar 0)) (vName 4) (lt_Lwrapped0) (le_Lwrapped0)))) (vSeq (vAsg 5 (vStill (vLc [6] (viR1 (vaCons (vOp sAdd [none, none] (va2 (vOp sAdd [none, none] (va2 (vC (.int 100)) (vVar 2))) (vOp sLen [none] (vaCons (vVar 3) (vaNil))))) (vaNil))) (vName 6) (lt_Lwrapped2) (le_Lwrapped2)))) (vSeq (vFor (viR1 (vaCons (vVar 2) (vaNil))) (vName 6) (lb_Lwrapped0)) (vRet (vVar 0))))
def le_Lwords0 : VTE := vOp sStr [none] (vaCons (vVar 2) (vaNil))
def t_Lwords : VTS := vSeq (vIfS (vB (vOp sEq [none, none] (va2 (vOp sIx [none, none] (va2 (vVar 0) (vC (.int 0)))) (vC (.str [105, 102]))))) (vRet (vOp sAdd [none, none] (va2 (vOp sAdd [none, none] (va2 (vOp sAdd [none, none] (va2 (vOp sAdd [none, none] (va2 (vOp sAdd [none, none] (va2 (vC (.str [105, 102, 32])) (vOp sStr [none] (vaCons (vOp sIx [none, none] (va2 (vVar 0) (vC (.int 1)))) (vaNil))))) (vC (.str [32])))) (vOp sIx [none, none] (va2 (vVar 0) (vC (.int 2)))))) (vC (.str [32])))) (vOp sStr [none] (vaCons (vOp sIx [none, none] (va2 (vVar 0) (vC (.int 3)))) (vaNil)))))) (vSkip)) (vSeq (vIfS (vB (vOp sEq [none, none] (va2 (vOp sIx [none, none] (va2 (vVar 0) (vC (.int 0)))) (vC (.str [115, 117, 109]))))) (vSeq (vAsg 1 (vStill (vLst (vaCons (vOp sIx [none, none] (va2 (vVar 0) (vC (.int 1)))) (vaCons (vC (.str [61])) (vaCons (vOp sStr [none] (vaCons (vOp sIx [none, none] (va2 (vVar 0) (vC (.int 2)))) (vaNil))) (vaCons (vOp sIx [none, none] (va2 (vVar 0) (vC (.int 3)))) (vaCons (vOp sStr [none] (vaCons (vOp sIx [none, none] (va2 (vVar 0) (vC (.int 4)))) (vaNil))) (vaNil))))))))) (vRet (vOp (sJoinA [32]) [none] (va1 (vVar 1))))) (vSkip)) (vRet (vOp (sJoinA [32]) [none] (va1 (vLc [2] (viTup (vVar 0)) (vName 2) (vYes) (le_Lwords0))))))
def lb_Lspread0 : VTS := vSeq (vAsg 4 (vOp oDiv [none, none] (va2 (vCall (sp_Lmix) [none, none] (vaCons (vVar 0) (vaCons (vOp sAdd [none, none] (va2 (vC (.int 300)) (vVar 3))) (vaNil)))) (vC (.int 8))))) (vSeq (vIfS (vB (vOp sEq [none, none] (va2 (vOp oMod [none, none] (va2 (vVar 4) (vC (.int 5)))) (vC (.int 1))))) (vDrop (vMutN muAppend 2 (vaCons (vOp sMulS [none, none] (va2 (vC (.str [32, 32])) (vOp oMod [none, none] (va2 (vOp oDiv [none, none] (va2 (vVar 4) (vC (.int 5)))) (vC (.int 3)))))) (vaNil)))) (vSkip)) (vDrop (vMutN muAppend 2 (vaCons (vOp sAdd [none, none] (va2 (vOp sMulS [none, none] (va2 (vC (.str [32])) (vOp oMod [none, none] (va2 (vOp oDiv [none, none] (va2 (vVar 4) (vC (.int 16)))) (vC (.int 7)))))) (vCall (sp_Lwords) [none] (vaCons (vOp sIx [none, none] (va2 (vVar 1) (vVar 3))) (vaNil))))) (vaNil)))))
def t_Lspread : VTS := vSeq (vAsg 2 (vLst (vaNil))) (vSeq (vFor (viR1 (vaCons (vOp sLen [none] (vaCons (vVar 1) (vaNil))) (vaNil))) (vName 3) (lb_Lspread0)) (vRet (vOp (sJoinA [10]) [none] (va1 (vOp sAdd [some 2, none] (va2 (vMov 2) (vOp sMul [none, none] (va2 (vLst (vaCons (vC (.str [])) (vaNil))) (vOp oMod [none, none] (va2 (vOp oDiv [none, none] (va2 (vCall (sp_Lmix) [none, none] (vaCons (vVar 0) (vaCons (vC (.int 950)) (vaNil)))) (vC (.int 8)))) (vC (.int 3))))))))))))
def tb_law12 : VTS  := vRet (vCall ((sp_Lalike 190)) [none, none] (vaCons (vStill (vCall (sp_read_form) [none] (vaCons (vVar 4) (vaNil)))) (vaCons (vVar 5) (vaNil))))
def tb_law11 : VTS  := vSeq (vDrop (vMut muClear 6 (vpName 6) vaNil)) (tb_law12)
def tb_law10 : VTS  := vSeq (vIfS (vOr (vNot (vB (vCall ((sp_Lalike 190)) [none, none] (vaCons (vVar 8) (vaCons (vStill (vLst (vaCons (vTup (vaCons (vC (.str [114, 111, 117, 110, 100])) (vaCons (vVar 7) (vaCons (vLst (vaCons (vTup (vaCons (vC (.str [97, 103, 97, 105, 110])) (vaCons (vVar 7) (vaNil)))) (vaNil))) (vaNil))))) (vaNil)))) (vaNil)))))) (vNot (vViewT (wCall ((sp_Lalike 190)) (wCons (wName 6) (wCons (wName 5) (wNil))))))) (vRet (vC (.bl false))) (vSkip)) (tb_law11)
def tb_law9 : VTS  := vSeq (vAsg 8 (vStill (vCall (sp_read_form) [none] (vaCons (vOp sAdd [none, none] (va2 (vOp sAdd [none, none] (va2 (vOp sAdd [none, none] (va2 (vOp sAdd [none, none] (va2 (vC (.str [114, 111, 117, 110, 100, 32])) (vOp sStr [none] (vaCons (vVar 7) (vaNil))))) (vC (.str [10, 32, 97, 103, 97, 105, 110, 32])))) (vOp sStr [none] (vaCons (vVar 7) (vaNil))))) (vC (.str [10, 100, 111, 110, 101])))) (vaNil))))) (tb_law10)
def tb_law8 : VTS  := vSeq (vAsg 7 (vOp oMod [none, none] (va2 (vCall (sp_Lmix) [none, none] (vaCons (vVar 0) (vaCons (vC (.int 953)) (vaNil)))) (vC (.int 10000))))) (tb_law9)
def tb_law7 : VTS  := vSeq (vIfS (vNot (vViewT (wCall ((sp_Lalike 190)) (wCons (wName 6) (wCons (wName 5) (wNil)))))) (vRet (vC (.bl false))) (vSkip)) (tb_law8)
def tb_law6 : VTS  := vSeq (vAsg 6 (vCall (sp_read_form) [none] (vaCons (vVar 4) (vaNil)))) (tb_law7)
def tb_law5 : VTS  := vSeq (vAsg 5 (vStill (vCall (sp_Lnested) [none] (vaCons (vVar 1) (vaNil))))) (tb_law6)
def tb_law4 : VTS  := vSeq (vAsg 4 (vCall (sp_Lspread) [none, none] (vaCons (vVar 0) (vaCons (vVar 1) (vaNil))))) (tb_law5)
def tb_law3 : VTS  := vSeq (vIfS (vB (vOp sEq [none, none] (va2 (vVar 2) (vC (.int 2))))) (vSeq (vAsg 3 (vOp oSub [none, none] (va2 (vOp oSub [none, none] (va2 (vC (.int 400)) (vOp sLen [none] (vaCons (vVar 1) (vaNil))))) (vOp oMod [none, none] (va2 (vOp oDiv [none, none] (va2 (vCall (sp_Lmix) [none, none] (vaCons (vVar 0) (vaCons (vC (.int 952)) (vaNil)))) (vC (.int 8)))) (vC (.int 3))))))) (vAsg 1 (vStill (vOp sAdd [none, none] (va2 (vVar 1) (vOp sMul [none, none] (va2 (vLst (vaCons (vTup (vaCons (vC (.str [115, 117, 109])) (vaCons (vC (.str [120])) (vaCons (vC (.str [120])) (vaCons (vC (.str [43])) (vaCons (vVar 3) (vaNil))))))) (vaNil))) (vVar 3)))))))) (vSkip)) (tb_law4)
def tb_law2 : VTS  := vSeq (vIfS (vB (vOp sEq [none, none] (va2 (vVar 2) (vC (.int 1))))) (vAsg 1 (vStill (vCall (sp_Lwrapped) [none, none, none] (vaCons (vVar 1) (vaCons (vCall (sp_Lmix) [none, none] (vaCons (vVar 0) (vaCons (vC (.int 952)) (vaNil)))) (vaCons (vOp oSub [none, none] (va2 (vC (.int 90)) (vCall (sp_Ldepth) [none] (vaCons (vVar 1) (vaNil))))) (vaNil))))))) (vSkip)) (tb_law3)
def tb_law1 : VTS  := vSeq (vAsg 2 (vOp oMod [none, none] (va2 (vOp oDiv [none, none] (va2 (vCall (sp_Lmix) [none, none] (vaCons (vVar 0) (vaCons (vC (.int 951)) (vaNil)))) (vC (.int 8)))) (vC (.int 8))))) (tb_law2)
def t_law : VTS := vSeq (vAsg 1 (vStill (vCall (sp_Llines) [none, none] (vaCons (vVar 0) (vaCons (vOp sMax [none, none] (vaCons (vC (.int 1)) (vaCons (vOp sMin [none, none] (vaCons (vOp sLen [none] (vaCons (vVar 0) (vaNil))) (vaCons (vC (.int 60)) (vaNil)))) (vaNil)))) (vaNil)))))) (tb_law1)
end Pk54
namespace Pk54
open PySem PySem.Spec PyProof.Rows L2 VL
local macro_rules
  | `(tactic| simp! only [$ls,*] $[$loc:location]?) => `(tactic| simp (maxSteps := 4000000) only [startE, List.map_cons, List.map_nil, List.length_cons, List.length_nil, List.replicate, List.cons_append, List.nil_append, Nat.reduceAdd, Nat.reduceSub, Nat.zero_add,
  vSeq, vIfS, vRet, vRetN, vAsg, vAsgT, vName, vVar, vMov, vFrz, vC, va1, va2, vaCons, vaNil, vaLate, vOp, vOpQ, vB, vAnd, vOr, vNot, vAndV, vOrV, vNotV, vIf, vTup, vLst, vStill, vSkip, vDrop, vBrk, vCnt, vCall, vFor, viR1, viR2, viLst, viTup, viStr, viEnum, viZip, viRev, vSl, vNoPart, vPart, vDGet2, vM1, vPeek, vAddL, vSetd, vLcO, vForZO, vSet, vAt, vpName, vpIx, vMutN, vMut,
  restore, List.getElem?_cons_zero, List.getElem?_cons_succ, Option.some.injEq, exists_eq_left', isFz, isFzL, frz, frzL, List.set_cons_zero, List.set_cons_succ, e_sI2, e_sI2c, e_neg, e_addI, e_addS, e_addT, e_addL, e_mulI, e_divmod, e_eq, e_ne, eqOk_i, eqOk_s, eqOk_b, eqOk_si, eqOk_is, deq_i, deq_s, deq_b, deq_si, deq_is,
  e_isN, e_notN, e_isi, e_lenS, e_lenL, e_lenT, e_lenK, e_lenDT, e_ix, ixD_l, ixD_t, e_in, e_min, e_max, e_list, e_tuple, e_dict, e_rev, e_dget2, e_eqD, e_slS, e_slL, e_slT, isDct_K, isDct_T, tyNm, D.bl.injEq, D.int.injEq, D.str.injEq, true_and, and_true, decide_eq_true_eq, finalL, Nat.reduceLT, Nat.reduceLeDiff, if_true, Bool.and_self, and_self, pmod_lit, pdiv_lit, cml_lit_r, cml_lit_l, cpow_lit, cdv_lit, Int.reduceNe, Int.reduceEq, Int.reduceToNat, Int.reducePow, Int.reduceMul, Int.reduceAdd, Int.reduceSub, Int.reduceNeg, Int.reduceLT, Int.reduceLE, Nat.reduceLT, Nat.reduceLeDiff, Nat.reducePow, Nat.reduceEqDiff, ne_eq, not_false_eq_true, eq_self, reduceCtorEq, false_and, and_false, if_false, Bool.not_true, Bool.not_false, Bool.true_eq_false, Bool.false_eq_true, List.cons.injEq, e_app, lst_inj, exists_const, ixN_lit, Option.bind_some, getP_nilE, setP_nilE, exists_and_left, exists_eq', isT_nonetype_int, isT_nonetype_bool, isT_nonetype_str, isT_nonetype_list, isT_nonetype_tuple, isT_nonetype_dict, isT_int_int, isT_int_bool, isT_int_str, isT_int_list, isT_int_tuple, isT_int_dict, isT_bool_int, isT_bool_bool, isT_bool_str, isT_bool_list, isT_bool_tuple, isT_bool_dict, isT_str_int, isT_str_bool, isT_str_str, isT_str_list, isT_str_tuple, isT_str_dict, isT_list_int, isT_list_bool, isT_list_str, isT_list_list, isT_list_tuple, isT_list_dict, isT_tuple_int, isT_tuple_bool, isT_tuple_str, isT_tuple_list, isT_tuple_tuple, isT_tuple_dict, isT_dict_int, isT_dict_bool, isT_dict_str, isT_dict_list, isT_dict_tuple, isT_dict_dict, inT_int, inT_bool, inT_str, inT_list, inT_tuple, inT_dict, wName, wC, w1, w2, wNil, wCons, wOp, wCall, wTup, wLst, vView, vViewT, wMeth, flatD, tyOk_L, e_index, e_any, e_all, vAug, vForO, e_pop, names1, names2, names3, Bool.true_and, isFzL_nds, natsD_fz, isFz_nd, frz_nd, natsD_frz, frzL_nds, opD_fz, natsD_len, cutL_take, cutL_drop, List.take_succ_cons, List.take_zero, List.drop_succ_cons, List.drop_zero, frz_op, vLc, pull, forgetE, vYes, VL.isNon, D.tup.injEq, seqD_l, seqD_t, listD_l, listD_t, frz_rows, rowsF_fz, rowsD_len, rowsF_len, deq_ll, frz_rowsF, frzL_len, List.length_map, eqOk_n0, eqOk_nn, deqL_n0, deqL_nn, vDisp1, vDisp, vdCons, vdNil, rws_fz, rws_frz, mm_fz, mm_frz, deds_fz, deds_frz, strs_fz, strs_frz, isDct_mm, plc_frz, vLend, slice_script, frz_ints, new_told, ded_frz, rwD_frz, std_fz, std_frz, std_len, ln_fz, ln_frz, lns_fz, lns_frz, tk_fz, fms_fz, fms_frz, fm_fz, fm_frz, e_strS, e_join, e_joinA, e_split, e_part, e_starts, e_inG, viRd, $ls,*] $[$loc]?)
theorem rd_Opened_statement : Rd 1 [true] 1 sp_Opened_statement t_Opened_statement := by
  rintro ds Q Ex hl ⟨⟨w, r, y, xs⟩, rfl, o, q⟩
  obtain ⟨o1, o2, o3, o4, o5⟩ := o
  have o1 : isFzL r = true := o1
  have o2 : ∀ ys, y = some ys → isFzL ys = true := o2
  have o3 : isFzL xs = true := o3
  have o4 : r.length < 100 := o4
  have q : ∀ o, Q (OfA.st ⟨w, r, y, xs⟩) [o] := q
  unfold t_Opened_statement
  simp! only [OfA.d, wFld, o1, frzL_id o1]
  have hx0 : ixD (.tup (.str w :: r)) (.int 0) = some (.str w) := by
    show (ixN (D.str w :: r).length ((0 : Nat) : Int)).bind (fun j => (D.str w :: r)[j]?) = _
    rw [ixN_nat (by simp)]
    rfl
  have hf : isFz (D.tup (D.str w :: r)) = true := by show (isFz (D.str w) && isFzL r) = true; rw [o1]; rfl
  have hf2 : isFzL (D.str w :: r) = true := hf
  have ex : frz (D.lst true xs) = .lst false xs := by show D.lst false (frzL xs) = _; rw [frzL_id o3]
  have hy : isFz (ysD y) = true := ysD_fz o2
  refine ⟨_, _, rfl, 0, rfl, _, rfl, _, hx0, rfl, ?_⟩
  simp! only [vTake, vpFd]
  by_cases hw : w = [99, 104, 111, 105, 99, 101]
  · subst hw
    cases y with
    | none =>
      simp! only [ysD, vTake, vpFd]
      refine ite_no (by simp) ⟨_, _, rfl, 1, rfl, _, rfl, (fun z => nomatch z), ite_yes (show true = true by rfl) ?_⟩
      refine ⟨_, _, rfl, 0, rfl, (by show 0 < 3; decide), _, rfl, hf, _, _, rfl, 2, rfl, (by show 2 < 3; decide), _, rfl, ?_⟩
      rw [ex, e_addT]
      exact ⟨⟨hf2, by simp [isFzL, isFz, o3], by simp; omega⟩, q _⟩
    | some ys =>
      simp! only [ysD, vTake, vpFd]
      refine ite_no (by simp) ⟨_, _, rfl, 1, rfl, _, rfl, (fun z => nomatch z), ite_no (show ¬(false = true) by decide) ?_⟩
      refine ⟨_, _, rfl, 0, rfl, (by show 0 < 3; decide), _, rfl, hf, _, _, rfl, 1, rfl, (by show 1 < 3; decide), _, rfl, hy, _, _, rfl, 2, rfl, (by show 2 < 3; decide), _, rfl, ?_⟩
      rw [ex, e_addT]
      exact ⟨⟨hf2, by simp [isFzL, isFz, o3, o2 ys rfl], by simp; omega⟩, q _⟩
  · simp only [hw]
    refine ite_yes (by simp) ?_
    refine ⟨_, _, rfl, 0, rfl, (by show 0 < 3; decide), _, rfl, hf, _, _, rfl, 2, rfl, (by show 2 < 3; decide), _, rfl, ?_⟩
    have q := q (setP (D.ins true 1 [cHeadF, cYes, cNowF] [D.tup (D.str w :: r), ysD y, D.lst true xs]) [Stp.fd [110, 111, 119]] D.hole)
    unfold OfA.st at q
    rw [if_neg hw] at q
    rw [ex, e_addT]
    exact ⟨⟨hf2, by simp [isFzL, isFz, o3], by simp; omega⟩, q⟩
theorem rd_Opened_turned : Rd 1 [true] 1 sp_Opened_turned t_Opened_turned := by
  rintro ds Q Ex hl ⟨⟨w, r, y, xs⟩, rfl, o, h1, h2⟩
  obtain ⟨o1, o2, o3, o4, o5⟩ := o
  have o1 : isFzL r = true := o1
  have o2 : ∀ ys, y = some ys → isFzL ys = true := o2
  have o3 : isFzL xs = true := o3
  have h1 : (w = cChoice ∧ y = none) → Q .non [OfA.d ⟨w, r, some xs, []⟩] := h1
  have h2 : ¬(w = cChoice ∧ y = none) → Ex (.type "NoForm") .non [OfA.d ⟨w, r, y, xs⟩] := h2
  unfold t_Opened_turned
  simp! only [OfA.d, wFld, o1, frzL_id o1]
  have hx0 : ixD (.tup (.str w :: r)) (.int 0) = some (.str w) := by
    show (ixN (D.str w :: r).length ((0 : Nat) : Int)).bind (fun j => (D.str w :: r)[j]?) = _
    rw [ixN_nat (by simp)]
    rfl
  refine ⟨_, _, rfl, 0, rfl, _, rfl, _, hx0, rfl, ?_⟩
  simp! only [vRaise]
  by_cases hw : w = [99, 104, 111, 105, 99, 101]
  · subst hw
    cases y with
    | none =>
      have q := h1 ⟨rfl, rfl⟩
      simp! only [ysD, vFldE, vTake, vpFd]
      refine ite_no (by simp) ⟨_, _, rfl, 1, rfl, _, rfl, (fun z => nomatch z), ite_no (show ¬((!true) = true) by decide) ⟨_, _, rfl, 2, rfl, (by show 2 < 3; decide), _, rfl, ?_⟩⟩
      refine ⟨_, _, rfl, 1, rfl, (by show 1 < 3; decide), (by show 3 < 1000; decide), _, _, rfl, 2, rfl, (by show 2 < 3; decide), (by show 3 < 1000; decide), ?_⟩
      have e : frz (D.lst true xs) = .lst false xs := by show D.lst false (frzL xs) = _; rw [frzL_id o3]
      rw [e]
      exact q
    | some ys =>
      have q := h2 (fun z => nomatch z.2)
      simp! only [ysD, vRaise]
      exact ite_no (by simp) ⟨_, _, rfl, 1, rfl, _, rfl, (fun z => nomatch z), ite_yes rfl q⟩
  · have q := h2 (fun z => hw z.1)
    simp only [hw]
    exact ite_yes (by simp) q
theorem rd_Opened_init : Rd 2 [true, true] 2 sp_Opened_init t_Opened_init := by
  rintro ds Q Ex hl ⟨⟨w, r⟩, rfl, hr, q⟩
  have hr : isFzL r = true := hr
  have q : Q .non [OfA.d ⟨w, r, none, []⟩, .tup (.str w :: r)] := q _ _ ⟨rfl, rfl⟩
  unfold t_Opened_init
  simp! only [vFld, hr]
  exact ⟨_, _, rfl, rfl, by decide, _, _, rfl, rfl, by decide, _, _, rfl, rfl, by decide, q⟩
theorem rd_lists_of : Rd 1 [true] 1 sp_lists_of t_lists_of := by
  rintro ds Q Ex hl ⟨f, rfl, _, q⟩
  have q : Q (.lst true (listsD f)) [fmD f] := q
  unfold t_lists_of
  cases f with
  | choice a s b Y Z e =>
    have e2 : (if e = true then fmsD Z else []) = fmsD (if e = true then Z else []) := by cases e; rw [if_neg (by decide), if_neg (by decide), fmsD]; rfl
    simp only [fmD, e2] at q ⊢
    simp! only [opD_fz, fms_fz]
    exact q
  | sum x a s b =>
    simp only [fmD] at q ⊢
    simp! only [opD_fz]
    exact q
  | _ =>
    simp only [fmD] at q ⊢
    simp! only [fms_fz]
    exact q
theorem rd_sound_opening : Rd 2 [true, true] 3 sp_sound_opening t_sound_opening := by
  rintro ds Q Ex hl ⟨⟨k, n, B, U⟩, rfl, hU, q⟩
  have hU : U.length < 1000 := hU
  have q1 : metB U n → ∀ d, Q (.bl false) [.tup [.str k, .int n, .lst false (fmsD B)], d] := fun h d => q _ _ ⟨d, rfl, .inl ⟨h, rfl⟩⟩
  have q2 : ¬metB U n → Q (.bl true) [.tup [.str k, .int n, .lst false (fmsD B)], usedD (U ++ [n])] := fun h => q _ _ ⟨_, rfl, .inr ⟨h, rfl, rfl⟩⟩
  unfold t_sound_opening
  simp! only [fms_fz]
  have e : frz (usedD U) = .dK false (U.map Sum.inl) (frzL (U.map fun _ => D.bl true)) := rfl
  rw [e, vmem_used]
  by_cases h : n ∈ U
  · rw [if_pos (decide_eq_true h)]
    exact q1 (.inl h) _
  · rw [if_neg (by simpa using h)]
    split
    · next h2 => exact q1 (.inr (.inl h2)) _
    · next h2 =>
      split
      · next h3 => exact q1 (.inr (.inr h3)) _
      · next h3 => exact ⟨_, put_used (by omega) h, q2 fun z => by rcases z with z | z | z; exact h z; exact h2 z; exact h3 z⟩
theorem bind_some_r {α : Type} {o : Option α} : o.bind some = o := by cases o <;> rfl
/-- the lists in a statement, one behind the other -/
def sndLs (W R : List Int) : List Int → List (List Fm) → Option (List Int)
  | U, [] => some U
  | U, B :: Bs => (sndL W R U B).bind fun U => sndLs W R U Bs
theorem for_sound_statement {n : Nat} {W R : List Int} {a : Option D} {N : VEnds} {k : Nat} : ∀ (Bs : List (List Fm)) (U : List Int) (u : Option D), (∀ B ∈ Bs, dpL B < n ∧ dpL B ≤ k) → W.length + k < 1000 → R.length + k < 1000 → U.length + (Bs.map fun B => (lnsL B).length).sum < 1000 →
    (∀ V u, sndLs W R U Bs = some V → N.nx [a, some (.lst false (intsD W)), some (.lst false (intsD R)), some (usedD V), u]) →
    (∀ d u, sndLs W R U Bs = none → N.rt (.bl false) [a, some (.lst false (intsD W)), some (.lst false (intsD R)), some d, u]) →
    vForL (vName 4) (lb_sound_statement0 n) (Bs.map fun B => D.lst false (fmsD B)) N [a, some (.lst false (intsD W)), some (.lst false (intsD R)), some (usedD U), u]
  | [], U, u, h, p1, p2, p3, q1, q2 => q1 U u rfl
  | B :: Bs, U, u, h, p1, p2, p3, q1, q2 => by
    rw [List.map_cons, List.sum_cons] at p3
    rw [List.map_cons, e_forU (lb_sound_statement0.eq_1 n)]
    simp! only [fms_fz, intsD_fz]
    obtain ⟨h1, h2⟩ := h B List.mem_cons_self
    refine c_sound_list ⟨h1, by omega, by omega, by omega⟩ (fun V hV => ⟨rfl, ?_⟩) fun d hd => ⟨rfl, ?_⟩
    · simp! only []
      have hv := sndL_len B hV
      refine for_sound_statement Bs V _ (fun B hB => h B (List.mem_cons_of_mem _ hB)) p1 p2 (by omega) (fun V2 u h2 => q1 V2 u ?_) fun d u h2 => q2 d u ?_
      · rw [sndLs, hV]; exact h2
      · rw [sndLs, hV]; exact h2
    · simp! only []
      exact q2 d _ (by rw [sndLs, hd]; rfl)
theorem rd_sound_statement (n : Nat) : Rd 4 [true, false, false, true] 5 (sp_sound_statement n) (t_sound_statement n) := by
  rintro ds Q Ex hl ⟨⟨f, W, R, U⟩, rfl, ⟨h, p⟩, q⟩
  have h : dpF f ≤ n := h
  obtain ⟨p1, p2, p3⟩ : SndPre W R U (dpF f) (lnsF f).length := p
  have q1 : ∀ V, sndF W R U f = some V → Q (.bl true) [fmD f, .lst false (intsD W), .lst false (intsD R), usedD V] := fun V e => q _ _ (.inl ⟨V, e, rfl, rfl⟩)
  have q2 : ∀ d, sndF W R U f = none → Q (.bl false) [fmD f, .lst false (intsD W), .lst false (intsD R), d] := fun d e => q _ _ (.inr ⟨e, rfl, d, rfl⟩)
  unfold t_sound_statement
  cases f with
  | sum x a s b =>
    simp only [sndF] at q1 q2
    simp only [fmD] at q1 q2 ⊢
    simp! only [opD_fz]
    refine c_lists_of (f := .sum x a s b) (by simp only [fmD]) ⟨rfl, ?_⟩
    simp! only [listsD, listsF, vForL, intsD_fz]
    exact q1 U rfl
  | fin =>
    simp only [sndF] at q1 q2
    simp only [fmD] at q1 q2 ⊢
    simp! only []
    refine c_lists_of (f := .fin) (by simp only [fmD]) ⟨rfl, ?_⟩
    simp! only [listsD, listsF, vForL, intsD_fz]
    exact q1 U rfl
  | leave m =>
    simp only [sndF] at q1 q2
    simp only [fmD] at q1 q2 ⊢
    simp! only [intsD_fz]
    rw [vmem_ints]
    by_cases g : m ∈ W
    · rw [decide_eq_true g]
      exact q1 U (if_pos g)
    · rw [decide_eq_false g]
      exact q2 _ (if_neg g)
  | again m =>
    simp only [sndF] at q1 q2
    simp only [fmD] at q1 q2 ⊢
    simp! only [intsD_fz]
    rw [vmem_ints]
    by_cases g : m ∈ R
    · rw [decide_eq_true g]
      exact q1 U (if_pos g)
    · rw [decide_eq_false g]
      exact q2 _ (if_neg g)
  | round m B =>
    simp only [sndF] at q1 q2
    simp only [dpF] at h p1 p2
    simp only [lnsF, List.length_cons, List.length_append, List.length_nil] at p3
    simp only [fmD] at q1 q2 ⊢
    simp! only [fms_fz, intsD_fz]
    refine c_sound_opening (by omega) (fun g d => ⟨rfl, ?_⟩) fun g => ⟨rfl, ?_⟩
    · simp! only [intsD_fz]
      exact q2 _ (if_pos g)
    · have g2 : ¬(m ∈ U ∨ m < 0 ∨ 9999 < m) := g
      simp only [if_neg g2] at q1 q2
      simp! only [fms_fz, intsD_fz, intsD_frz, intsD_len, intsD_app]
      iterate 2 refine ⟨by omega, ?_⟩
      refine c_lists_of (f := .round m B) (by simp only [fmD]) ⟨rfl, ?_⟩
      simp! only [listsD, listsF, fms_fz, fms_frz]
      refine for_sound_statement (k := dpL B) [B] (U ++ [m]) none (fun C hC => by rw [List.mem_singleton.mp hC]; exact ⟨by omega, Nat.le_refl _⟩) (by simp; omega) (by simp; omega) (by simp; omega) (fun V u e => ?_) fun d u e => ?_
      · simp! only [fms_fz, intsD_fz]
        refine q1 V ?_
        revert e
        show (sndL _ _ _ _).bind some = _ → _
        rw [bind_some_r]
        exact id
      · simp! only [fms_fz, intsD_fz]
        refine q2 d ?_
        revert e
        show (sndL _ _ _ _).bind some = _ → _
        rw [bind_some_r]
        exact id
  | part m B =>
    simp only [sndF] at q1 q2
    simp only [dpF] at h p1 p2
    simp only [lnsF, List.length_cons, List.length_append, List.length_nil] at p3
    simp only [fmD] at q1 q2 ⊢
    simp! only [fms_fz, intsD_fz]
    refine c_sound_opening (by omega) (fun g d => ⟨rfl, ?_⟩) fun g => ⟨rfl, ?_⟩
    · simp! only [intsD_fz]
      exact q2 _ (if_pos g)
    · have g2 : ¬(m ∈ U ∨ m < 0 ∨ 9999 < m) := g
      simp only [if_neg g2] at q1 q2
      simp! only [fms_fz, intsD_fz, intsD_frz, intsD_len, intsD_app]
      iterate 1 refine ⟨by omega, ?_⟩
      refine c_lists_of (f := .part m B) (by simp only [fmD]) ⟨rfl, ?_⟩
      simp! only [listsD, listsF, fms_fz, fms_frz]
      refine for_sound_statement (k := dpL B) [B] (U ++ [m]) none (fun C hC => by rw [List.mem_singleton.mp hC]; exact ⟨by omega, Nat.le_refl _⟩) (by simp; omega) (by skip; omega) (by simp; omega) (fun V u e => ?_) fun d u e => ?_
      · simp! only [fms_fz, intsD_fz]
        refine q1 V ?_
        revert e
        show (sndL _ _ _ _).bind some = _ → _
        rw [bind_some_r]
        exact id
      · simp! only [fms_fz, intsD_fz]
        refine q2 d ?_
        revert e
        show (sndL _ _ _ _).bind some = _ → _
        rw [bind_some_r]
        exact id
  | choice a s b Y Z e =>
    simp only [sndF] at q1 q2
    simp only [fmD] at q1 q2 ⊢
    have e2 : (if e = true then fmsD Z else []) = fmsD (if e = true then Z else []) := by cases e; rw [if_neg (by decide), if_neg (by decide), fmsD]; rfl
    have e3 : (lnsL Y).length + (lnsL (if e = true then Z else [])).length ≤ (lnsF (.choice a s b Y Z e)).length := by
      rw [lnsF]
      cases e
      · simp [lnsL]; omega
      · simp; omega
    have e4 : dpL Y < dpF (.choice a s b Y Z e) ∧ dpL (if e = true then Z else []) < dpF (.choice a s b Y Z e) := by
      rw [dpF]
      cases e
      · simp [dpL]
      · simp; omega
    have e5 : ∀ U, (if e = true then sndL W R U Z else some U) = sndL W R U (if e = true then Z else []) := fun U => by
      cases e
      · rw [if_neg (by decide), if_neg (by decide), sndL]
      · rfl
    simp only [e2, e5] at q1 q2 ⊢
    simp! only [opD_fz, fms_fz, intsD_fz]
    refine c_lists_of (f := .choice a s b Y Z e) (by simp only [fmD, e2]) ⟨rfl, ?_⟩
    simp! only [listsD, listsF, fms_fz, fms_frz]
    generalize (if e = true then Z else []) = Z2 at *
    refine for_sound_statement (k := dpF (.choice a s b Y Z e)) [Y, Z2] U none (fun C hC => ?_) (by omega) (by omega) (by simp; omega) (fun V u g => ?_) fun d u g => ?_
    · rcases List.mem_cons.mp hC with rfl | hC
      · exact ⟨by omega, by omega⟩
      · rw [List.mem_singleton.mp hC]
        exact ⟨by omega, by omega⟩
    · simp! only [opD_fz, fms_fz, intsD_fz]
      refine q1 V ?_
      revert g
      show ((sndL W R U Y).bind fun U => (sndL W R U Z2).bind some) = _ → _
      simp only [bind_some_r]
      exact id
    · simp! only [opD_fz, fms_fz, intsD_fz]
      refine q2 d ?_
      revert g
      show ((sndL W R U Y).bind fun U => (sndL W R U Z2).bind some) = _ → _
      simp only [bind_some_r]
      exact id
theorem for_sound_list {n : Nat} {W R : List Int} {a : Option D} {N : VEnds} : ∀ (F : List Fm) (U : List Int) (u : Option D), dpL F ≤ n → SndPre W R U (dpL F) (lnsL F).length →
    (∀ V u, sndL W R U F = some V → N.nx [a, some (.lst false (intsD W)), some (.lst false (intsD R)), some (usedD V), u]) →
    (∀ d u, sndL W R U F = none → N.rt (.bl false) [a, some (.lst false (intsD W)), some (.lst false (intsD R)), some d, u]) →
    vForL (vName 4) (lb_sound_list0 n) (fmsD F) N [a, some (.lst false (intsD W)), some (.lst false (intsD R)), some (usedD U), u]
  | [], U, u, h, p, q1, q2 => by
    rw [fmsD]
    exact q1 U u (by rw [sndL])
  | f :: F, U, u, h, p, q1, q2 => by
    obtain ⟨p1, p2, p3⟩ := p
    rw [dpL] at h p1 p2
    rw [lnsL, List.length_append] at p3
    rw [fmsD, e_forU (lb_sound_list0.eq_1 n)]
    simp! only [fm_fz, intsD_fz]
    refine c_sound_statement ⟨by omega, by omega, by omega, by omega⟩ (fun V hV => ⟨rfl, ?_⟩) fun d hd => ⟨rfl, ?_⟩
    · simp! only []
      have hv := sndF_len f hV
      refine for_sound_list F V _ (by omega) ⟨by omega, by omega, by omega⟩ (fun V2 u h2 => q1 V2 u ?_) fun d u h2 => q2 d u ?_
      · rw [sndL, hV]; exact h2
      · rw [sndL, hV]; exact h2
    · simp! only []
      exact q2 d _ (by rw [sndL, hd]; rfl)
theorem rd_sound_list (n : Nat) : Rd 4 [true, true, true, true] 5 (sp_sound_list (n + 1)) (t_sound_list n) := by
  rintro ds Q Ex hl ⟨⟨F, W, R, U⟩, rfl, ⟨h, p⟩, q⟩
  have h : dpL F ≤ n := h
  have p : SndPre W R U (dpL F) (lnsL F).length := p
  have q1 : ∀ V, sndL W R U F = some V → Q (.bl true) [.lst false (fmsD F), .lst false (intsD W), .lst false (intsD R), usedD V] := fun V e => q _ _ (.inl ⟨V, e, rfl, rfl⟩)
  have q2 : ∀ d, sndL W R U F = none → Q (.bl false) [.lst false (fmsD F), .lst false (intsD W), .lst false (intsD R), d] := fun d e => q _ _ (.inr ⟨e, rfl, d, rfl⟩)
  unfold t_sound_list
  simp! only [fms_fz]
  refine for_sound_list F U none h p (fun V u e => ?_) fun d u e => ?_
  · simp! only []
    exact q1 V e
  · simp! only []
    exact q2 d e
theorem rd_sound : Rd 1 [true] 1 sp_sound t_sound := by
  rintro ds Q Ex hl ⟨F, rfl, ⟨h1, h2⟩, q⟩
  have h1 : dpL F ≤ 90 := h1
  have h2 : (lnsL F).length < 900 := h2
  have q : Q (.bl (sndL [] [] [] F).isSome) [.lst false (fmsD F)] := q
  unfold t_sound
  simp! only [fms_fz]
  refine c_sound_list (W := []) (R := []) (U := []) ⟨by omega, by simp; omega, by simp; omega, by simp; omega⟩ (fun V hV => ⟨rfl, ?_⟩) fun d hd => ⟨rfl, ?_⟩
  · rw [hV] at q
    simp! only [fms_fz]
    exact q
  · rw [hd] at q
    simp! only [fms_fz]
    exact q
theorem mem_fig (c : Nat) : memD (.str [c]) (.str [48, 49, 50, 51, 52, 53, 54, 55, 56, 57]) = some (isFig c) := by
  show some (decide (c ∈ [48, 49, 50, 51, 52, 53, 54, 55, 56, 57])) = _
  congr 1
  unfold isFig
  rw [decide_eq_decide]
  simp
  omega
theorem for_number_read {a b : Option D} {N : VEnds} : ∀ (cs : Cs) (u : Option D), (∀ u, cs.all isFig = false → N.rt .non [a, b, u]) → (∀ u, cs.all isFig = true → N.nx [a, b, u]) → vForL (vName 2) lb_number_read0 (cs.map fun c => D.str [c]) N [a, b, u]
  | [], u, q1, q2 => q2 u rfl
  | c :: cs, u, q1, q2 => by
    rw [List.map_cons, e_forU lb_number_read0.eq_1]
    simp! only [mem_fig]
    cases h : isFig c with
    | false =>
      refine ite_yes rfl (q1 _ ?_)
      rw [List.all_cons, h]
      rfl
    | true =>
      refine ite_no (by decide) (for_number_read cs _ (fun u z => q1 u ?_) fun u z => q2 u ?_)
      · rw [List.all_cons, h, z]; rfl
      · rw [List.all_cons, h, z]; rfl
theorem rd_number_read : Rd 2 [true, true] 3 sp_number_read t_number_read := by
  rintro ds Q Ex hl ⟨⟨w, m⟩, rfl, ⟨h1, h2⟩, q⟩
  have h1 : w.length < 1000000 := h1
  have h2 : m ≤ 640 := h2
  have q : Q (onatD (numR w m)) [.str w, .int (m : Int)] := q
  unfold numR at q
  unfold t_number_read
  simp! only []
  by_cases e : w = []
  · rw [if_pos (Or.inl e)] at q
    rw [if_pos e]
    exact q
  · rw [if_neg e]
    refine ⟨h1, ?_⟩
    by_cases e2 : m < w.length
    · rw [if_pos (Or.inr e2)] at q
      rw [if_pos (by omega)]
      exact q
    · rw [if_neg (fun z => z.elim e e2)] at q
      rw [if_neg (by omega)]
      refine for_number_read w none (fun u z => ?_) fun u z => ?_
      · rw [if_pos z] at q
        simp! only []
        exact q
      · rw [if_neg (by rw [z]; decide)] at q
        obtain ⟨c, t, rfl⟩ : ∃ c t, w = c :: t := by cases w with | nil => exact absurd rfl e | cons c t => exact ⟨c, t, rfl⟩
        have i0 : ixD (.str (c :: t)) (.int 0) = some (.str [c]) := by
          show (if (c :: t).length < 1000000 then (ixN (c :: t).length ((0 : Nat) : Int)).bind fun j => ((c :: t)[j]?).map fun c => D.str [c] else none) = _
          rw [if_pos h1, ixN_nat (by simp)]
          rfl
        have fin : ¬((c :: t).head? = some 48 ∧ 1 < (c :: t).length) → sIntS [.str (c :: t)] fun d => Q d [.str (c :: t), .int (m : Int)] := fun hh => by
          rw [if_neg hh] at q
          have eb := numL_back (c :: t).length rfl z (by simp) hh
          exact ⟨NumText.digitsVal (c :: t), by rw [eb], by rw [eb]; exact Nat.le_trans (Nat.le_of_not_lt e2) h2, q⟩
        simp! only [i0]
        by_cases ec : c = 48
        · have lt : (c :: t).length = t.length + 1 := rfl
          refine ite_yes (by rw [ec]) ⟨by omega, ?_⟩
          by_cases el : 1 < (c :: t).length
          · rw [if_pos ⟨by rw [ec]; rfl, el⟩] at q
            rw [if_pos (by omega)]
            exact q
          · rw [if_neg (by omega)]
            exact fin fun z => el z.2
        · refine ite_no (by simp [ec]) (fin fun z => ec (by have := z.1; simpa using this))
theorem mem_let (c : Nat) : memD (.str [c]) (.str [97, 98, 99, 100, 101, 102, 103, 104, 105, 106, 107, 108, 109, 110, 111, 112, 113, 114, 115, 116, 117, 118, 119, 120, 121, 122]) = some (isLet c) := by
  show some (decide (c ∈ [97, 98, 99, 100, 101, 102, 103, 104, 105, 106, 107, 108, 109, 110, 111, 112, 113, 114, 115, 116, 117, 118, 119, 120, 121, 122])) = _
  congr 1
  unfold isLet
  rw [decide_eq_decide]
  simp
  omega
theorem mem_fig2 (c : Nat) : memD (.str [c]) (.str [48, 49, 50, 51, 52, 53, 54, 55, 56, 57]) = some (decide (48 ≤ c ∧ c ≤ 57)) := by
  show some (decide (c ∈ [48, 49, 50, 51, 52, 53, 54, 55, 56, 57])) = _
  congr 1
  rw [decide_eq_decide]
  simp
  omega
theorem for_is_name {a : Option D} {N : VEnds} : ∀ (cs : Cs) (u : Option D), (∀ u, cs.all isLd = false → N.rt (.bl false) [a, u]) → (∀ u, cs.all isLd = true → N.nx [a, u]) → vForL (vName 1) lb_is_name0 (cs.map fun c => D.str [c]) N [a, u]
  | [], u, q1, q2 => q2 u rfl
  | c :: cs, u, q1, q2 => by
    rw [List.map_cons, e_forU lb_is_name0.eq_1]
    simp! only [mem_let, mem_fig2]
    have rest : isLd c = true → vForL (vName 1) lb_is_name0 (cs.map fun c => D.str [c]) N [a, some (.str [c])] := fun h => for_is_name cs _ (fun u z => q1 u (by rw [List.all_cons, h, z]; rfl)) fun u z => q2 u (by rw [List.all_cons, h, z]; rfl)
    cases h : isLet c with
    | true =>
      refine ite_no (by decide) (rest ?_)
      unfold isLd
      rw [h]
      rfl
    | false =>
      refine ite_yes rfl ?_
      by_cases h2 : 48 ≤ c ∧ c ≤ 57
      · refine ite_no (by simp [h2]) (rest ?_)
        unfold isLd
        rw [decide_eq_true h2, Bool.or_true]
      · refine ite_yes (by simp; omega) (q1 _ ?_)
        rw [List.all_cons]
        have : isLd c = false := by unfold isLd; rw [h, decide_eq_false h2]; rfl
        rw [this]
        rfl
theorem rd_is_name : Rd 1 [true] 2 sp_is_name t_is_name := by
  rintro ds Q Ex hl ⟨w, rfl, h1, q⟩
  have h1 : w.length < 1000000 := h1
  have q : Q (.bl (isNameC w)) [.str w] := q
  unfold isNameC at q
  unfold t_is_name
  simp! only []
  by_cases e : w = []
  · rw [decide_eq_false (fun z => z.1 e)] at q
    rw [if_pos e]
    exact q
  rw [if_neg e]
  refine ⟨h1, ?_⟩
  by_cases e2 : 8 < w.length
  · rw [decide_eq_false (fun z => by have := z.2.1; omega)] at q
    rw [if_pos (by omega)]
    exact q
  rw [if_neg (by omega)]
  by_cases e3 : w ∈ keptW
  · rw [decide_eq_false (fun z => z.2.2 e3)] at q
    rw [if_pos (by simpa [keptW] using e3)]
    exact q
  rw [if_neg (by simpa [keptW] using e3)]
  rw [decide_eq_true ⟨e, by omega, e3⟩] at q
  refine for_is_name w none (fun u z => ?_) fun u z => ?_
  · rw [z] at q
    simp! only []
    exact q
  · rw [z] at q
    obtain ⟨c, t, rfl⟩ : ∃ c t, w = c :: t := by cases w with | nil => exact absurd rfl e | cons c t => exact ⟨c, t, rfl⟩
    have i0 : ixD (.str (c :: t)) (.int 0) = some (.str [c]) := by
      show (if (c :: t).length < 1000000 then (ixN (c :: t).length ((0 : Nat) : Int)).bind fun j => ((c :: t)[j]?).map fun c => D.str [c] else none) = _
      rw [if_pos h1, ixN_nat (by simp)]
      rfl
    simp! only [i0, mem_let]
    exact q
theorem rd_operand_read : Rd 1 [true] 2 sp_operand_read t_operand_read := by
  rintro ds Q Ex hl ⟨w, rfl, h1, q⟩
  have h1 : w.length < 1000000 := h1
  have q : Q (oopD (opR w)) [.str w] := q
  unfold opR at q
  unfold t_operand_read
  simp! only []
  refine c_is_name h1 ?_
  cases e : isNameC w with
  | true =>
    rw [e, if_pos rfl] at q
    simp! only []
    exact q
  | false =>
    rw [e, if_neg (by decide)] at q
    simp! only []
    cases e2 : List.isPrefixOf [45] w with
    | false =>
      rw [e2, if_pos rfl] at q
      refine ⟨rfl, ite_yes rfl (c_number_read (m := 18) rfl ⟨h1, by decide⟩ ?_)⟩
      have : oopD ((numR w 18).map fun n : Nat => Sum.inl (n : Int)) = onatD (numR w 18) := by cases numR w 18 <;> rfl
      rw [this] at q
      simp! only []
      exact q
    | true =>
      rw [e2, if_neg (by decide)] at q
      refine ⟨rfl, ite_no (by decide) ⟨h1, c_number_read (m := 18) rfl ⟨by rw [List.length_drop]; omega, by decide⟩ ?_⟩⟩
      cases e3 : numR (w.drop 1) 18 with
      | none =>
        rw [e3] at q
        simp! only [onatD]
        exact q
      | some n =>
        rw [e3] at q
        cases n with
        | zero =>
          simp! only [onatD]
          exact q
        | succ n =>
          simp! only [onatD]
          rw [if_neg (by omega), show (0 : Int) - ((n + 1 : Nat) : Int) = -((n + 1 : Nat) : Int) by omega]
          exact q
theorem rd_sum_read : Rd 1 [true] 3 sp_sum_read t_sum_read := by
  rintro ds Q Ex hl ⟨ws, rfl, h, q⟩
  have h : ∀ w ∈ ws, w.length < 1000000 := h
  have q : Q (osumD (sumWR ws)) [.lst false (strsD ws)] := q
  unfold t_sum_read
  by_cases e : ws.length = 5
  · obtain ⟨x, f, a, s, b, rfl⟩ : ∃ x f a s b, ws = [x, f, a, s, b] := by
      match ws, e with
      | [x, f, a, s, b], _ => exact ⟨x, f, a, s, b, rfl⟩
    have q : Q (osumD (if f ≠ [61] ∨ s ∉ sumSg ∨ isNameC x = false then none else match opR a, opR b with | some a, some b => some (x, a, s, b) | _, _ => none)) [.lst false [.str x, .str f, .str a, .str s, .str b]] := q
    have es : strsD [x, f, a, s, b] = [.str x, .str f, .str a, .str s, .str b] := rfl
    simp! only [es]
    refine ite_no (by decide) ?_
    by_cases ef : f = [61]
    · refine ite_no (by simp [ef]) ?_
      by_cases es : s ∈ sumSg
      · refine ite_no (by rw [show decide (s ∈ ([[43], [45], [47], [114, 101, 115, 116], [38], [94]] : List Cs)) = true from decide_eq_true es]; decide) ?_
        refine c_is_name (h x (by simp)) ?_
        cases en : isNameC x with
        | false =>
          rw [if_pos (Or.inr (Or.inr en))] at q
          simp! only []
          exact q
        | true =>
          rw [if_neg (fun z => z.elim (fun z => z ef) fun z => z.elim (fun z => z es) fun z => by rw [en] at z; cases z)] at q
          simp! only []
          refine c_operand_read (h a (by simp)) ?_
          simp! only [oop_fz]
          refine c_operand_read (h b (by simp)) ?_
          simp! only [oop_fz]
          cases ha : opR a with
          | none =>
            rw [ha] at q
            simp! only [oopD]
            exact q
          | some x =>
            cases hb : opR b with
            | none =>
              rw [ha, hb] at q
              cases x <;> (simp! only [oopD, opD]; exact q)
            | some y =>
              rw [ha, hb] at q
              cases x <;> cases y <;> (simp! only [oopD, opD]; exact q)
      · rw [if_pos (Or.inr (Or.inl es))] at q
        refine ite_yes (by rw [show decide (s ∈ ([[43], [45], [47], [114, 101, 115, 116], [38], [94]] : List Cs)) = false from decide_eq_false es]; rfl) ?_
        exact q
    · rw [if_pos (Or.inl ef)] at q
      refine ite_yes (by simpa using ef) ?_
      exact q
  · have : sumWR ws = none := by
      unfold sumWR
      split
      · exact absurd rfl e
      · rfl
    rw [this] at q
    simp! only [strs_fz, strs_len]
    refine ite_yes (by simp; omega) ?_
    exact q
theorem rd_test_read : Rd 1 [true] 3 sp_test_read t_test_read := by
  rintro ds Q Ex hl ⟨ws, rfl, h, q⟩
  have h : ∀ w ∈ ws, w.length < 1000000 := h
  have q : Q (otestD (testR ws)) [.lst false (strsD ws)] := q
  unfold t_test_read
  by_cases e : ws.length = 4
  · obtain ⟨f, a, s, b, rfl⟩ : ∃ f a s b, ws = [f, a, s, b] := by
      match ws, e with
      | [f, a, s, b], _ => exact ⟨f, a, s, b, rfl⟩
    have q : Q (otestD (if f ≠ [105, 102] ∨ s ∉ testSg then none else match opR a, opR b with | some a, some b => some (a, s, b) | _, _ => none)) [.lst false [.str f, .str a, .str s, .str b]] := q
    have es : strsD [f, a, s, b] = [.str f, .str a, .str s, .str b] := rfl
    simp! only [es]
    refine ite_no (by decide) ?_
    by_cases ef : f = [105, 102]
    · refine ite_no (by simp [ef]) ?_
      by_cases es : s ∈ testSg
      · rw [if_neg (fun z => z.elim (fun z => z ef) fun z => z es)] at q
        refine ite_no (by rw [show decide (s ∈ ([[60], [61]] : List Cs)) = true from decide_eq_true es]; decide) ?_
        refine c_operand_read (h a (by simp)) ?_
        simp! only [oop_fz]
        refine c_operand_read (h b (by simp)) ?_
        simp! only [oop_fz]
        cases ha : opR a with
        | none =>
          rw [ha] at q
          simp! only [oopD]
          exact q
        | some x =>
          cases hb : opR b with
          | none =>
            rw [ha, hb] at q
            cases x <;> (simp! only [oopD, opD]; exact q)
          | some y =>
            rw [ha, hb] at q
            cases x <;> cases y <;> (simp! only [oopD, opD]; exact q)
      · rw [if_pos (Or.inr es)] at q
        refine ite_yes (by rw [show decide (s ∈ ([[60], [61]] : List Cs)) = false from decide_eq_false es]; rfl) ?_
        exact q
    · rw [if_pos (Or.inl ef)] at q
      refine ite_yes (by simpa using ef) ?_
      exact q
  · have : testR ws = none := by
      unfold testR
      split
      · exact absurd rfl e
      · rfl
    rw [this] at q
    simp! only [strs_fz, strs_len]
    refine ite_yes (by simp; omega) ?_
    exact q
theorem mem_strT {w : Cs} {ss : List Cs} {P : Bool → Prop} : (∃ r, memD (.str w) (.tup (strsD ss)) = some r ∧ P r) ↔ P (decide (w ∈ ss)) := by
  have e1 : ((strsD ss).any fun y => deq y (.str w)) = decide (w ∈ ss) := by
    unfold strsD
    rw [List.any_map, Bool.eq_iff_iff, List.any_eq_true, decide_eq_true_iff]
    constructor
    · rintro ⟨x, hx, h⟩
      have h : deq (.str x) (.str w) = true := h
      rw [deq_s, decide_eq_true_iff] at h
      rw [← h]; exact hx
    · intro h
      exact ⟨w, h, by show deq (.str w) (.str w) = true; rw [deq_s]; simp⟩
  have e2 : (strsD ss).all flatD = true := by unfold strsD; rw [List.all_map]; simp [flatD]
  have e : memD (.str w) (.tup (strsD ss)) = some (decide (w ∈ ss)) := by
    show (if (flatD (.str w) && (strsD ss).all flatD) = true then some ((strsD ss).any fun y => deq y (.str w)) else none) = _
    rw [if_pos (by rw [e2]; rfl), e1]
  rw [e]
  exact ⟨fun ⟨_, e, p⟩ => by cases e; exact p, fun p => ⟨_, rfl, p⟩⟩
theorem rd_numbered : Rd 2 [true, true] 3 sp_numbered t_numbered := by
  rintro ds Q Ex hl ⟨⟨ws, ss⟩, rfl, h, q⟩
  have h : ∀ w ∈ ws, w.length < 1000000 := h
  have q : Q (onumD (numbR ws ss)) [.lst false (strsD ws), .tup (strsD ss)] := q
  unfold t_numbered
  simp! only [strs_fz]
  by_cases hl2 : ws.length = 2
  · obtain ⟨w, d, rfl⟩ : ∃ w d, ws = [w, d] := by
      match ws, hl2 with
      | [w, d], _ => exact ⟨w, d, rfl⟩
    refine ite_no (by rw [strs_len]; simp) ?_
    refine ⟨.str w, rfl, rfl, mem_strT.mpr ?_⟩
    by_cases hw : w ∈ ss
    · rw [decide_eq_true hw]
      refine ite_no (by decide) ⟨.str d, rfl, rfl, ?_⟩
      refine c_number_read (m := 4) rfl ⟨h d (by simp), by decide⟩ ?_
      have e : numbR [w, d] ss = (numR d 4).map fun n => (w, n) := if_pos hw
      rw [e] at q
      cases hn : numR d 4 with
      | none =>
        rw [hn] at q
        simp! only [strs_fz, onatD]
        exact q
      | some n =>
        rw [hn] at q
        simp! only [strs_fz, onatD]
        exact ⟨.str w, rfl, rfl, q⟩
    · rw [decide_eq_false hw]
      have e : numbR [w, d] ss = none := if_neg hw
      rw [e] at q
      exact ite_yes (by decide) q
  · have e : numbR ws ss = none := by
      match ws, hl2 with
      | [], _ => rfl
      | [_], _ => rfl
      | [_, _], h => exact absurd rfl h
      | _ :: _ :: _ :: _, _ => rfl
    rw [e] at q
    refine ite_yes (by rw [strs_len]; simp; omega) q
theorem rd_opening : Rd 1 [true] 2 sp_opening t_opening := by
  rintro ds Q Ex hl ⟨ws, rfl, h, q⟩
  have h : ∀ w ∈ ws, w.length < 1000000 := h
  have q : Q (openD ws) [.lst false (strsD ws)] := q
  unfold t_opening
  simp! only [strs_fz]
  refine c_test_read h ⟨rfl, ?_⟩
  unfold openD at q
  cases e : testR ws with
  | none =>
    rw [e] at q
    simp! only [strs_fz, otestD]
    refine c_numbered (ss := [cRound, cPart]) h ?_
    simp! only [strs_fz]
    exact q
  | some t =>
    obtain ⟨a, s, b⟩ := t
    rw [e] at q
    simp! only [strs_fz, otestD, opD_fz]
    exact q
theorem rd_plain : Rd 1 [true] 2 sp_plain t_plain := by
  rintro ds Q Ex hl ⟨ws, rfl, ⟨h, hs⟩, q1, q2⟩
  unfold t_plain
  simp! only [strs_fz]
  refine ⟨eqOk_ss hs (by intro c hc; simp at hc; omega), ?_⟩
  unfold plainO at q1 q2
  by_cases he : ws = [cEnd]
  · rw [if_pos he] at q1
    exact ite_yes (by rw [deqL_s1]; simpa using he) (q1 _ rfl)
  · rw [if_neg he] at q1 q2
    refine ite_no (by rw [deqL_s1]; simpa using he) ?_
    refine c_numbered (ss := [cLeave, cAgain]) h ?_
    cases hn : numbR ws [cLeave, cAgain] with
    | some x =>
      obtain ⟨w, n⟩ := x
      rw [hn] at q1
      simp! only [strs_fz, onumD]
      exact q1 _ rfl
    | none =>
      rw [hn] at q1 q2
      simp! only [strs_fz, onumD]
      refine c_sum_read h ?_
      cases hs : sumWR ws with
      | some x =>
        obtain ⟨x, a, s, b⟩ := x
        rw [hs] at q1
        simp! only [strs_fz, osumD, opD_fz]
        exact q1 _ rfl
      | none =>
        rw [hs] at q2
        simp! only [strs_fz, osumD, vRaise]
        exact q2 rfl
theorem top_getF (S : List D) (z : D) : getP (.lst true (S ++ [z])) [.ix S.length] = some z := by
  show (match (S ++ [z])[S.length]? with | some d => getP d [] | none => none) = some z
  rw [List.getElem?_append_right (Nat.le_refl _), Nat.sub_self]
  exact getP_nil z
theorem top_ixF (S : List D) (z : D) : ixN (S ++ [z]).length (-1) = some S.length := by
  rw [List.length_append]
  exact ixN_last
theorem top_setF (S : List D) (z w : D) : setP (.lst true (S ++ [z])) [.ix S.length] w = .lst true (S ++ [w]) := by
  have e : (S ++ [z])[S.length]? = some z := by simp
  simp [setP, e]
theorem top_getX (S : List D) (a : OfA) : getP (.lst true (S ++ [a.d])) [.ix S.length, .fd [110, 111, 119]] = some (.lst true a.xs) := by
  show (match (S ++ [a.d])[S.length]? with | some d => getP d [.fd [110, 111, 119]] | none => none) = _
  rw [List.getElem?_append_right (Nat.le_refl _), Nat.sub_self]
  rfl
theorem top_setX (S : List D) (a : OfA) (ys : List D) : setP (.lst true (S ++ [a.d])) [.ix S.length, .fd [110, 111, 119]] (.lst true ys) = .lst true (S ++ [OfA.d ⟨a.w, a.r, a.y, ys⟩]) := by
  have e : (S ++ [a.d])[S.length]? = some a.d := by simp
  show (match (S ++ [a.d])[S.length]? with | some d => D.lst true ((S ++ [a.d]).set S.length (setP d [.fd [110, 111, 119]] (.lst true ys))) | none => .lst true (S ++ [a.d])) = _
  rw [e]
  show D.lst true ((S ++ [a.d]).set S.length (OfA.d ⟨a.w, a.r, a.y, ys⟩)) = _
  rw [List.set_append_right _ _ (Nat.le_refl _), Nat.sub_self]
  rfl
theorem st_fz {a : OfA} (o : a.ok) : isFz a.st = true := by
  obtain ⟨w, r, y, xs⟩ := a
  obtain ⟨o1, o2, o3, o4, o5⟩ := o
  have o1 : isFzL r = true := o1
  have o2 : ∀ ys, y = some ys → isFzL ys = true := o2
  have o3 : isFzL xs = true := o3
  have ap : ∀ a b : List D, isFzL a = true → isFzL b = true → isFzL (a ++ b) = true := fun a b h1 h2 => by
    rw [isFzL_all] at h1 h2 ⊢
    rw [List.all_append, h1, h2]
    rfl
  have k : ∀ b : List D, isFzL b = true → isFz (.tup (.str w :: (r ++ b))) = true := fun b h => by
    show (isFz (.str w) && isFzL (r ++ b)) = true
    rw [ap r b o1 h]
    rfl
  unfold OfA.st
  split
  · cases y with
    | none => exact k _ (by simp [isFzL, isFz, o3])
    | some ys => exact k _ (by simp [isFzL, isFz, o3, o2 ys rfl])
  · exact k _ (by simp [isFzL, isFz, o3])
theorem rd_take : Rd 2 [true, true] 4 sp_take t_take := by
  rintro ds Q Ex - ⟨⟨l, S, S'⟩, rfl, ⟨g1, g2, g3, g4⟩, g⟩
  have hq : Q .non [.lst false (strsD (wdL l)), .lst true (S'.map OfA.d)] := g _ _ ⟨rfl, rfl⟩
  have h1 : LnT l := g1
  have h2 : TkR l S S' := g2
  have h3 : ∀ f ∈ S, f.ok := g3
  have h4 : S.length ≤ 90 := g4
  clear g g1 g2 g3 g4
  have sg := wdL_sgs h1
  have ws : ∀ w ∈ wdL l, w.length < 1000000 := fun w hw => by
    have a := spl_len [32] (txtL l) 0 []
    rw [txt_words h1] at a
    have := a w hw
    have := txt_len h1
    simp at *
    omega
  have e1 : eqOk (.lst false (strsD (wdL l))) (.lst true [.str cElse]) := eqOk_ss sg (by intro c hc; simp at hc; omega)
  have e2 : eqOk (.lst false (strsD (wdL l))) (.lst true [.str cDone]) := eqOk_ss sg (by intro c hc; simp at hc; omega)
  unfold t_take
  simp! only [strs_fz]
  refine ⟨e1, ?_⟩
  cases h2 with
  | @els S a hw hy =>
    rw [List.map_append, List.map_cons, List.map_nil] at hq ⊢
    have oa : a.ok := h3 a (by simp)
    have el : S.length < 1000000 := by simp at h4; omega
    refine ite_yes (by rw [deqL_s1]; rfl) ?_
    simp! only [vMethP, vpIx, strs_fz]
    refine ⟨_, top_ixF _ _, _, _, top_getF _ _, rfl, c_Opened_turned oa ⟨hw, hy⟩ ⟨_, rfl, ?_⟩⟩
    rw [top_setF]
    exact hq
  | @done S a b =>
    have oa : a.ok := h3 a (by simp)
    have ob : b.ok := h3 b (by simp)
    have el : S.length < 1000000 := by simp at h4; omega
    rw [List.map_append, List.map_cons, List.map_nil, List.map_append, List.map_cons, List.map_nil] at *
    refine ite_no (by rw [deqL_s1]; decide) ⟨e2, ite_yes (by rw [deqL_s1]; rfl) (ite_no (by simp; omega) ?_)⟩
    simp! only [vMethT, vpIx, vpFd, strs_fz, vMut]
    refine ⟨_, _, rfl, rfl, c_Opened_statement oa fun o => ⟨o, rfl, _, top_ixF _ _, _, _, top_getF _ _, 2, rfl, (by show 2 < 3; decide), _, top_getX _ _, st_fz oa, by have := ob.fewx; omega, ?_⟩⟩
    rw [top_setX]
    exact hq
  | @opn l S ho hl =>
    have n1 : wdL l ≠ [cElse] := by cases l <;> first | (cases ho; done) | simp [wdL]
    have n2 : wdL l ≠ [cDone] := by cases l <;> first | (cases ho; done) | simp [wdL]
    refine ite_no (by rw [deqL_s1]; simpa using n1) ⟨e2, ite_no (by rw [deqL_s1]; simpa using n2) ?_⟩
    refine c_opening ws ?_
    rw [open_of h1 ho]
    simp! only [strs_fz, hd_fz]
    have nh : ¬hdD l = D.hole := by cases l <;> first | (cases ho; done) | exact fun z => nomatch z
    refine ⟨nh, ite_no (by cases l <;> first | (cases ho; done) | exact Bool.false_ne_true) (ite_no (by omega) ?_)⟩
    have eh : ∃ w r, hdD l = .tup (.str w :: r) ∧ isFzL r = true ∧ ofH l = ⟨w, r, none, []⟩ := by
      cases l with
      | iff a s b => exact ⟨_, _, rfl, by simp [isFzL, isFz, opD_fz], rfl⟩
      | round n => exact ⟨_, _, rfl, rfl, rfl⟩
      | part n => exact ⟨_, _, rfl, rfl, rfl⟩
      | _ => cases ho
    obtain ⟨w, r, e3, e4, e5⟩ := eh
    rw [e5, List.map_append, List.map_cons, List.map_nil] at hq
    rw [e3]
    have e6 : isFz (D.tup (.str w :: r)) = true := by show (isFz (.str w) && isFzL r) = true; rw [e4]; rfl
    simp! only [vNew, e6]
    refine ⟨e4, c_Opened_init e4 ⟨rfl, _, _, rfl, rfl, _, rfl, by rw [List.length_map]; omega, (by show 2 ≤ 4; decide), hq⟩⟩
  | @pln l S a hp =>
    have oa : a.ok := h3 a (by simp)
    have n1 : wdL l ≠ [cElse] := by cases l <;> first | (cases hp; done) | simp [wdL]
    have n2 : wdL l ≠ [cDone] := by cases l <;> first | (cases hp; done) | simp [wdL]
    refine ite_no (by rw [deqL_s1]; simpa using n1) ⟨e2, ite_no (by rw [deqL_s1]; simpa using n2) ?_⟩
    refine c_opening ws ?_
    rw [open_no hp]
    rw [List.map_append, List.map_cons, List.map_nil] at hq ⊢
    simp! only [vAppC, vpIx, vpFd, strs_fz]
    refine ⟨_, top_ixF _ _, _, _, top_getF _ _, 2, rfl, (by show 2 < 3; decide), _, top_getX _ _, fun v => c_plain ⟨ws, sg⟩ (plain_of h1 hp) ⟨rfl, by have := oa.fewx; omega, rfl, ?_⟩⟩
    rw [top_setX]
    exact hq
theorem lc_read_form0 {Q : List D → Ep → Prop} {a b d : Option D} : ∀ (ls : List Cs) (acc : List Cs), (∀ l ∈ ls, l.length < 1000000) → acc.length + ls.length < 1000000 → Q (strsD (acc ++ ls.map fun l => lstC l [32])) [a, b, none, d] →
    vLcL [2] (vName 2) vYes le_read_form0 (strsD ls) (strsD acc) [a, b, none, d] Q
  | [], acc, _, _, q => by
    rw [List.map_nil, List.append_nil] at q
    exact q
  | l :: ls, acc, h, hl, q => by
    rw [List.length_cons] at hl
    have e : strsD acc ++ [D.str (lstC l [32])] = strsD (acc ++ [lstC l [32]]) := by unfold strsD; rw [List.map_append]; rfl
    have ih := lc_read_form0 (Q := Q) (a := a) (b := b) (d := d) ls (acc ++ [lstC l [32]]) (fun l hl => h l (List.mem_cons_of_mem _ hl)) (by simp; omega) (by simpa using q)
    rw [← e] at ih
    show vLcL [2] (vName 2) vYes le_read_form0 (D.str l :: strsD ls) (strsD acc) _ Q
    rw [e_lcU le_read_form0.eq_1]
    simp! only []
    refine ⟨rfl, e_lstrip.mpr ⟨h l List.mem_cons_self, ?_⟩⟩
    simp! only [strs_len]
    exact ⟨by omega, ih⟩
theorem lc_read_form1 {Q : List D → Ep → Prop} {a b d : Option D} : ∀ (ls : List Cs) (acc : List Cs), acc.length + ls.length < 1000000 → Q (strsD (acc ++ ls.filter fun l => decide (l ≠ []))) [a, b, none, d] →
    vLcL [2] (vName 2) lt_read_form1 le_read_form1 (strsD ls) (strsD acc) [a, b, none, d] Q
  | [], acc, _, q => by
    rw [List.filter_nil, List.append_nil] at q
    exact q
  | l :: ls, acc, hl, q => by
    rw [List.length_cons] at hl
    show vLcL [2] (vName 2) lt_read_form1 le_read_form1 (D.str l :: strsD ls) (strsD acc) _ Q
    rw [e_lcU2 le_read_form1.eq_1 lt_read_form1.eq_1]
    simp! only [strs_len]
    by_cases z : l = []
    · subst z
      have ih := lc_read_form1 (Q := Q) (a := a) (b := b) (d := d) ls acc (by omega) q
      simpa using ih
    · rw [List.filter_cons_of_pos (by simpa using z)] at q
      have e : strsD acc ++ [D.str l] = strsD (acc ++ [l]) := by unfold strsD; rw [List.map_append]; rfl
      have ih := lc_read_form1 (Q := Q) (a := a) (b := b) (d := d) ls (acc ++ [l]) (by simp; omega) (by simpa using q)
      rw [← e] at ih
      simpa [z] using ⟨by omega, ih⟩
section
variable {a b : Option D} {N : VEnds}
/-- the top after a line -/
theorem line_read {l : Ln} (g : LnT l) {S S' : List OfA} (h : TkR l S S') (ok : ∀ f ∈ S, f.ok) (few : S.length ≤ 90) {rest : List D} {u : Option D} (q : vForL (vName 2) lb_read_form0 rest N [a, b, some (.str (txtL l)), some (.lst true (S'.map OfA.d))]) :
    vForL (vName 2) lb_read_form0 (.str (txtL l) :: rest) N [a, b, u, some (.lst true (S.map OfA.d))] := by
  rw [e_forU lb_read_form0.eq_1]
  simp! only []
  refine ⟨by decide, by have := txt_len g; omega, ?_⟩
  rw [txt_words g]
  refine c_take g h ok few ⟨rfl, ?_⟩
  simp! only []
  exact q
def txD (l : Ln) : D := .str (txtL l)
theorem ok_snoc {S : List OfA} {a a' : OfA} (h : ∀ x ∈ S ++ [a], x.ok) (h' : a'.ok) : ∀ x ∈ S ++ [a'], x.ok := fun x hx => by
  rcases List.mem_append.mp hx with hx | hx
  · exact h x (List.mem_append_left _ hx)
  · rw [List.mem_singleton.mp hx]; exact h'
theorem ok_push {S : List OfA} {c : OfA} (h : ∀ x ∈ S, x.ok) (h' : c.ok) : ∀ x ∈ S ++ [c], x.ok := fun x hx => by
  rcases List.mem_append.mp hx with hx | hx
  · exact h x hx
  · rw [List.mem_singleton.mp hx]; exact h'
theorem ok_last {S : List OfA} {c : OfA} (h : ∀ x ∈ S ++ [c], x.ok) : c.ok := h c (by simp)
theorem ok_more {a : OfA} (h : a.ok) {xs : List D} (hz : isFzL xs = true) (l : xs.length < 1000) : OfA.ok ⟨a.w, a.r, a.y, xs⟩ := ⟨h.r, h.y, hz, h.few, l⟩
theorem fz_snoc {xs : List D} {d : D} (h : isFzL xs = true) (g : isFz d = true) : isFzL (xs ++ [d]) = true := by
  rw [isFzL_all] at h ⊢
  rw [List.all_append, h]
  simp [g]
theorem fms_few (F : List Fm) : (fmsD F).length ≤ (lnsL F).length := by
  rw [fmsD_map, List.length_map]
  exact lnsL_len F
mutual
theorem rdF : ∀ (f : Fm) {S : List OfA} {c : OfA} {rest : List D} {u : Option D}, (∀ l ∈ lnsF f, LnT l) → S.length + 1 + dpF f ≤ 90 → (∀ x ∈ S ++ [c], x.ok) → c.xs.length + (lnsF f).length < 900 →
    (∀ u, vForL (vName 2) lb_read_form0 rest N [a, b, u, some (.lst true ((S ++ [(⟨c.w, c.r, c.y, c.xs ++ [fmD f]⟩ : OfA)]).map OfA.d))]) → vForL (vName 2) lb_read_form0 ((lnsF f).map txD ++ rest) N [a, b, u, some (.lst true ((S ++ [c]).map OfA.d))]
  | .sum x i s j, S, c, rest, u, g, dp, ok, few, q => by
    rw [lnsF] at g ⊢
    have e : fmD (.sum x i s j) = lnD (.sum x i s j) := by rw [fmD]; rfl
    rw [e] at q
    exact line_read (g _ (by simp)) (.pln rfl) ok (by simp; omega) (q _)
  | .leave n, S, c, rest, u, g, dp, ok, few, q => by
    rw [lnsF] at g ⊢
    have e : fmD (.leave n) = lnD (.leave n) := by rw [fmD]; rfl
    rw [e] at q
    exact line_read (g _ (by simp)) (.pln rfl) ok (by simp; omega) (q _)
  | .again n, S, c, rest, u, g, dp, ok, few, q => by
    rw [lnsF] at g ⊢
    have e : fmD (.again n) = lnD (.again n) := by rw [fmD]; rfl
    rw [e] at q
    exact line_read (g _ (by simp)) (.pln rfl) ok (by simp; omega) (q _)
  | .fin, S, c, rest, u, g, dp, ok, few, q => by
    rw [lnsF] at g ⊢
    have e : fmD .fin = lnD .fin := by rw [fmD]; rfl
    rw [e] at q
    exact line_read (g _ (by simp)) (.pln rfl) ok (by simp; omega) (q _)
  | .round n B, S, c, rest, u, g, dp, ok, few, q => by
    rw [dpF] at dp
    rw [lnsF] at g few ⊢
    simp only [List.length_cons, List.length_append, List.length_nil] at few
    have ff := fms_few B
    rw [List.map_cons, List.map_append, List.cons_append, List.append_assoc]
    have o1 : OfA.ok (ofH (.round n)) := ⟨rfl, fun _ h => (nomatch h), rfl, (by show 1 < 100; decide), (by show 0 < 1000; decide)⟩
    refine line_read (g _ (by simp)) (.opn rfl (by simp; omega)) ok (by simp; omega) ?_
    refine rdL B (fun l hl => g l (by simp [hl])) (by simp; omega) (ok_push ok o1) (by show 0 + _ < 900; omega) fun u => ?_
    refine line_read (g _ (by simp)) .done (ok_push ok (ok_more o1 (fms_fz B) (by omega))) (by simp; omega) ?_
    have e : OfA.st ⟨(ofH (.round n)).w, (ofH (.round n)).r, (ofH (.round n)).y, [] ++ fmsD B⟩ = fmD (.round n B) := by rw [fmD]; rfl
    rw [← e] at q
    exact q _
  | .part n B, S, c, rest, u, g, dp, ok, few, q => by
    rw [dpF] at dp
    rw [lnsF] at g few ⊢
    simp only [List.length_cons, List.length_append, List.length_nil] at few
    have ff := fms_few B
    rw [List.map_cons, List.map_append, List.cons_append, List.append_assoc]
    have o1 : OfA.ok (ofH (.part n)) := ⟨rfl, fun _ h => (nomatch h), rfl, (by show 1 < 100; decide), (by show 0 < 1000; decide)⟩
    refine line_read (g _ (by simp)) (.opn rfl (by simp; omega)) ok (by simp; omega) ?_
    refine rdL B (fun l hl => g l (by simp [hl])) (by simp; omega) (ok_push ok o1) (by show 0 + _ < 900; omega) fun u => ?_
    refine line_read (g _ (by simp)) .done (ok_push ok (ok_more o1 (fms_fz B) (by omega))) (by simp; omega) ?_
    have e : OfA.st ⟨(ofH (.part n)).w, (ofH (.part n)).r, (ofH (.part n)).y, [] ++ fmsD B⟩ = fmD (.part n B) := by rw [fmD]; rfl
    rw [← e] at q
    exact q _
  | .choice i s j Y Z false, S, c, rest, u, g, dp, ok, few, q => by
    rw [dpF, if_neg (by decide)] at dp
    rw [lnsF, if_neg (by decide), List.nil_append] at g few ⊢
    simp only [List.length_cons, List.length_append, List.length_nil] at few
    have ff := fms_few Y
    rw [List.map_cons, List.map_append, List.cons_append, List.append_assoc]
    have o1 : OfA.ok (ofH (.iff i s j)) := ⟨by simp [ofH, isFzL, isFz, opD_fz], fun _ h => (nomatch h), rfl, (by show 3 < 100; decide), (by show 0 < 1000; decide)⟩
    refine line_read (g _ (by simp)) (.opn rfl (by simp; omega)) ok (by simp; omega) ?_
    refine rdL Y (fun l hl => g l (by simp [hl])) (by simp; omega) (ok_push ok o1) (by show 0 + _ < 900; omega) fun u => ?_
    refine line_read (g _ (by simp)) .done (ok_push ok (ok_more o1 (fms_fz Y) (by omega))) (by simp; omega) ?_
    have e : OfA.st ⟨(ofH (.iff i s j)).w, (ofH (.iff i s j)).r, (ofH (.iff i s j)).y, [] ++ fmsD Y⟩ = fmD (.choice i s j Y Z false) := by rw [fmD]; rfl
    rw [← e] at q
    exact q _
  | .choice i s j Y Z true, S, c, rest, u, g, dp, ok, few, q => by
    rw [dpF, if_pos rfl] at dp
    rw [lnsF, if_pos rfl] at g few ⊢
    simp only [List.length_cons, List.length_append, List.length_nil] at few
    have ff := fms_few Y
    have fz := fms_few Z
    rw [List.map_cons, List.map_append, List.cons_append, List.append_assoc, List.cons_append, List.map_cons, List.cons_append, List.map_append, List.append_assoc]
    have o1 : OfA.ok (ofH (.iff i s j)) := ⟨by simp [ofH, isFzL, isFz, opD_fz], fun _ h => (nomatch h), rfl, (by show 3 < 100; decide), (by show 0 < 1000; decide)⟩
    have o2 : OfA.ok ⟨cChoice, [opD i, .str s, opD j], some (fmsD Y), []⟩ := ⟨o1.r, fun ys h => by cases h; exact fms_fz Y, rfl, o1.few, (by show 0 < 1000; decide)⟩
    refine line_read (g _ (by simp)) (.opn rfl (by simp; omega)) ok (by simp; omega) ?_
    refine rdL Y (fun l hl => g l (by simp [hl])) (by simp; omega) (ok_push ok o1) (by show 0 + _ < 900; omega) fun u => ?_
    refine line_read (S' := (S ++ [c]) ++ [⟨cChoice, [opD i, .str s, opD j], some (fmsD Y), []⟩]) (g _ (by simp)) (.els rfl rfl) (ok_push ok (ok_more o1 (fms_fz Y) (by omega))) (by simp; omega) ?_
    refine rdL Z (fun l hl => g l (by simp [hl])) (by simp; omega) (ok_push ok o2) (by show 0 + _ < 900; omega) fun u => ?_
    refine line_read (g _ (by simp)) .done (ok_push ok (ok_more o2 (fms_fz Z) (by omega))) (by simp; omega) ?_
    have e : OfA.st ⟨cChoice, [opD i, .str s, opD j], some (fmsD Y), [] ++ fmsD Z⟩ = fmD (.choice i s j Y Z true) := by rw [fmD]; rfl
    rw [← e] at q
    exact q _
theorem rdL : ∀ (F : List Fm) {S : List OfA} {c : OfA} {rest : List D} {u : Option D}, (∀ l ∈ lnsL F, LnT l) → S.length + 1 + dpL F ≤ 90 → (∀ x ∈ S ++ [c], x.ok) → c.xs.length + (lnsL F).length < 900 →
    (∀ u, vForL (vName 2) lb_read_form0 rest N [a, b, u, some (.lst true ((S ++ [(⟨c.w, c.r, c.y, c.xs ++ fmsD F⟩ : OfA)]).map OfA.d))]) → vForL (vName 2) lb_read_form0 ((lnsL F).map txD ++ rest) N [a, b, u, some (.lst true ((S ++ [c]).map OfA.d))]
  | [], S, c, rest, u, g, dp, ok, few, q => by
    rw [lnsL]
    have q := q u
    rw [fmsD, List.append_nil] at q
    exact q
  | f :: F, S, c, rest, u, g, dp, ok, few, q => by
    rw [dpL] at dp
    rw [lnsL] at g few ⊢
    rw [List.length_append] at few
    rw [fmsD] at q
    rw [List.map_append, List.append_assoc]
    have l1 : 0 < (lnsF f).length := by obtain ⟨M, l, e, _⟩ := lnsF_last f; rw [e]; simp
    have oc := ok_last ok
    refine rdF f (fun l hl => g l (List.mem_append_left _ hl)) (by omega) ok (by omega) fun u => ?_
    refine rdL F (fun l hl => g l (List.mem_append_right _ hl)) (by omega) (ok_snoc ok (ok_more oc (fz_snoc oc.xs (fm_fz f)) (by simp; omega))) (by simp; omega) fun u => ?_
    have q := q u
    simpa using q
end
end
theorem rd_read_form : Rd 1 [true] 4 sp_read_form t_read_form := by
  rintro ds Q Ex - ⟨⟨ls, F⟩, rfl, T, q⟩
  have T : FTxt ls F := T
  have q : Q (.lst true (fmsD F)) [.str (TL.joinL [10] ls)] := q
  have sz := T.size
  have sp : TL.spl [10] 0 [] (TL.joinL [10] ls) = ls := SX.spl_join T.ne fun l hl => (T.free l hl).1
  have ln := spl_many [10] (TL.joinL [10] ls) 0 []
  rw [sp] at ln
  have few := T.ok.few
  have mn := T.many
  unfold t_read_form
  have lb : ∀ l ∈ ls, l.length < 1000000 := fun l hl => by have := (T.free l hl).2; omega
  simp! only []
  rw [sp]
  refine ⟨by decide, sz, ?_⟩
  refine lc_read_form0 ls [] lb (by simp; omega) ?_
  rw [List.nil_append]
  simp! only [strs_frz, strs_fz]
  refine lc_read_form1 _ [] (by simp; omega) ?_
  rw [List.nil_append, T.lns]
  simp! only [strs_frz, strs_fz, strs_len, List.length_map]
  refine ite_no (by omega) ?_
  simp! only [vNew]
  have o1 : OfA.ok ⟨[102, 111, 114, 109], [], none, []⟩ := ⟨rfl, fun _ h => (nomatch h), rfl, (by show 0 < 100; decide), (by show 0 < 1000; decide)⟩
  refine c_Opened_init (w := [102, 111, 114, 109]) (r := []) rfl ⟨rfl, _, _, rfl, rfl, (by show 3 < 4; decide), _, rfl, strs_fz _, _, rfl, ?_⟩
  have e0 : strsD ((lnsL F).map txtL) = (lnsL F).map txD ++ [] := by rw [List.append_nil]; unfold strsD; rw [List.map_map]; rfl
  rw [e0]
  refine rdL F (S := []) (c := ⟨[102, 111, 114, 109], [], none, []⟩) T.ok.lnt (by have := T.ok.dp; show 0 + 1 + _ ≤ 90; omega) (fun x hx => by rw [List.mem_singleton.mp hx]; exact o1) (by show 0 + _ < 900; omega) fun u => ?_
  rw [show ∀ (g : VTG) (b : VTS) (N : VEnds) (ε : Ep), vForL g b [] N ε = N.nx ε from fun _ _ _ _ => rfl]
  simp! only [wFld]
  have ef : frz (OfA.d ⟨[102, 111, 114, 109], [], none, fmsD F⟩) = .ins false 1 [cHeadF, cYes, cNowF] [.tup [.str [102, 111, 114, 109]], .non, .lst false (fmsD F)] := by
    show D.ins false 1 _ [_, _, D.lst false (frzL (fmsD F))] = _
    rw [fms_frz]
    rfl
  have ef2 : frz (D.ins false 1 [cHeadF, cYes, cNowF] [.tup [.str [102, 111, 114, 109]], .non, .lst false (fmsD F)]) = .ins false 1 [cHeadF, cYes, cNowF] [.tup [.str [102, 111, 114, 109]], .non, .lst false (fmsD F)] := by
    show D.ins false 1 _ [_, _, D.lst false (frzL (fmsD F))] = _
    rw [fms_frz]
    rfl
  rw [ef, ef2]
  refine ite_no (by decide) ⟨by simp [isFz, isFzL, fms_fz], _, _, rfl, 2, rfl, _, rfl, ?_⟩
  have sd : (sndL [] [] [] F).isSome = true := by
    obtain ⟨V, hV⟩ := Option.ne_none_iff_exists'.mp T.ok.sd
    rw [hV]
    rfl
  refine c_sound ⟨by have := T.ok.dp; omega, by omega⟩ ⟨true, by rw [sd]; rfl, ite_no (by decide) ?_⟩
  simp! only [vTake, vpFd, vpIx]
  exact ⟨_, _, rfl, 2, rfl, (by show 2 < 3; decide), _, rfl, q⟩
theorem rd_Lraw : Rd 2 [true, true] 2 sp_Lraw t_Lraw := by
  rintro ds Q Ex hl ⟨⟨ns, k⟩, rfl, h, q⟩
  have h : 0 ≤ k := h
  have q : Q (.int (rawI ns k)) [scriptD ns, .int k] := q
  unfold t_Lraw
  unfold rawI at q
  simp! only [script_fz, script_len]
  by_cases h0 : ns.length = 0
  · rw [if_pos h0] at q
    rw [if_pos (by omega)]
    exact q
  · rw [if_neg h0] at q
    rw [if_neg (by omega)]
    have a0 := Int.emod_nonneg k (show (ns.length : Int) ≠ 0 by omega)
    have a1 := Int.emod_lt_of_pos k (show (0 : Int) < ns.length by omega)
    refine ⟨by omega, .int (ns.getD (k % (ns.length : Int)).toNat 0), ?_, rfl, q⟩
    rw [pmod_pos (by omega)]
    show (ixN (ns.map D.int).length (k % (ns.length : Int))).bind (fun j => (ns.map D.int)[j]?) = _
    rw [List.length_map, ixN_pos a0 (by omega)]
    show (ns.map D.int)[(k % (ns.length : Int)).toNat]? = _
    rw [List.getElem?_map, List.getElem?_eq_getElem (by omega), List.getD_eq_getElem?_getD, List.getElem?_eq_getElem (by omega)]
    rfl
theorem rd_Lmix : Rd 2 [true, true] 3 sp_Lmix t_Lmix := by
  rintro ds Q Ex hl ⟨⟨ns, k⟩, rfl, ⟨hn, h, h2⟩, q⟩
  have hn : ns.length ≤ 63 := hn
  have h : 0 ≤ k := h
  have h2 : k < 1000000 := h2
  have q : Q (.int (mixI ns k)) [scriptD ns, .int k] := q
  unfold t_Lmix
  unfold mixI at q
  simp! only [script_fz, script_len]
  by_cases h0 : ns.length = 0
  · rw [if_pos h0] at q
    rw [if_pos (by omega)]
    exact ⟨.inl (.inl (by omega)), q⟩
  · rw [if_neg h0] at q
    rw [if_neg (by omega)]
    refine ⟨cdv_of (by omega) (by omega), ?_⟩
    refine c_Lraw h ?_
    simp! only [pdiv_pos (show (0 : Int) < ns.length by omega)]
    have d0 : 0 ≤ k / (ns.length : Int) := Int.ediv_nonneg h (by omega)
    have d1 : k / (ns.length : Int) ≤ k := Int.ediv_le_self _ h
    exact ⟨.inl (.inr (by omega)), .inl (.inl (by omega)), q⟩
theorem rd_Lkept : Rd 0 [] 0 sp_Lkept t_Lkept := by
  rintro ds Q Ex hl ⟨_, rfl, _, q⟩
  have q : Q (.lst true (strsD keptW)) [] := q
  unfold t_Lkept
  simp! only []
  exact q
theorem rd_Lsign : Rd 2 [true, true] 2 sp_Lsign t_Lsign := by
  rintro ds Q Ex hl ⟨⟨n, b⟩, rfl, _, q⟩
  have q : ∀ c, isLd c = true → (b = true → isLet c = true) → Q (.str [c]) [.int n, .bl b] := fun c h1 h2 => q _ ⟨c, rfl, h1, h2⟩
  unfold t_Lsign
  cases b with
  | true =>
    simp! only []
    exact str_mod (n := 26) rfl (by decide) (by decide) fun c hc => q c ((by decide : ∀ c ∈ ([97, 98, 99, 100, 101, 102, 103, 104, 105, 106, 107, 108, 109, 110, 111, 112, 113, 114, 115, 116, 117, 118, 119, 120, 121, 122] : List Nat), isLd c = true) c hc) fun _ => (by decide : ∀ c ∈ ([97, 98, 99, 100, 101, 102, 103, 104, 105, 106, 107, 108, 109, 110, 111, 112, 113, 114, 115, 116, 117, 118, 119, 120, 121, 122] : List Nat), isLet c = true) c hc
  | false =>
    simp! only []
    exact str_mod (n := 36) rfl (by decide) (by decide) fun c hc => q c ((by decide : ∀ c ∈ ([97, 98, 99, 100, 101, 102, 103, 104, 105, 106, 107, 108, 109, 110, 111, 112, 113, 114, 115, 116, 117, 118, 119, 120, 121, 122, 48, 49, 50, 51, 52, 53, 54, 55, 56, 57] : List Nat), isLd c = true) c hc) fun h => nomatch h
theorem for_Lword {z : Option D} {N : VEnds} : ∀ (m i : Nat) (n : Int) (s : Cs) (u : Option D), s.length = i → i + m ≤ 8 → (i = 0 ∨ ∃ c t, s = c :: t ∧ isLet c = true) → (∀ c ∈ s, isLd c = true) →
    (∀ (n : Int) (s : Cs) (u : Option D), s.length = i + m → (i + m = 0 ∨ ∃ c t, s = c :: t ∧ isLet c = true) → (∀ c ∈ s, isLd c = true) → N.nx [some (.int n), z, some (.str s), u]) →
    vForL (vName 3) lb_Lword0 (natsD (List.range' i m)) N [some (.int n), z, some (.str s), u]
  | 0, i, n, s, u, hl, hb, h1, h2, q => q n s u hl h1 h2
  | m + 1, i, n, s, u, hl, hb, h1, h2, q => by
    show vForL (vName 3) lb_Lword0 (D.int (i : Int) :: natsD (List.range' (i + 1) m)) N _
    rw [e_forU lb_Lword0.eq_1]
    simp! only []
    refine c_Lsign fun c l1 l2 => ⟨rfl, ?_⟩
    simp! only []
    refine ⟨by omega, ?_⟩
    refine for_Lword m (i + 1) _ (s ++ [c]) _ (by simp; omega) (by omega) ?_ (fun d hd => ?_) fun n s u h3 h4 h5 => q n s u (by omega) (by rcases h4 with h | h; omega; exact .inr h) h5
    · rcases h1 with h | ⟨d, t, e, h⟩
      · have : s = [] := List.eq_nil_of_length_eq_zero (by omega)
        subst this
        exact .inr ⟨c, [], rfl, l2 (decide_eq_true (by omega))⟩
      · exact .inr ⟨d, t ++ [c], by rw [e]; rfl, h⟩
    · rcases List.mem_append.mp hd with hd | hd
      · exact h2 d hd
      · rw [List.mem_singleton.mp hd]; exact l1
theorem rd_Lword : Rd 2 [false, true] 4 sp_Lword t_Lword := by
  rintro ds Q Ex hl ⟨⟨n, z⟩, rfl, ⟨h1, h2⟩, q⟩
  have h1 : 0 < z := h1
  have h2 : z ≤ 8 := h2
  have q : ∀ s, wordOk s → s.length = z → Q (.str s) [.int n, .int (z : Int)] := fun s a b => q _ ⟨s, rfl, a, b⟩
  unfold t_Lword
  simp! only [rngN, Int.toNat_natCast]
  refine ⟨by omega, by omega, ?_⟩
  rw [List.range_eq_range']
  refine for_Lword z 0 n [] none rfl (by omega) (.inl rfl) (fun _ h => nomatch h) fun n s u h3 h4 h5 => ?_
  simp! only []
  exact q s ⟨by rcases h4 with h | h; omega; exact h, h5⟩ (by omega)
theorem cut_to {s : Cs} {t : Nat} (h : t ≤ s.length) : cutL s none (some (t : Int)) = s.take t := by
  show (s.drop 0).take (HT.sIx s.length s.length (some ((t : Nat) : Int)) - 0) = _
  rw [HT.sIx_nat, List.drop_zero, Nat.sub_zero, Nat.min_eq_left h]
theorem cut_from {s : Cs} {t : Nat} (h : t ≤ s.length) : cutL s (some (t : Int)) none = s.drop t := by
  show (s.drop (HT.sIx s.length 0 (some ((t : Nat) : Int)))).take (HT.sIx s.length s.length none - HT.sIx s.length 0 (some ((t : Nat) : Int))) = _
  rw [HT.sIx_nat, Nat.min_eq_left h]
  exact List.take_of_length_le (by rw [List.length_drop]; exact Nat.le_refl _)
theorem kept_few {s : Cs} (h : s ∈ keptW) : s.length ≤ 5 ∧ wordOk s := by
  have h1 : ∀ s ∈ keptW, s.length ≤ 5 := by decide
  have h2 : ∀ s ∈ keptW, (∃ c t, s = c :: t ∧ isLet c = true) := by
    intro s hs
    simp only [keptW, List.mem_cons, List.not_mem_nil, or_false] at hs
    rcases hs with rfl | rfl | rfl | rfl | rfl | rfl | rfl | rfl | rfl | rfl <;> exact ⟨_, _, rfl, rfl⟩
  have h3 : ∀ s ∈ keptW, ∀ c ∈ s, isLd c = true := by decide
  exact ⟨h1 s h, h2 s h, h3 s h⟩
theorem kept_q {t : Cs} : (113 :: t) ∉ keptW := by
  have h : ∀ s ∈ keptW, s.head? ≠ some 113 := by decide
  exact fun z => h _ z rfl
theorem mem_kept {m : Bool} {s : Cs} {P : Bool → Prop} : (∃ r, memD (.str s) (.lst m (strsD keptW)) = some r ∧ P r) ↔ P (decide (s ∈ keptW)) := by
  have e : memD (.str s) (.lst m (strsD keptW)) = some (decide (s ∈ keptW)) := by
    have e0 : memD (.str s) (.lst m (strsD keptW)) = some ((strsD keptW).any fun y => deq y (.str s)) := rfl
    rw [e0]
    congr 1
    unfold strsD
    rw [List.any_map, Bool.eq_iff_iff, List.any_eq_true, decide_eq_true_iff]
    constructor
    · rintro ⟨y, hy, e⟩
      have e : deq (.str y) (.str s) = true := e
      rw [deq_s] at e
      exact (of_decide_eq_true e) ▸ hy
    · intro h
      exact ⟨s, h, by show deq (.str s) (.str s) = true; rw [deq_s]; exact decide_eq_true rfl⟩
  rw [e]
  exact ⟨fun ⟨_, e, p⟩ => by cases e; exact p, fun p => ⟨_, rfl, p⟩⟩
theorem kept_at {z : Int} {P : D → Prop} (q : ∀ s ∈ keptW, P (.str s)) : ∃ d, ixD (.lst true (strsD keptW)) (.int (z % 10)) = some d ∧ isFz d = true ∧ P d := by
  have h0 := Int.emod_nonneg z (show (10 : Int) ≠ 0 by decide)
  have h1 := Int.emod_lt_of_pos z (show (0 : Int) < 10 by decide)
  obtain ⟨i, hi⟩ := Int.eq_ofNat_of_zero_le h0
  rw [hi] at h1 ⊢
  have hl : i < keptW.length := by show i < 10; omega
  refine ⟨.str keptW[i], ?_, rfl, q _ (List.getElem_mem hl)⟩
  show (ixN (strsD keptW).length (i : Int)).bind (fun j => (strsD keptW)[j]?) = _
  rw [strs_len, ixN_nat hl]
  show (strsD keptW)[i]? = _
  unfold strsD
  rw [List.getElem?_map, List.getElem?_eq_getElem hl]
  rfl
theorem for_Lnames {ns : List Int} (hn : ns.length ≤ 63) {f : Int} {stem : Cs} {t : Nat} (hst : wordOk stem) (hl8 : stem.length ≤ 8) (ht : t < stem.length) {N : VEnds} : ∀ (m i : Nat) (acc : List Cs) (u v w : Option D), acc.length = i → i + m ≤ 5 → (∀ s ∈ acc, NameOk s) →
    (∀ (acc : List Cs) (u v w : Option D), acc.length = i + m → (∀ s ∈ acc, NameOk s) → N.nx [some (scriptD ns), some (.int f), some (.str stem), some (.int (t : Int)), some (.lst true (strsD acc)), u, v, w]) →
    vForL (vName 5) lb_Lnames0 (natsD (List.range' i m)) N [some (scriptD ns), some (.int f), some (.str stem), some (.int (t : Int)), some (.lst true (strsD acc)), u, v, w]
  | 0, i, acc, u, v, w, hl, hb, h, q => q acc u v w hl h
  | m + 1, i, acc, u, v, w, hl, hb, h, q => by
    show vForL (vName 5) lb_Lnames0 (D.int (i : Int) :: natsD (List.range' (i + 1) m)) N _
    rw [e_forU lb_Lnames0.eq_1]
    simp! only [script_fz]
    refine c_Lmix ⟨hn, by omega, by omega⟩ ?_
    simp! only [script_fz]
    have hm := mix_lt ns (902 + (i : Int))
    generalize mixI ns (902 + (i : Int)) = r at hm ⊢
    have fin : ∀ (s : Cs) u v w, NameOk s → vForL (vName 5) lb_Lnames0 (natsD (List.range' (i + 1) m)) N [some (scriptD ns), some (.int f), some (.str stem), some (.int (t : Int)), some (.lst true (strsD acc ++ [D.str s])), u, v, w] := fun s u v w hs => by
      have e : strsD acc ++ [D.str s] = strsD (acc ++ [s]) := by unfold strsD; rw [List.map_append]; rfl
      rw [e]
      refine for_Lnames hn hst hl8 ht m (i + 1) (acc ++ [s]) u v w (by simp; omega) (by omega) (fun x hx => ?_) fun acc u v w h1 h2 => q acc u v w (by omega) h2
      rcases List.mem_append.mp hx with hx | hx
      · exact h x hx
      · rw [List.mem_singleton.mp hx]; exact hs
    have S5 : ∀ (s : Cs) (u v : Option D), wordOk s → s.length ≤ 8 → s ∉ keptW → tc_Lnames5 { N with nx := fun ε' => vForL (vName 5) lb_Lnames0 (natsD (List.range' (i + 1) m)) N ε', ct := fun ε' => vForL (vName 5) lb_Lnames0 (natsD (List.range' (i + 1) m)) N ε', bk := N.nx } [some (scriptD ns), some (.int f), some (.str stem), some (.int (t : Int)), some (.lst true (strsD acc)), u, v, some (.str s)] := fun s u v h1 h2 h3 => by
      unfold tc_Lnames5
      simp! only []
      exact ⟨by rw [strs_len]; omega, fin s _ _ _ ⟨h1, h2, h3⟩⟩
    have S4 : ∀ (s : Cs) (u v : Option D), wordOk s → s.length ≤ 8 → tc_Lnames4 { N with nx := fun ε' => vForL (vName 5) lb_Lnames0 (natsD (List.range' (i + 1) m)) N ε', ct := fun ε' => vForL (vName 5) lb_Lnames0 (natsD (List.range' (i + 1) m)) N ε', bk := N.nx } [some (scriptD ns), some (.int f), some (.str stem), some (.int (t : Int)), some (.lst true (strsD acc)), u, v, some (.str s)] := fun s u v h1 h2 => by
      unfold tc_Lnames4
      simp! only []
      refine c_Lkept ⟨rfl, mem_kept.mpr ?_⟩
      split
      · next hk =>
        have hk := of_decide_eq_true hk
        obtain ⟨h3, h4⟩ := kept_few hk
        refine ⟨by omega, by rw [List.length_drop]; omega, S5 (113 :: s.drop 1) _ _ ⟨⟨113, _, rfl, rfl⟩, fun c hc => ?_⟩ (by simp; omega) kept_q⟩
        rcases List.mem_cons.mp hc with rfl | hc
        · rfl
        · exact h1.2 c (List.mem_of_mem_drop hc)
      · next hk => exact S5 s _ _ h1 h2 fun z => hk (decide_eq_true z)
    have S3 : ∀ (s : Cs), wordOk s → s.length ≤ 8 → tc_Lnames3 { N with nx := fun ε' => vForL (vName 5) lb_Lnames0 (natsD (List.range' (i + 1) m)) N ε', ct := fun ε' => vForL (vName 5) lb_Lnames0 (natsD (List.range' (i + 1) m)) N ε', bk := N.nx } [some (scriptD ns), some (.int f), some (.str stem), some (.int (t : Int)), some (.lst true (strsD acc)), some (.int (i : Int)), some (.int r), some (.str s)] := fun s h1 h2 => by
      unfold tc_Lnames3
      simp! only []
      split
      · split
        · refine c_Lkept ⟨rfl, kept_at fun s2 hs2 => ?_⟩
          obtain ⟨h3, h4⟩ := kept_few hs2
          refine c_Lsign fun c l1 _ => ⟨rfl, ?_⟩
          simp! only []
          refine ⟨by omega, ?_⟩
          refine S4 (s2 ++ [c]) _ _ ⟨?_, fun d hd => ?_⟩ (by simp; omega)
          · obtain ⟨a, b, e, h⟩ := h4.1
            exact ⟨a, b ++ [c], by rw [e]; rfl, h⟩
          · rcases List.mem_append.mp hd with hd | hd
            · exact h4.2 d hd
            · rw [List.mem_singleton.mp hd]; exact l1
        · exact S4 s _ _ h1 h2
      · exact S4 s _ _ h1 h2
    have S2 : ∀ (s : Cs), wordOk s → s.length ≤ 8 → tc_Lnames2 { N with nx := fun ε' => vForL (vName 5) lb_Lnames0 (natsD (List.range' (i + 1) m)) N ε', ct := fun ε' => vForL (vName 5) lb_Lnames0 (natsD (List.range' (i + 1) m)) N ε', bk := N.nx } [some (scriptD ns), some (.int f), some (.str stem), some (.int (t : Int)), some (.lst true (strsD acc)), some (.int (i : Int)), some (.int r), some (.str s)] := fun s h1 h2 => by
      unfold tc_Lnames2
      simp! only []
      split
      · obtain ⟨z, hz, ez⟩ : ∃ z : Nat, (0 < z ∧ z ≤ 8) ∧ 1 + r / 8 % 8 = (z : Int) := ⟨(1 + r / 8 % 8).toNat, by omega, by omega⟩
        rw [ez]
        refine c_Lword hz fun s2 h3 h4 => ?_
        simp! only []
        exact S3 s2 h3 (by omega)
      · exact S3 s h1 h2
    refine ⟨by omega, ?_⟩
    refine c_Lsign fun c l1 l2 => ⟨rfl, ?_⟩
    simp! only []
    rw [cut_to (by omega), show ((t : Int) + 1) = ((t + 1 : Nat) : Int) from rfl, cut_from (by omega)]
    have e1 : (stem.take t).length = t := by rw [List.length_take]; omega
    have e2 : (stem.drop (t + 1)).length = stem.length - (t + 1) := List.length_drop
    refine ⟨by omega, by omega, by rw [List.length_append, e1, e2]; show t + 1 + _ < _; omega, S2 _ ⟨?_, fun d hd => ?_⟩ (by rw [List.length_append, List.length_append, e1, e2]; show t + 1 + _ ≤ _; omega)⟩
    · cases t with
      | zero => exact ⟨c, _, rfl, l2 (decide_eq_true rfl)⟩
      | succ t =>
        obtain ⟨a, b, e, h⟩ := hst.1
        exact ⟨a, _, by rw [e]; rfl, h⟩
    · rcases List.mem_append.mp hd with hd | hd
      · rcases List.mem_append.mp hd with hd | hd
        · exact hst.2 d (List.mem_of_mem_take hd)
        · rw [List.mem_singleton.mp hd]; exact l1
      · exact hst.2 d (List.mem_of_mem_drop hd)
theorem rd_Lnames : Rd 1 [true] 8 sp_Lnames t_Lnames := by
  rintro ds Q Ex hl ⟨ns, rfl, hn, q⟩
  have hn : ns.length ≤ 63 := hn
  have q : ∀ nm, Nms5 nm → Q (.lst true (strsD nm)) [scriptD ns] := fun nm h => q _ ⟨nm, rfl, h⟩
  unfold t_Lnames
  simp! only [script_fz]
  refine c_Lmix ⟨hn, by decide, by decide⟩ ?_
  simp! only [script_fz]
  have hm := mix_lt ns 901
  generalize mixI ns 901 = f at hm ⊢
  obtain ⟨z, hz, ez⟩ : ∃ z : Nat, (0 < z ∧ z ≤ 8) ∧ 1 + f / 8 % 8 = (z : Int) := ⟨(1 + f / 8 % 8).toNat, by omega, by omega⟩
  rw [ez]
  refine c_Lword hz fun stem hs hl => ?_
  simp! only [script_fz]
  refine ⟨by omega, by omega, ?_⟩
  rw [pmod_pos (by omega)]
  obtain ⟨t, ht⟩ := Int.eq_ofNat_of_zero_le (Int.emod_nonneg (f / 64) (show (stem.length : Int) ≠ 0 by omega))
  have t2 := Int.emod_lt_of_pos (f / 64) (show (0 : Int) < stem.length by omega)
  rw [ht] at t2 ⊢
  rw [rngN, List.range_eq_range']
  refine for_Lnames hn hs (by omega) (by omega) 5 0 [] none none none rfl (by decide) (fun _ h => nomatch h) fun acc u v w h1 h2 => ?_
  simp! only []
  exact q acc ⟨h1, h2⟩
theorem rd_Loperand : Rd 4 [true, true, true, true] 5 sp_Loperand t_Loperand := by
  rintro ds Q Ex hl ⟨⟨ns, k, nm, n⟩, rfl, ⟨hk, hn⟩, q⟩
  have hk : 0 ≤ k := hk
  have hn : Nms5 nm := hn
  have q : ∀ o : Opd, OpdOk o → Q (opD o) [scriptD ns, .int k, .lst false (strsD nm), .int n] := fun o g => q _ ⟨o, rfl, g⟩
  unfold t_Loperand
  simp! only [script_fz]
  split
  · exact nm5_at hn fun s hs => q (.inr s) (hn.2 s hs)
  split
  · exact q (.inl (n / 3 % 41 - 20)) (by show (n / 3 % 41 - 20).natAbs < 1000000000000000000; omega)
  refine c_Lraw hk ?_
  simp! only [script_fz]
  refine ⟨.inl (.inl (by omega)), ?_⟩
  have fin : ∀ z : Int, 0 ≤ z → z < 1000000000000000000 → (Q (D.int (-z)) [scriptD ns, .int k, .lst false (strsD nm), .int n] ∧ Q (D.int z) [scriptD ns, .int k, .lst false (strsD nm), .int n]) := fun z h1 h2 => ⟨q (.inl (-z)) (by show (-z).natAbs < 1000000000000000000; omega), q (.inl z) (by show z.natAbs < 1000000000000000000; omega)⟩
  have m0 := Int.emod_nonneg (rawI ns k % 1000000000000000000 * (1 + n / 24 % 1000)) (show (1000000000000000000 : Int) ≠ 0 by decide)
  have m1 := Int.emod_lt_of_pos (rawI ns k % 1000000000000000000 * (1 + n / 24 % 1000)) (show (0 : Int) < 1000000000000000000 by decide)
  generalize rawI ns k % 1000000000000000000 * (1 + n / 24 % 1000) % 1000000000000000000 = w at m0 m1 ⊢
  rw [Int.zero_sub, Int.zero_sub]
  split
  · split
    · exact (fin _ (by omega) (by omega)).1
    · exact (fin _ (by omega) (by omega)).2
  · split
    · exact (fin _ m0 m1).1
    · exact (fin _ m0 m1).2
theorem rd_Lbegins : Rd 1 [true] 1 sp_Lbegins t_Lbegins := by
  rintro ds Q Ex hl ⟨l, rfl, _, q⟩
  have q : Q (.bl (opens l)) [lnD l] := q
  unfold t_Lbegins
  cases l <;> (simp! only [lnD, lnL, opD_fz]; exact q)
theorem rd_Ldeed : Rd 4 [true, true, true, true] 8 sp_Ldeed t_Ldeed := by
  rintro ds Q Ex hl ⟨⟨ns, k, nm, n⟩, rfl, ⟨hk, hn⟩, q⟩
  have hk : 0 ≤ k := hk
  have hn : Nms5 nm := hn
  have q : ∀ l : Ln, LnOk l → ((∃ x b s c, l = .sum x b s c) ∨ (n % 24 < 4 ∧ ∃ b s c, l = .iff b s c)) → Q (lnD l) [scriptD ns, .int k, .lst false (strsD nm), .int n] := fun l a b => q _ ⟨l, rfl, a, b⟩
  unfold t_Ldeed
  simp! only [script_fz]
  refine c_Loperand ⟨hk, hn⟩ fun o1 g1 => ?_
  simp! only [script_fz]
  refine c_Loperand ⟨by omega, hn⟩ fun o2 g2 => ?_
  simp! only [script_fz]
  split
  · next h =>
    refine ix_lits (ss := [[60], [61]]) (by simp) fun sg hsg => ?_
    have hsg : testOk sg := by simpa [testOk] using hsg
    simp! only [opD_fz]
    exact q (.iff o1 sg o2) ⟨g1, hsg, g2⟩ (.inr ⟨h, _, _, _, rfl⟩)
  · refine ix_lits (ss := [[43], [45], [47], [114, 101, 115, 116], [38], [94]]) (by simp) fun sg hsg => ?_
    have hsg : signOk sg := by simpa [signOk] using hsg
    simp! only [opD_fz]
    refine nm5_at hn fun s hs => ?_
    simp! only [opD_fz]
    exact q (.sum s o1 sg o2) ⟨hn.2 s hs, g1, hsg, g2⟩ (.inl ⟨_, _, _, _, rfl⟩)
def tkN : Tk → Int
  | .iff => -1
  | .els => -1
  | .rnd n => n
  | .prt n => n
def tkR : Tk → Bool
  | .rnd _ => true
  | _ => false
theorem lc_Lgoes0 {ε : Ep} {Q : List D → Ep → Prop} {a b c d e : Option D} : ∀ (ks : List Tk) (acc : List D), acc.length + ks.length < 100000 → Q (acc ++ (ks.filter fun k => decide (0 ≤ tkN k)).map fun k => D.int (tkN k)) [a, b, c, none, d] →
    vLcL [3] (vName 3) lt_Lgoes0 le_Lgoes0 (ks.map tkD) acc [a, b, c, none, d] Q
  | [], acc, _, q => by
    have q : Q (acc ++ []) _ := q
    rw [List.append_nil] at q
    exact q
  | k :: ks, acc, hl, q => by
    have hl : acc.length + (ks.length + 1) < 100000 := hl
    rw [List.map_cons, e_lcU2 le_Lgoes0.eq_1 lt_Lgoes0.eq_1]
    have go : ∀ acc', acc'.length + ks.length < 100000 → Q (acc' ++ (ks.filter fun k => decide (0 ≤ tkN k)).map fun k => D.int (tkN k)) [a, b, c, none, d] → vLcL [3] (vName 3) lt_Lgoes0 le_Lgoes0 (ks.map tkD) acc' [a, b, c, none, d] Q := fun acc' h q => lc_Lgoes0 (ε := ε) (e := e) ks acc' h q
    have yes : ∀ n : Int, tkN k = n → 0 ≤ n → vLcL [3] (vName 3) lt_Lgoes0 le_Lgoes0 (ks.map tkD) (acc ++ [.int n]) [a, b, c, none, d] Q := fun n e h => by
      subst e
      have e1 : (k :: ks).filter (fun k => decide (0 ≤ tkN k)) = k :: ks.filter fun k => decide (0 ≤ tkN k) := by rw [List.filter_cons, if_pos (decide_eq_true h)]
      rw [e1, List.map_cons] at q
      exact go (acc ++ [.int (tkN k)]) (by simp; omega) (by simpa using q)
    have no : ¬0 ≤ tkN k → vLcL [3] (vName 3) lt_Lgoes0 le_Lgoes0 (ks.map tkD) acc [a, b, c, none, d] Q := fun h => by
      have e1 : (k :: ks).filter (fun k => decide (0 ≤ tkN k)) = ks.filter fun k => decide (0 ≤ tkN k) := by rw [List.filter_cons, if_neg (by simpa using h)]
      rw [e1] at q
      exact go acc (by omega) q
    cases k with
    | iff => simp! only [tkD]; exact no (by simp [tkN])
    | els => simp! only [tkD]; exact no (by simp [tkN])
    | rnd n =>
      simp! only [tkD]
      split
      · next h => exact ⟨by omega, yes n rfl h⟩
      · next h => exact no h
    | prt n =>
      simp! only [tkD]
      split
      · next h => exact ⟨by omega, yes n rfl h⟩
      · next h => exact no h
theorem lc_Lgoes2 {ε : Ep} {Q : List D → Ep → Prop} {a b c d e : Option D} : ∀ (ks : List Tk) (acc : List D), acc.length + ks.length < 100000 → Q (acc ++ (ks.filter tkR).map fun k => D.int (tkN k)) [a, b, c, none, d] →
    vLcL [3] (vName 3) lt_Lgoes2 le_Lgoes2 (ks.map tkD) acc [a, b, c, none, d] Q
  | [], acc, _, q => by
    have q : Q (acc ++ []) _ := q
    rw [List.append_nil] at q
    exact q
  | k :: ks, acc, hl, q => by
    have hl : acc.length + (ks.length + 1) < 100000 := hl
    rw [List.map_cons, e_lcU2 le_Lgoes2.eq_1 lt_Lgoes2.eq_1]
    have go : ∀ acc', acc'.length + ks.length < 100000 → Q (acc' ++ (ks.filter tkR).map fun k => D.int (tkN k)) [a, b, c, none, d] → vLcL [3] (vName 3) lt_Lgoes2 le_Lgoes2 (ks.map tkD) acc' [a, b, c, none, d] Q := fun acc' h q => lc_Lgoes2 (ε := ε) (e := e) ks acc' h q
    cases k with
    | rnd n =>
      simp! only [tkD]
      refine ⟨by omega, go _ (by simp; omega) ?_⟩
      simpa [List.filter_cons, tkR, tkN] using q
    | iff => simp! only [tkD]; exact go acc (by omega) (by simpa [List.filter_cons, tkR] using q)
    | els => simp! only [tkD]; exact go acc (by omega) (by simpa [List.filter_cons, tkR] using q)
    | prt n => simp! only [tkD]; exact go acc (by omega) (by simpa [List.filter_cons, tkR] using q)
theorem ix_pick {ks : List Tk} (h : ks ≠ []) {z : Int} {P : D → Prop} (q : ∀ k ∈ ks, P (.int (tkN k))) : ∃ d, ((ixN ks.length (pmod z (ks.length : Int))).bind fun j => (ks.map fun k => D.int (tkN k))[j]?) = some d ∧ isFz d = true ∧ P d := by
  have lp : 0 < ks.length := List.length_pos_iff.mpr h
  rw [pmod_pos (by omega)]
  have h0 := Int.emod_nonneg z (show (ks.length : Int) ≠ 0 by omega)
  have h1 := Int.emod_lt_of_pos z (show (0 : Int) < ks.length by omega)
  obtain ⟨i, hi⟩ := Int.eq_ofNat_of_zero_le h0
  rw [hi] at h1 ⊢
  have hl : i < ks.length := by omega
  refine ⟨.int (tkN ks[i]), ?_, rfl, q _ (List.getElem_mem hl)⟩
  rw [ixN_nat hl]
  show (ks.map fun k => D.int (tkN k))[i]? = _
  rw [List.getElem?_map, List.getElem?_eq_getElem hl]
  rfl
theorem rd_Lgoes : Rd 2 [true, true] 5 sp_Lgoes t_Lgoes := by
  rintro ds Q Ex hl ⟨⟨st, n⟩, rfl, ⟨h1, h2⟩, q⟩
  have h1 : st.length < 1000 := h1
  have h2 : ∀ n, home st n → 0 ≤ n := h2
  have q1 : Q .non [.lst false (stD st), .int n] := q _ (.inl rfl)
  have q2 : ∀ l : Ln, ((∃ n, l = .leave n ∧ home st n) ∨ ∃ n, l = .again n ∧ Tk.rnd n ∈ st) → Q (lnD l) [.lst false (stD st), .int n] := fun l h => by
    rcases h with ⟨m, rfl, hm⟩ | ⟨m, rfl, hm⟩
    · exact q _ (.inr (.inl ⟨m, rfl, hm⟩))
    · exact q _ (.inr (.inr ⟨m, rfl, hm⟩))
  clear q
  obtain ⟨H, hH⟩ : ∃ H : List Tk, H = st.reverse.filter fun k => decide (0 ≤ tkN k) := ⟨_, rfl⟩
  obtain ⟨R, hR⟩ : ∃ R : List Tk, R = st.reverse.filter tkR := ⟨_, rfl⟩
  have fzm : ∀ ks : List Tk, isFzL (ks.map fun k => D.int (tkN k)) = true := fun ks => by rw [isFzL_all]; simp [isFz]
  have frzm : ∀ ks : List Tk, frzL (ks.map fun k => D.int (tkN k)) = ks.map fun k => D.int (tkN k) := fun ks => frzL_id (fzm ks)
  have rev : ∀ k, k ∈ H → home st (tkN k) := fun k hk => by
    rw [hH, List.mem_filter] at hk
    have hm : k ∈ st := by simpa using hk.1
    have hp := of_decide_eq_true hk.2
    cases k with
    | iff => exact absurd hp (by simp [tkN])
    | els => exact absurd hp (by simp [tkN])
    | rnd m => exact .inl hm
    | prt m => exact .inr hm
  have revR : ∀ k, k ∈ R → Tk.rnd (tkN k) ∈ st := fun k hk => by
    rw [hR, List.mem_filter] at hk
    have hm : k ∈ st := by simpa using hk.1
    cases k with
    | rnd m => exact hm
    | iff => cases hk.2
    | els => cases hk.2
    | prt m => cases hk.2
  have hrl : st.reverse.length < 1000 := by rw [List.length_reverse]; exact h1
  unfold t_Lgoes
  simp! only [std_fz]
  refine lc_Lgoes0 (ε := []) (e := none) st.reverse [] (by simp; omega) ?_
  rw [List.nil_append, ← hH]
  simp! only [std_fz, frzm]
  refine lc_Lgoes2 (ε := []) (e := none) st.reverse [] (by simp; omega) ?_
  rw [List.nil_append, ← hR]
  simp! only [std_fz, frzm, fzm]
  have eq0 : ∀ ks : List Tk, eqOk (.lst false (ks.map fun k => D.int (tkN k))) (.lst true []) := fun ks => eqOk_0 fun x hx => by
    obtain ⟨k, _, rfl⟩ := List.mem_map.mp hx
    rfl
  have dq0 : ∀ ks : List Tk, deqL (ks.map fun k => D.int (tkN k)) [] = ks.isEmpty := fun ks => by rw [deqL_0]; cases ks <;> rfl
  have low : eqOk (.lst false (H.map fun k => D.int (tkN k))) (.lst true []) ∧
          if deqL (H.map fun k => D.int (tkN k)) [] = true then Q D.non [D.lst false (stD st), D.int n]
          else ¬(H.length : Int) = 0 ∧ ∃ d, ((ixN H.length (pmod (n / 24) (H.length : Int))).bind fun j => (H.map fun k => D.int (tkN k))[j]?) = some d ∧ isFz d = true ∧ Q (D.tup [D.str [108, 101, 97, 118, 101], d]) [D.lst false (stD st), D.int n] := by
    refine ⟨eq0 H, ?_⟩
    have dh := dq0 H
    cases he : H.isEmpty with
    | true => exact ite_yes (dh.trans he) q1
    | false =>
      refine ite_no (fun z => by rw [dh.trans he] at z; cases z) ?_
      have hne : H ≠ [] := fun z => by rw [z] at he; cases he
      have hp := List.length_pos_iff.mpr hne
      exact ⟨by omega, ix_pick hne fun k hk => q2 (.leave (tkN k)) (.inl ⟨_, rfl, rev k hk⟩)⟩
  split
  · refine ⟨eq0 R, ?_⟩
    have dh := dq0 R
    cases he : R.isEmpty with
    | true => exact ite_no (by rw [show deqL _ _ = true from dh.trans he]; decide) low
    | false =>
      refine ite_yes (by rw [show deqL _ _ = false from dh.trans he]; decide) ?_
      have hne : R ≠ [] := fun z => by rw [z] at he; cases he
      have hp := List.length_pos_iff.mpr hne
      exact ⟨by omega, ix_pick hne fun k hk => q2 (.again (tkN k)) (.inr ⟨_, rfl, revR k hk⟩)⟩
  · exact low
theorem rd_Lfirst : Rd 1 [true] 2 sp_Lfirst t_Lfirst := by
  rintro ds Q Ex hl ⟨ns, rfl, h, q⟩
  have h : ns.length ≤ 63 := h
  have q : Q (.int (firstI ns)) [scriptD ns] := q
  unfold t_Lfirst
  simp! only [script_fz]
  refine c_Lmix ⟨h, by decide, by decide⟩ ?_
  have hm := mix_lt ns 911
  unfold firstI at q
  simp! only []
  generalize mixI ns 911 = m at hm q ⊢
  have : m % 3 = 0 ∨ m % 3 = 1 ∨ m % 3 = 2 := by omega
  rcases this with e | e | e <;> rw [e] at q ⊢ <;> exact ⟨_, rfl, rfl, q⟩
theorem rd_Lclose : Rd 2 [true, true] 3 sp_Lclose t_Lclose := by
  rintro ds Q Ex hl ⟨⟨st, n⟩, rfl, ⟨h, hl2⟩, q⟩
  have h : st ≠ [] := h
  have hl2 : st.length < 1000 := hl2
  have q : ∀ (ln : Ln) (st' : List Tk), stepT st ln = some st' → (ln = .done ∨ ln = .els) → Q (lnD ln) [.lst true (stD st'), .int n] := fun ln st' a b => q _ _ ⟨ln, st', rfl, rfl, a, b⟩
  match st, h with
  | k :: t, _ =>
    have e : stD (k :: t) = stD t ++ [tkD k] := (std_cons k t).symm
    have hl2 : t.length + 1 < 1000 := hl2
    show t_Lclose _ (startE 3 [.lst true (stD (k :: t)), .int n])
    rw [e]
    unfold t_Lclose
    simp! only []
    cases k with
    | iff =>
      simp! only [tkD]
      split
      · refine ⟨by omega, ?_⟩
        have e2 : stD t ++ [D.tup [D.str [101, 108, 115, 101], D.int (-1)]] = stD (.els :: t) := std_cons .els t
        rw [e2]
        exact q .els (.els :: t) rfl (.inr rfl)
      · exact q .done t rfl (.inl rfl)
    | els =>
      simp! only [tkD]
      exact q .done t rfl (.inl rfl)
    | rnd n =>
      simp! only [tkD]
      exact q .done t rfl (.inl rfl)
    | prt n =>
      simp! only [tkD]
      exact q .done t rfl (.inl rfl)
def noEnd : Ln → Prop
  | .els => False
  | .done => False
  | _ => True
theorem GLn.of {f : Int} {k : Nat} {st : List Tk} {l : Ln} (ne : noEnd l) (ok : okT st l) (ln : LnOk l) (h : homes [l] = [] ∨ homes [l] = [hm f (k : Int)]) : ∃ st', GLn f k st l st' := by
  cases l with
  | els => exact ne.elim
  | done => exact ne.elim
  | _ => exact ⟨_, rfl, ok, ln, h⟩
theorem rd_Lstep : Rd 4 [true, true, true, true] 7 sp_Lstep t_Lstep := by
  rintro ds Q Ex hl ⟨⟨ns, k, nm, st⟩, rfl, ⟨hn, hk, hm, hs, hp⟩, q⟩
  have hn : ns.length ≤ 63 := hn
  have hk : k < 1000 := hk
  have hm : Nms5 nm := hm
  have hs : st.length ≤ 60 := hs
  have hp : ∀ n, home st n → 0 ≤ n := hp
  have q : ∀ l st', GLn (firstI ns) k st l st' → Q (lnD l) [scriptD ns, .int (k : Int), .lst false (strsD nm), .lst true (stD st')] := fun l st' g => q _ _ ⟨l, st', rfl, rfl, g⟩
  unfold t_Lstep
  simp! only [script_fz]
  refine c_Lmix ⟨hn, by omega, by omega⟩ ⟨rfl, ?_⟩
  simp! only [script_fz]
  generalize mixI ns (k : Int) = n
  generalize hN : (VEnds.mk _ _ _ _ _ : VEnds) = N
  have q : ∀ l st' a b c, GLn (firstI ns) k st l st' → N.rt (lnD l) [some (scriptD ns), some (.int (k : Int)), some (.lst false (strsD nm)), some (.lst true (stD st')), a, b, c] := fun l st' a b c g => by
    rw [← hN]
    simp! only [script_fz]
    exact q l st' g
  clear hN
  -- the line that is ready
  have S9 : ∀ (l : Ln) w, noEnd l → okT st l → LnOk l → (homes [l] = [] ∨ homes [l] = [VL.hm (firstI ns) (k : Int)]) → tb_Lstep9 N [some (scriptD ns), some (.int (k : Int)), some (.lst false (strsD nm)), some (.lst true (stD st)), some (.int n), some w, some (lnD l)] := fun l w h1 h2 h3 h4 => by
    obtain ⟨st', g⟩ := GLn.of h1 h2 h3 h4
    have hst := g.step
    have q := fun a b c => q l st' a b c g
    unfold tb_Lstep9
    simp! only [script_fz, ln_fz]
    refine c_Lbegins ⟨rfl, ?_⟩
    cases l with
    | els => exact h1.elim
    | done => exact h1.elim
    | iff a s b =>
      simp! only [opens, lnD, lnL, e_intB]
      cases hst
      exact ⟨by omega, by have z := q; simp only [← std_cons] at z; exact z _ _ _⟩
    | round m =>
      simp! only [opens, lnD, lnL, e_intB]
      cases hst
      exact ⟨by omega, by have z := q; simp only [← std_cons] at z; exact z _ _ _⟩
    | part m =>
      simp! only [opens, lnD, lnL, e_intB]
      cases hst
      exact ⟨by omega, by have z := q; simp only [← std_cons] at z; exact z _ _ _⟩
    | sum x a s b =>
      simp! only [opens, lnD, lnL]
      cases hst
      exact q _ _ _
    | _ =>
      simp! only [opens, lnD, lnL]
      cases hst
      exact q _ _ _
  have S8 : ∀ (x : D) w, (x = .non ∨ ∃ l, x = lnD l ∧ noEnd l ∧ okT st l ∧ LnOk l ∧ (homes [l] = [] ∨ homes [l] = [VL.hm (firstI ns) (k : Int)])) → tb_Lstep8 N [some (scriptD ns), some (.int (k : Int)), some (.lst false (strsD nm)), some (.lst true (stD st)), some (.int n), some w, some x] := fun x w h => by
    unfold tb_Lstep8
    rcases h with rfl | ⟨l, rfl, h1, h2, h3, h4⟩
    · simp! only [script_fz]
      refine c_Ldeed ⟨by omega, hm⟩ fun l h1 h2 => ⟨rfl, ?_⟩
      simp! only [script_fz]
      rcases h2 with ⟨a, b, c, d, rfl⟩ | ⟨h2, _⟩
      · exact S9 _ _ trivial trivial h1 (.inl rfl)
      · omega
    · have e : lnD l = .tup (lnL l) := rfl
      simp! only [script_fz, e]
      exact ⟨ln_fzL l, S9 l _ h1 h2 h3 h4⟩
  have S7 : ∀ (x : D) (w : Int), (x = .non ∨ ∃ l, x = lnD l ∧ noEnd l ∧ okT st l ∧ LnOk l ∧ (homes [l] = [] ∨ homes [l] = [VL.hm (firstI ns) (k : Int)])) → tb_Lstep7 N [some (scriptD ns), some (.int (k : Int)), some (.lst false (strsD nm)), some (.lst true (stD st)), some (.int n), some (.int w), some x] := fun x w h => by
    unfold tb_Lstep7
    have fin := S8 (lnD .fin) (.int w) (.inr ⟨_, rfl, trivial, trivial, trivial, .inl rfl⟩)
    have old := S8 x (.int w) h
    cases st with
    | nil =>
      simp! only [script_fz]
      split
      · exact ⟨.inr ⟨rfl, rfl⟩, old⟩
      · exact old
    | cons j t =>
      have e : (stD (j :: t))[t.length]? = some (tkD j) := by rw [← std_cons]; simp [stD]
      simp! only [script_fz, eqOk_st, deqL_st, List.isEmpty_cons, ixN_last, e, tk_fz]
      cases j with
      | iff =>
        simp! only [tkD]
        split
        · exact ⟨true, rfl, fin⟩
        · exact old
      | els =>
        simp! only [tkD]
        split
        · exact ⟨true, rfl, fin⟩
        · exact old
      | rnd z =>
        simp! only [tkD]
        split
        · exact ⟨false, rfl, old⟩
        · exact old
      | prt z =>
        simp! only [tkD]
        split
        · exact ⟨false, rfl, old⟩
        · exact old
  have S6 : ∀ (x : D) (w : Int), (x = .non ∨ ∃ l, x = lnD l ∧ noEnd l ∧ okT st l ∧ LnOk l ∧ (homes [l] = [] ∨ homes [l] = [VL.hm (firstI ns) (k : Int)])) → tb_Lstep6 N [some (scriptD ns), some (.int (k : Int)), some (.lst false (strsD nm)), some (.lst true (stD st)), some (.int n), some (.int w), some x] := fun x w h => by
    unfold tb_Lstep6
    simp! only [script_fz]
    have old := S7 x w h
    split
    · split
      · refine c_Lgoes ⟨by omega, hp⟩ ⟨rfl, S7 _ w (.inl rfl)⟩ fun l hl => ⟨new_ln l, S7 _ w (.inr ⟨l, rfl, ?_⟩)⟩
        rcases hl with ⟨m, rfl, hm⟩ | ⟨m, rfl, hm⟩
        · exact ⟨trivial, hm, trivial, .inl rfl⟩
        · exact ⟨trivial, hm, trivial, .inl rfl⟩
      · exact old
    · exact old
  have S5 : ∀ (x : D) (w : Int), (x = .non ∨ ∃ l, x = lnD l ∧ noEnd l ∧ okT st l ∧ LnOk l ∧ (homes [l] = [] ∨ homes [l] = [VL.hm (firstI ns) (k : Int)])) → tb_Lstep5 N [some (scriptD ns), some (.int (k : Int)), some (.lst false (strsD nm)), some (.lst true (stD st)), some (.int n), some (.int w), some x] := fun x w h => by
    unfold tb_Lstep5
    simp! only [script_fz, eqOk_st, deqL_st]
    have old := S6 x w h
    split
    · split
      · cases he : st.isEmpty with
        | true => exact old
        | false =>
          refine c_Lclose ⟨fun z => (by rw [z] at he; cases he), by omega⟩ fun ln st' h1 h2 => ⟨rfl, ?_⟩
          refine q ln st' _ _ _ ⟨h1, ?_, ?_, ?_⟩
          · rcases h2 with rfl | rfl <;> trivial
          · rcases h2 with rfl | rfl <;> trivial
          · rcases h2 with rfl | rfl <;> exact .inl rfl
      · exact old
    · exact old
  have S4 : ∀ (x : D) (w : Int), (x = .non ∨ ∃ l, x = lnD l ∧ noEnd l ∧ okT st l ∧ LnOk l ∧ (homes [l] = [] ∨ homes [l] = [VL.hm (firstI ns) (k : Int)])) → tb_Lstep4 N [some (scriptD ns), some (.int (k : Int)), some (.lst false (strsD nm)), some (.lst true (stD st)), some (.int n), some (.int w), some x] := fun x w h => by
    unfold tb_Lstep4
    simp! only [script_fz, e_intB]
    have old := S5 x w h
    split
    · split
      · split
        · next hh =>
          have hh : st.length < 60 := by omega
          have e : (if 6 < w then (1 : Int) else 0) = 0 ∨ (if 6 < w then (1 : Int) else 0) = 1 := by split; exact .inr rfl; exact .inl rfl
          rcases e with e | e
          · rw [e]
            simp! only [script_fz]
            refine c_Lfirst hn ⟨rfl, ?_⟩
            simp! only [script_fz]
            exact S5 (lnD (.round (VL.hm (firstI ns) (k : Int)))) w (.inr ⟨_, rfl, trivial, hh, trivial, .inr rfl⟩)
          · rw [e]
            simp! only [script_fz]
            refine c_Lfirst hn ⟨rfl, ?_⟩
            simp! only [script_fz]
            exact S5 (lnD (.part (VL.hm (firstI ns) (k : Int)))) w (.inr ⟨_, rfl, trivial, hh, trivial, .inr rfl⟩)
        · exact old
      · exact old
    · exact old
  unfold tb_Lstep1
  simp! only [script_fz]
  unfold tb_Lstep2
  simp! only [script_fz]
  unfold tb_Lstep3
  simp! only [script_fz]
  have old := S4 .non (n % 24) (.inl rfl)
  split
  · split
    · next hh =>
      have hh : st.length < 60 := by omega
      refine c_Ldeed ⟨by omega, hm⟩ fun l h1 h2 => ⟨rfl, ?_⟩
      simp! only [script_fz]
      refine S4 (lnD l) _ (.inr ⟨l, rfl, ?_⟩)
      rcases h2 with ⟨a, b, c, d, rfl⟩ | ⟨_, a, b, c, rfl⟩
      · exact ⟨trivial, trivial, h1, .inl rfl⟩
      · exact ⟨trivial, hh, h1, .inl rfl⟩
    · exact old
  · exact old
theorem for_Llines {ns : List Int} {nm : List Cs} {M : Option D} (hn : ns.length ≤ 63) (hm : Nms5 nm) {N : VEnds} : ∀ (m i : Nat) (L : List Ln) (st : List Tk) (u : Option D), GSt (firstI ns) i L st → i + m ≤ 60 →
    (∀ (L : List Ln) (st : List Tk) (u : Option D), GSt (firstI ns) (i + m) L st → N.nx [some (scriptD ns), M, some (.lst false (strsD nm)), some (.lst true (L.map lnD)), some (.lst true (stD st)), u]) →
    vForL (vName 5) lb_Llines0 (natsD (List.range' i m)) N [some (scriptD ns), M, some (.lst false (strsD nm)), some (.lst true (L.map lnD)), some (.lst true (stD st)), u]
  | 0, i, L, st, u, G, hb, q => q L st u G
  | m + 1, i, L, st, u, G, hb, q => by
    show vForL (vName 5) lb_Llines0 (D.int (i : Int) :: natsD (List.range' (i + 1) m)) N _
    rw [e_forU lb_Llines0.eq_1]
    simp! only [script_fz]
    refine c_Lstep ⟨hn, by omega, hm, G.few, G.pos⟩ fun ln st' g => ⟨rfl, ?_⟩
    simp! only [script_fz]
    have e : L.map lnD ++ [lnD ln] = (L ++ [ln]).map lnD := by rw [List.map_append]; rfl
    rw [e]
    exact ⟨by have := G.len; omega, for_Llines hn hm m (i + 1) (L ++ [ln]) st' _ (G.next g) (by omega) fun L st u g => q L st u (by rw [show i + (m + 1) = i + 1 + m by omega]; exact g)⟩
theorem wh_Llines {ns : List Int} {nm : List Cs} {M u : Option D} {N : VEnds} {st : List Tk} {L : List Ln} (hl : L.length + st.length ≤ 200)
    (q : N.nx [some (scriptD ns), M, some (.lst false (strsD nm)), some (.lst true ((L ++ List.replicate st.length Ln.done).map lnD)), some (.lst true []), u]) :
    vWhile (vViewT (wOp sNe (w2 (wName 4) (wLst wNil)))) lb_Llines1 N [some (scriptD ns), M, some (.lst false (strsD nm)), some (.lst true (L.map lnD)), some (.lst true (stD st)), u] := by
  refine ⟨fun m ε => ∃ (L : List Ln) (st : List Tk), st.length = m ∧ L.length + st.length ≤ 200 ∧ ε = [some (scriptD ns), M, some (.lst false (strsD nm)), some (.lst true (L.map lnD)), some (.lst true (stD st)), u] ∧ N.nx [some (scriptD ns), M, some (.lst false (strsD nm)), some (.lst true ((L ++ List.replicate st.length Ln.done).map lnD)), some (.lst true []), u], ⟨st.length, L, st, rfl, hl, rfl, q⟩, ?_⟩
  rintro m ε ⟨L, st, rfl, hl, rfl, q⟩
  simp! only [eqOk_st, deqL_st]
  cases st with
  | nil =>
    simp! only [List.isEmpty_nil]
    have q : N.nx [some (scriptD ns), M, some (.lst false (strsD nm)), some (.lst true ((L ++ []).map lnD)), some (.lst true []), u] := q
    rw [List.append_nil] at q
    exact q
  | cons k t =>
    have hl : L.length + (t.length + 1) ≤ 200 := hl
    have e0 : stD (k :: t) = stD t ++ [tkD k] := (std_cons k t).symm
    have e : L.map lnD ++ [lnD .done] = (L ++ [Ln.done]).map lnD := by rw [List.map_append]; rfl
    have q : N.nx [some (scriptD ns), M, some (.lst false (strsD nm)), some (.lst true (((L ++ [Ln.done]) ++ List.replicate t.length Ln.done).map lnD)), some (.lst true []), u] := by simpa [List.replicate_succ] using q
    unfold lb_Llines1
    rw [e0]
    simp! only [List.isEmpty_cons]
    refine ⟨by omega, t.length, by simp, L ++ [Ln.done], t, rfl, by simp; omega, ?_, q⟩
    rw [← e]
    exact ⟨rfl, rfl⟩
theorem rd_Llines : Rd 2 [true, true] 6 sp_Llines t_Llines := by
  rintro ds Q Ex hl ⟨⟨ns, m⟩, rfl, ⟨hn, hm⟩, q⟩
  have hn : ns.length ≤ 63 := hn
  have hm : m ≤ 60 := hm
  have q : ∀ L, GenOk L → Q (.lst true (L.map lnD)) [scriptD ns, .int (m : Int)] := fun L h => q _ ⟨L, rfl, h⟩
  unfold t_Llines
  simp! only [script_fz]
  refine c_Lnames hn fun nm h5 => ⟨rfl, ?_⟩
  simp! only [script_fz, rngN]
  refine ⟨by omega, by omega, ?_⟩
  rw [Int.toNat_natCast, List.range_eq_range']
  have G0 : GSt (firstI ns) 0 [] [] := ⟨.nil, fun _ h => (nomatch h), ⟨[], rfl, .nil, fun _ h => (nomatch h)⟩, rfl, by decide, fun n h => by rcases h with h | h <;> cases h⟩
  refine for_Llines hn h5 m 0 [] [] none G0 (by omega) fun L st u G => ?_
  rw [Nat.zero_add] at G
  refine wh_Llines (by have := G.few; have := G.len; omega) ?_
  simp! only [script_fz]
  exact q _ (G.gen (by omega))
/-- one that is open -/
def frD (h y : D) (xs : List D) : D := .lst true [h, y, .lst true xs]
theorem top_ix (S : List D) (z : D) : ixN (S ++ [z]).length (-1) = some S.length := by
  rw [List.length_append]
  exact ixN_last
theorem top_get (S : List D) (z : D) : getP (.lst true (S ++ [z])) [.ix S.length] = some z := by
  show (match (S ++ [z])[S.length]? with | some d => getP d [] | none => none) = _
  rw [List.getElem?_append_right (Nat.le_refl _), Nat.sub_self]
  exact getP_nil z
theorem top_set (S : List D) (z w : D) : setP (.lst true (S ++ [z])) [.ix S.length] w = .lst true (S ++ [w]) := by
  have e : (S ++ [z])[S.length]? = some z := by simp
  simp [setP, e]
theorem top_get2 (S : List D) (a b c : D) : getP (.lst true (S ++ [.lst true [a, b, c]])) [.ix S.length, .ix 2] = some c := by
  show (match (S ++ [D.lst true [a, b, c]])[S.length]? with | some d => getP d [.ix 2] | none => none) = _
  rw [List.getElem?_append_right (Nat.le_refl _), Nat.sub_self]
  exact getP_nil c
theorem top_set2 (S : List D) (a b c w : D) : setP (.lst true (S ++ [.lst true [a, b, c]])) [.ix S.length, .ix 2] w = .lst true (S ++ [.lst true [a, b, w]]) := by
  have e : (S ++ [D.lst true [a, b, c]])[S.length]? = some (D.lst true [a, b, c]) := by simp
  simp [setP, e]
def plainL : Ln → Bool
  | .sum _ _ _ _ => true
  | .leave _ => true
  | .again _ => true
  | .fin => true
  | _ => false
theorem nest_plain {l : Ln} {S : List D} {h y : D} {xs : List D} {a b c d : Option D} {N : VEnds} (hl : plainL l = true) (hx : xs.length < 1000) (q : N.nx [a, some (.lst true (S ++ [frD h y (xs ++ [lnD l])])), some (lnD l), b, c, d]) :
    lb_Lnested0 N [a, some (.lst true (S ++ [frD h y xs])), some (lnD l), b, c, d] := by
  unfold lb_Lnested0
  simp! only [ln_fz, frD]
  refine c_Lbegins ⟨rfl, ?_⟩
  cases l with
  | iff _ _ _ => cases hl
  | round _ => cases hl
  | part _ => cases hl
  | els => cases hl
  | done => cases hl
  | _ =>
    simp! only [opens, lnD, lnL]
    refine ⟨_, top_ix _ _, _, top_get _ _, 2, rfl, _, top_get2 _ _ _ _, by omega, ?_⟩
    rw [top_set2]
    exact q
theorem nest_open {l : Ln} {S : List D} {a b c d : Option D} {N : VEnds} (hl : opens l = true) (hS : S.length < 1000) (q : N.nx [a, some (.lst true (S ++ [frD (lnD l) .non []])), some (lnD l), b, c, d]) :
    lb_Lnested0 N [a, some (.lst true S), some (lnD l), b, c, d] := by
  unfold lb_Lnested0
  simp! only [ln_fz]
  refine c_Lbegins ⟨rfl, ?_⟩
  rw [hl]
  simp! only [ln_fz]
  exact ⟨by omega, q⟩
theorem nest_els {S : List D} {h : D} {xs : List D} {a b c d : Option D} {N : VEnds} (q : N.nx [a, some (.lst true (S ++ [frD h (.lst false (frzL xs)) []])), some (lnD .els), b, c, d]) :
    lb_Lnested0 N [a, some (.lst true (S ++ [frD h .non xs])), some (lnD .els), b, c, d] := by
  unfold lb_Lnested0
  simp! only [ln_fz, frD]
  refine c_Lbegins ⟨rfl, ?_⟩
  simp! only [opens, lnD, lnL, vTake]
  refine ⟨_, top_ix _ _, _, top_get _ _, 2, rfl, _, top_get2 _ _ _ _, ?_⟩
  rw [top_set2]
  refine ⟨_, rfl, _, top_ix _ _, _, top_get _ _, _, rfl, ?_⟩
  rw [top_set]
  refine ⟨_, rfl, _, top_ix _ _, _, top_get _ _, _, rfl, ?_⟩
  rw [top_set]
  exact q
def doneOk (l : Ln) (y2 : D) (ys : List D) (f : D) : Prop :=
  (∃ a s b z, l = .iff a s b ∧ y2 = .lst false z ∧ isFzL z = true ∧ f = .tup [.str cChoice, opD a, .str s, opD b, .lst false z, .lst false (frzL ys)]) ∨
  (∃ a s b, l = .iff a s b ∧ y2 = .non ∧ f = .tup [.str cChoice, opD a, .str s, opD b, .lst false (frzL ys), .lst false []]) ∨
  (∃ n, l = .round n ∧ y2 = .non ∧ f = .tup [.str cRound, .int n, .lst false (frzL ys)]) ∨
  (∃ n, l = .part n ∧ y2 = .non ∧ f = .tup [.str cPart, .int n, .lst false (frzL ys)])
theorem nest_done {l : Ln} {S : List D} {h y : D} {xs : List D} {y2 : D} {ys : List D} {f : D} {a b c d : Option D} {N : VEnds} (hx : xs.length < 1000) (hf : doneOk l y2 ys f)
    (q : ∀ b c d, N.nx [a, some (.lst true (S ++ [frD h y (xs ++ [f])])), some (lnD .done), b, c, d]) :
    lb_Lnested0 N [a, some (.lst true (S ++ [frD h y xs] ++ [frD (lnD l) y2 ys])), some (lnD .done), b, c, d] := by
  have fzy : isFzL (frzL ys) = true := isFzL_frz ys
  unfold lb_Lnested0
  simp! only [ln_fz, frD]
  refine c_Lbegins ⟨rfl, ?_⟩
  simp! only [opens, ln_frz, lnD, lnL]
  rcases hf with ⟨a, s, b, z, rfl, rfl, hz, rfl⟩ | ⟨a, s, b, rfl, rfl, rfl⟩ | ⟨n, rfl, rfl, rfl⟩ | ⟨n, rfl, rfl, rfl⟩
  · have ez : frzL z = z := frzL_id hz
    simp! only [lnD, lnL, ez, fzy, hz, names3L]
    rw [if_neg (by decide)]
    refine ⟨_, top_ix _ _, _, top_get _ _, 2, rfl, _, top_get2 _ _ _ _, ?_⟩
    simp! only [vSlQ, isFzL_frz, sliceD]
    exact ⟨hz, by rw [hz]; rfl, by omega, by rw [top_set2]; exact q _ _ _⟩
  · simp! only [lnD, lnL, fzy, names3L]
    rw [if_neg (by decide)]
    refine ⟨_, top_ix _ _, _, top_get _ _, 2, rfl, _, top_get2 _ _ _ _, ?_⟩
    simp! only [vSlQ, isFzL_frz, sliceD, frzL_id fzy]
    exact ⟨by omega, by rw [top_set2]; exact q _ _ _⟩
  · simp! only [lnD, lnL, fzy, names3L]
    rw [if_pos (by decide)]
    refine ⟨_, top_ix _ _, _, top_get _ _, 2, rfl, _, top_get2 _ _ _ _, by omega, ?_⟩
    rw [top_set2]
    exact q _ _ _
  · simp! only [lnD, lnL, fzy, names3L]
    rw [if_pos (by decide)]
    refine ⟨_, top_ix _ _, _, top_get _ _, 2, rfl, _, top_get2 _ _ _ _, by omega, ?_⟩
    rw [top_set2]
    exact q _ _ _
theorem lnsF_pos (f : Fm) : 0 < (lnsF f).length := by cases f <;> rw [lnsF] <;> simp
theorem two_lt {a b c d e f : Option D} : 2 < [a, b, c, d, e, f].length := by simp
mutual
theorem nestF : ∀ (f : Fm) {S : List D} {h y : D} {xs : List D} {a b c d e : Option D} {ds : List D} {N : VEnds}, S.length + (lnsF f).length < 1000 → xs.length + (lnsF f).length < 1000 →
    (∀ b c d e, vForL (vName 2) lb_Lnested0 ds N [a, some (.lst true (S ++ [frD h y (xs ++ [fmD f])])), b, c, d, e]) →
    vForL (vName 2) lb_Lnested0 ((lnsF f).map lnD ++ ds) N [a, some (.lst true (S ++ [frD h y xs])), b, c, d, e]
  | .sum x i s j, S, h, y, xs, a, b, c, d, e, ds, N, h1, h2, q => by
    rw [lnsF] at h1 h2 ⊢
    refine (e_forU rfl).mpr ?_
    have h2 : xs.length + 1 < 1000 := h2
    exact ⟨two_lt, nest_plain (l := .sum x i s j) rfl (by omega) (by rw [fmD] at q; exact q _ _ _ _)⟩
  | .leave n, S, h, y, xs, a, b, c, d, e, ds, N, h1, h2, q => by
    rw [lnsF] at h1 h2 ⊢
    refine (e_forU rfl).mpr ?_
    have h2 : xs.length + 1 < 1000 := h2
    exact ⟨two_lt, nest_plain (l := .leave n) rfl (by omega) (by rw [fmD] at q; exact q _ _ _ _)⟩
  | .again n, S, h, y, xs, a, b, c, d, e, ds, N, h1, h2, q => by
    rw [lnsF] at h1 h2 ⊢
    refine (e_forU rfl).mpr ?_
    have h2 : xs.length + 1 < 1000 := h2
    exact ⟨two_lt, nest_plain (l := .again n) rfl (by omega) (by rw [fmD] at q; exact q _ _ _ _)⟩
  | .fin, S, h, y, xs, a, b, c, d, e, ds, N, h1, h2, q => by
    rw [lnsF] at h1 h2 ⊢
    refine (e_forU rfl).mpr ?_
    have h2 : xs.length + 1 < 1000 := h2
    exact ⟨two_lt, nest_plain (l := .fin) rfl (by omega) (by rw [fmD] at q; exact q _ _ _ _)⟩
  | .round n B, S, h, y, xs, a, b, c, d, e, ds, N, h1, h2, q => by
    have e1 : lnsF (.round n B) = .round n :: (lnsL B ++ [.done]) := by rw [lnsF]
    rw [e1] at h1 h2 ⊢
    simp only [List.length_cons, List.length_append, List.length_nil] at h1 h2
    rw [List.map_cons, List.map_append, List.cons_append, List.append_assoc]
    refine (e_forU rfl).mpr ⟨two_lt, nest_open (l := .round n) rfl (by simp; omega) ?_⟩
    refine nestL B (by simp; omega) (by simp; omega) fun b c d e => ?_
    refine (e_forU rfl).mpr ⟨two_lt, nest_done (by omega) (.inr (.inr (.inl ⟨n, rfl, rfl, rfl⟩))) fun c d e => ?_⟩
    rw [List.nil_append, frzL_id (fms_fz B)]
    have e2 : fmD (.round n B) = .tup [.str cRound, .int n, .lst false (fmsD B)] := by rw [fmD]
    rw [← e2]
    exact q _ _ _ _
  | .part n B, S, h, y, xs, a, b, c, d, e, ds, N, h1, h2, q => by
    have e1 : lnsF (.part n B) = .part n :: (lnsL B ++ [.done]) := by rw [lnsF]
    rw [e1] at h1 h2 ⊢
    simp only [List.length_cons, List.length_append, List.length_nil] at h1 h2
    rw [List.map_cons, List.map_append, List.cons_append, List.append_assoc]
    refine (e_forU rfl).mpr ⟨two_lt, nest_open (l := .part n) rfl (by simp; omega) ?_⟩
    refine nestL B (by simp; omega) (by simp; omega) fun b c d e => ?_
    refine (e_forU rfl).mpr ⟨two_lt, nest_done (by omega) (.inr (.inr (.inr ⟨n, rfl, rfl, rfl⟩))) fun c d e => ?_⟩
    rw [List.nil_append, frzL_id (fms_fz B)]
    have e2 : fmD (.part n B) = .tup [.str cPart, .int n, .lst false (fmsD B)] := by rw [fmD]
    rw [← e2]
    exact q _ _ _ _
  | .choice i s j Y Z false, S, h, y, xs, a, b, c, d, e, ds, N, h1, h2, q => by
    have e1 : lnsF (.choice i s j Y Z false) = .iff i s j :: (lnsL Y ++ [.done]) := by rw [lnsF]; rfl
    rw [e1] at h1 h2 ⊢
    simp only [List.length_cons, List.length_append, List.length_nil] at h1 h2
    rw [List.map_cons, List.map_append, List.cons_append, List.append_assoc]
    refine (e_forU rfl).mpr ⟨two_lt, nest_open (l := .iff i s j) rfl (by simp; omega) ?_⟩
    refine nestL Y (by simp; omega) (by simp; omega) fun b c d e => ?_
    refine (e_forU rfl).mpr ⟨two_lt, nest_done (by omega) (.inr (.inl ⟨i, s, j, rfl, rfl, rfl⟩)) fun c d e => ?_⟩
    rw [List.nil_append, frzL_id (fms_fz Y)]
    have e2 : fmD (.choice i s j Y Z false) = .tup [.str cChoice, opD i, .str s, opD j, .lst false (fmsD Y), .lst false []] := by rw [fmD]; rfl
    rw [← e2]
    exact q _ _ _ _
  | .choice i s j Y Z true, S, h, y, xs, a, b, c, d, e, ds, N, h1, h2, q => by
    have e1 : lnsF (.choice i s j Y Z true) = .iff i s j :: (lnsL Y ++ .els :: (lnsL Z ++ [.done])) := by rw [lnsF]; rfl
    rw [e1] at h1 h2 ⊢
    simp only [List.length_cons, List.length_append, List.length_nil] at h1 h2
    rw [List.map_cons, List.map_append, List.cons_append, List.append_assoc, List.map_cons, List.map_append, List.cons_append, List.append_assoc]
    refine (e_forU rfl).mpr ⟨two_lt, nest_open (l := .iff i s j) rfl (by simp; omega) ?_⟩
    refine nestL Y (by simp; omega) (by simp; omega) fun b c d e => ?_
    refine (e_forU rfl).mpr ⟨two_lt, nest_els ?_⟩
    rw [List.nil_append, frzL_id (fms_fz Y)]
    refine nestL Z (by simp; omega) (by simp; omega) fun b c d e => ?_
    refine (e_forU rfl).mpr ⟨two_lt, nest_done (by omega) (.inl ⟨i, s, j, _, rfl, rfl, fms_fz Y, rfl⟩) fun c d e => ?_⟩
    rw [List.nil_append, frzL_id (fms_fz Z)]
    have e2 : fmD (.choice i s j Y Z true) = .tup [.str cChoice, opD i, .str s, opD j, .lst false (fmsD Y), .lst false (fmsD Z)] := by rw [fmD]; rfl
    rw [← e2]
    exact q _ _ _ _
theorem nestL : ∀ (F : List Fm) {S : List D} {h y : D} {xs : List D} {a b c d e : Option D} {ds : List D} {N : VEnds}, S.length + (lnsL F).length < 1000 → xs.length + (lnsL F).length < 1000 →
    (∀ b c d e, vForL (vName 2) lb_Lnested0 ds N [a, some (.lst true (S ++ [frD h y (xs ++ fmsD F)])), b, c, d, e]) →
    vForL (vName 2) lb_Lnested0 ((lnsL F).map lnD ++ ds) N [a, some (.lst true (S ++ [frD h y xs])), b, c, d, e]
  | [], S, h, y, xs, a, b, c, d, e, ds, N, h1, h2, q => by
    rw [fmsD, List.append_nil] at q
    rw [lnsL]
    exact q _ _ _ _
  | f :: F, S, h, y, xs, a, b, c, d, e, ds, N, h1, h2, q => by
    rw [lnsL] at h1 h2 ⊢
    rw [List.length_append] at h1 h2
    rw [List.map_append, List.append_assoc]
    have hp := lnsF_pos f
    refine nestF f (by omega) (by omega) fun b c d e => ?_
    refine nestL F (by omega) (by simp; omega) fun b c d e => ?_
    rw [fmsD] at q
    rw [List.append_assoc]
    exact q _ _ _ _
end
theorem rd_Lnested : Rd 1 [true] 6 sp_Lnested t_Lnested := by
  rintro ds Q Ex hl ⟨F, rfl, hF, q⟩
  have hF : (lnsL F).length < 1000 := hF
  have q : Q (.lst true (fmsD F)) [.lst false ((lnsL F).map lnD)] := q
  unfold t_Lnested
  simp! only [lns_fz]
  have z := fun N => nestL F (S := []) (h := .tup [.str [102, 111, 114, 109]]) (y := .non) (xs := []) (a := some (.lst false ((lnsL F).map lnD))) (b := none) (c := none) (d := none) (e := none) (ds := []) (N := N)
  simp only [List.append_nil] at z
  refine z _ (by simp; omega) (by simp; omega) fun b c d e => ?_
  have e0 : ∀ (N : VEnds) (ε : Ep), vForL (vName 2) lb_Lnested0 [] N ε = N.nx ε := fun _ _ => rfl
  rw [e0]
  simp! only [vTake, lns_fz, frD]
  iterate 3 refine ⟨_, rfl, ?_⟩
  exact q
theorem loop_Lalike {n : Nat} {a b : Option D} {N : VEnds} : ∀ (xs : List D) (u v : Option D), plNL n xs = true →
    (∀ u v, N.nx [a, b, u, v]) → vForL (vNames [2, 3]) (lb_Lalike0 (n + 1)) (zipD xs xs) N [a, b, u, v]
  | [], u, v, _, q => q u v
  | x :: xs, u, v, h, q => by
    rw [plNL] at h
    obtain ⟨h1, h2⟩ := Bool.and_eq_true_iff.mp h
    have zf := plN_fz n _ h1
    show vForL (vNames [2, 3]) (lb_Lalike0 (n + 1)) (D.tup [x, x] :: zipD xs xs) N [a, b, u, v]
    rw [e_forU (lb_Lalike0.eq_1 (n + 1))]
    simp! only [zf]
    refine c_Lalike rfl h1 ?_
    simp! only []
    exact loop_Lalike xs _ _ h2 q
theorem rd_Lalike (n : Nat) : Rd 2 [true, true] 4 (sp_Lalike (n + 1)) (t_Lalike n) := by
  rintro ds Q Ex hl ⟨a, rfl, hk, q⟩
  have q : Q (.bl true) [a, a] := q
  have hk : plN n a = true := hk
  unfold t_Lalike
  cases a with
  | non => cases n <;> simp [plN] at hk
  | bl b => simp! only []; exact q
  | int i => simp! only []; exact q
  | str s => simp! only []; exact q
  | tup xs =>
    cases n with
    | zero => simp [plN] at hk
    | succ n =>
      have hk : (decide (xs.length < 1000000) && plNL n xs) = true := hk
      obtain ⟨h1, h2⟩ := Bool.and_eq_true_iff.mp hk
      have h1 := of_decide_eq_true h1
      have hz2 := plNL_fz h2
      simp! only [hz2, decide_true, Bool.not_true, viZipA]
      refine ⟨xs, xs, .inr ⟨⟨rfl, rfl⟩, hz2, hz2⟩, ?_⟩
      refine loop_Lalike xs none none h2 fun u v => ?_
      simp! only [hz2]
      exact q
  | lst m xs =>
    cases m with
    | true => cases n <;> simp [plN] at hk
    | false =>
      cases n with
      | zero => simp [plN] at hk
      | succ n =>
        have hk : (!false && (decide (xs.length < 1000000) && plNL n xs)) = true := hk
        rw [Bool.not_false, Bool.true_and] at hk
        obtain ⟨h1, h2⟩ := Bool.and_eq_true_iff.mp hk
        have h1 := of_decide_eq_true h1
        have hz2 := plNL_fz h2
        simp! only [hz2, decide_true, Bool.not_true, viZipA]
        refine ⟨xs, xs, .inl ⟨rfl, rfl⟩, ?_⟩
        refine loop_Lalike xs none none h2 fun u v => ?_
        simp! only [hz2]
        exact q
  | _ => cases n <;> simp [plN] at hk
def isDone : Ln → Bool
  | .done => true
  | _ => false
def dpS (x : Int × Int) (l : Ln) : Int × Int := (x.1 + (if opens l = true then 1 else 0) - (if isDone l = true then 1 else 0), max x.2 (x.1 + (if opens l = true then 1 else 0) - (if isDone l = true then 1 else 0)))
theorem dpS_up {c m : Int} {l : Ln} (h1 : opens l = true) (h2 : isDone l = false) : dpS (c, m) l = (c + 1, max m (c + 1)) := by
  unfold dpS
  rw [h1, h2]
  simp
theorem dpS_dn {c m : Int} (h : c ≤ m) : dpS (c, m) .done = (c - 1, m) := by
  unfold dpS
  simp only [opens, isDone]
  refine Prod.ext ?_ ?_
  · simp
  · simp; omega
theorem dpS_no {c m : Int} {l : Ln} (h1 : opens l = false) (h2 : isDone l = false) (h : c ≤ m) : dpS (c, m) l = (c, m) := by
  unfold dpS
  rw [h1, h2]
  refine Prod.ext ?_ ?_
  · simp
  · simp; omega
mutual
theorem dpS_F : ∀ (f : Fm) (c m : Int), c ≤ m → (lnsF f).foldl dpS (c, m) = (c, max m (c + (dpF f : Int)))
  | .sum x a s b, c, m, h => by rw [lnsF, dpF, List.foldl_cons, dpS_no rfl rfl h, List.foldl_nil] <;> first | exact Prod.ext rfl (by simp; omega) | simp
  | .leave n, c, m, h => by rw [lnsF, dpF, List.foldl_cons, dpS_no rfl rfl h, List.foldl_nil] <;> first | exact Prod.ext rfl (by simp; omega) | simp
  | .again n, c, m, h => by rw [lnsF, dpF, List.foldl_cons, dpS_no rfl rfl h, List.foldl_nil] <;> first | exact Prod.ext rfl (by simp; omega) | simp
  | .fin, c, m, h => by rw [lnsF, dpF, List.foldl_cons, dpS_no rfl rfl h, List.foldl_nil] <;> first | exact Prod.ext rfl (by simp; omega) | simp
  | .round n B, c, m, h => by
    rw [lnsF, dpF, List.foldl_cons, dpS_up rfl rfl, List.foldl_append, dpS_L B _ _ (by omega), List.foldl_cons, dpS_dn (by omega), List.foldl_nil]
    exact Prod.ext (by show c + 1 - 1 = c; omega) (by show max (max m (c + 1)) (c + 1 + (dpL B : Int)) = max m (c + ((dpL B + 1 : Nat) : Int)); omega)
  | .part n B, c, m, h => by
    rw [lnsF, dpF, List.foldl_cons, dpS_up rfl rfl, List.foldl_append, dpS_L B _ _ (by omega), List.foldl_cons, dpS_dn (by omega), List.foldl_nil]
    exact Prod.ext (by show c + 1 - 1 = c; omega) (by show max (max m (c + 1)) (c + 1 + (dpL B : Int)) = max m (c + ((dpL B + 1 : Nat) : Int)); omega)
  | .choice a s b Y Z true, c, m, h => by
    rw [lnsF, dpF, if_pos rfl, if_pos rfl, List.foldl_cons, dpS_up rfl rfl, List.foldl_append, dpS_L Y _ _ (by omega), List.cons_append, List.foldl_cons, dpS_no rfl rfl (by omega), List.foldl_append, dpS_L Z _ _ (by omega), List.foldl_cons, dpS_dn (by omega), List.foldl_nil]
    exact Prod.ext (by show c + 1 - 1 = c; omega) (by show max (max (max m (c + 1)) (c + 1 + (dpL Y : Int))) (c + 1 + (dpL Z : Int)) = max m (c + ((max (dpL Y) (dpL Z) + 1 : Nat) : Int)); omega)
  | .choice a s b Y Z false, c, m, h => by
    rw [lnsF, dpF, if_neg (by decide), if_neg (by decide), List.nil_append, List.foldl_cons, dpS_up rfl rfl, List.foldl_append, dpS_L Y _ _ (by omega), List.foldl_cons, dpS_dn (by omega), List.foldl_nil]
    exact Prod.ext (by show c + 1 - 1 = c; omega) (by show max (max m (c + 1)) (c + 1 + (dpL Y : Int)) = max m (c + ((max (dpL Y) 0 + 1 : Nat) : Int)); omega)
theorem dpS_L : ∀ (F : List Fm) (c m : Int), c ≤ m → (lnsL F).foldl dpS (c, m) = (c, max m (c + (dpL F : Int)))
  | [], c, m, h => by rw [lnsL, dpL]; exact Prod.ext rfl (by simp; omega)
  | f :: F, c, m, h => by
    rw [lnsL, dpL, List.foldl_append, dpS_F f c m h, dpS_L F _ _ (by omega)]
    exact Prod.ext rfl (by show max (max m (c + (dpF f : Int))) (c + (dpL F : Int)) = max m (c + ((max (dpF f) (dpL F) : Nat) : Int)); omega)
end
theorem for_Ldepth {a : Option D} {N : VEnds} : ∀ (L : List Ln) (c m : Int) (u : Option D), (∀ u, N.nx [a, some (.int (L.foldl dpS (c, m)).1), some (.int (L.foldl dpS (c, m)).2), u]) → vForL (vName 3) lb_Ldepth0 (L.map lnD) N [a, some (.int c), some (.int m), u]
  | [], c, m, u, q => q u
  | l :: L, c, m, u, q => by
    rw [List.map_cons, e_forU lb_Ldepth0.eq_1]
    have ih := for_Ldepth (a := a) (N := N) L (dpS (c, m) l).1 (dpS (c, m) l).2 (some (lnD l)) q
    simp! only [ln_fz]
    refine c_Lbegins ⟨rfl, ?_⟩
    simp! only [ln_fz, e_intB]
    cases l <;> (simp! only [lnD, lnL, opD_fz, e_intB]; exact ih)
theorem rd_Ldepth : Rd 1 [true] 4 sp_Ldepth t_Ldepth := by
  rintro ds Q Ex hl ⟨F, rfl, few, q⟩
  have q : Q (.int ((dpL F + 1 : Nat) : Int)) [.lst false ((lnsL F).map lnD)] := q
  unfold t_Ldepth
  simp! only [lns_fz]
  refine for_Ldepth (lnsL F) 1 1 none fun u => ?_
  rw [dpS_L F 1 1 (by omega)]
  simp! only [lns_fz]
  rw [show max 1 (1 + (dpL F : Int)) = ((dpL F + 1 : Nat) : Int) by omega]
  exact q
theorem mem_intsL {m : Bool} {us : List Int} {g : Int} {P : Bool → Prop} : (∃ r, memD (.int g) (.lst m (us.map D.int)) = some r ∧ P r) ↔ P (decide (g ∈ us)) := by
  have e1 : ((us.map D.int).any fun y => deq y (.int g)) = decide (g ∈ us) := by
    rw [List.any_map, Bool.eq_iff_iff, List.any_eq_true, decide_eq_true_iff]
    constructor
    · rintro ⟨x, hx, h⟩
      have h : deq (.int x) (.int g) = true := h
      rw [deq_i, decide_eq_true_iff] at h
      rw [← h]; exact hx
    · intro h
      exact ⟨g, h, by show deq (.int g) (.int g) = true; rw [deq_i]; simp⟩
  have e2 : (us.map D.int).all flatD = true := by rw [List.all_map]; simp [flatD]
  have e : memD (.int g) (.lst m (us.map D.int)) = some (decide (g ∈ us)) := by
    show (if (flatD (.int g) && (us.map D.int).all flatD) = true then some ((us.map D.int).any fun y => deq y (.int g)) else _) = _
    rw [if_pos (by rw [e2]; rfl), e1]
  rw [e]
  exact ⟨fun ⟨_, e, p⟩ => by cases e; exact p, fun p => ⟨_, rfl, p⟩⟩
theorem ints_fz (us : List Int) : isFzL (us.map D.int) = true := by rw [isFzL_all]; simp [isFz]
theorem ints_frz (us : List Int) : frzL (us.map D.int) = us.map D.int := frzL_id (ints_fz us)
section
variable {Q : List D → Ep → Prop} {a b c d e f g h : Option D}
theorem lc_Lwrapped0 : ∀ (L : List Ln) (acc : List D), acc.length + L.length < 100000 → Q (acc ++ (homes L).map D.int) [a, b, c, d, none, e, f, g, h] →
    vLcL [4] (vName 4) lt_Lwrapped0 le_Lwrapped0 (L.map lnD) acc [a, b, c, d, none, e, f, g, h] Q
  | [], acc, _, q => by
    have q : Q (acc ++ []) _ := q
    rw [List.append_nil] at q
    exact q
  | l :: L, acc, hl, q => by
    have hl : acc.length + (L.length + 1) < 100000 := hl
    rw [List.map_cons, e_lcU2 le_Lwrapped0.eq_1 lt_Lwrapped0.eq_1]
    have no : homes (l :: L) = homes L → vLcL [4] (vName 4) lt_Lwrapped0 le_Lwrapped0 (L.map lnD) acc [a, b, c, d, none, e, f, g, h] Q := fun z => by
      rw [z] at q
      exact lc_Lwrapped0 L acc (by omega) q
    have yes : ∀ n, homes (l :: L) = n :: homes L → vLcL [4] (vName 4) lt_Lwrapped0 le_Lwrapped0 (L.map lnD) (acc ++ [.int n]) [a, b, c, d, none, e, f, g, h] Q := fun n z => by
      rw [z] at q
      exact lc_Lwrapped0 L _ (by simp; omega) (by simpa using q)
    cases l with
    | round n => simp! only [lnD, lnL]; exact ⟨by omega, yes n rfl⟩
    | part n => simp! only [lnD, lnL]; exact ⟨by omega, yes n rfl⟩
    | _ => simp! only [lnD, lnL, opD_fz]; exact no rfl
theorem lc_Lwrapped2 {us : List Int} : ∀ (xs : List Nat) (acc : List D), acc.length + xs.length < 100000 → Q (acc ++ natsD (xs.filter fun x : Nat => !decide ((x : Int) ∈ us))) [a, b, c, some (.lst false (us.map D.int)), d, e, none, f, g] →
    vLcL [6] (vName 6) lt_Lwrapped2 le_Lwrapped2 (natsD xs) acc [a, b, c, some (.lst false (us.map D.int)), d, e, none, f, g] Q
  | [], acc, _, q => by
    have q : Q (acc ++ []) _ := q
    rw [List.append_nil] at q
    exact q
  | x :: xs, acc, hl, q => by
    have hl : acc.length + (xs.length + 1) < 100000 := hl
    show vLcL [6] (vName 6) lt_Lwrapped2 le_Lwrapped2 (D.int (x : Int) :: natsD xs) acc _ Q
    rw [e_lcU2 le_Lwrapped2.eq_1 lt_Lwrapped2.eq_1]
    simp! only [ints_fz, mem_intsL]
    by_cases z : (x : Int) ∈ us
    · rw [List.filter_cons_of_neg (by simpa using z)] at q
      have ih := lc_Lwrapped2 (us := us) xs acc (by omega) q
      simpa [z] using ih
    · rw [List.filter_cons_of_pos (by simpa using z)] at q
      have ih := lc_Lwrapped2 (us := us) xs (acc ++ [.int (x : Int)]) (by simp; omega) (by simpa [natsD] using q)
      simpa [z] using ⟨by omega, ih⟩
end
theorem filt_split {α : Type} (p : α → Bool) : ∀ xs : List α, xs.length = (xs.filter p).length + (xs.filter fun x => !p x).length
  | [] => rfl
  | x :: xs => by
    have ih := filt_split p xs
    rw [List.filter_cons, List.filter_cons]
    cases p x <;> simp <;> omega
theorem homes_len : ∀ L : List Ln, (homes L).length ≤ L.length
  | [] => Nat.le_refl _
  | l :: L => by
    have ih := homes_len L
    cases l <;> simp [homes] <;> omega
theorem free_len (us : List Int) (n : Nat) : n ≤ ((List.range n).filter fun x : Nat => !decide ((x : Int) ∈ us)).length + us.length := by
  have h := filt_split (fun x : Nat => decide ((x : Int) ∈ us)) (List.range n)
  rw [List.length_range] at h
  have le := nd_sub_len (xs := ((List.range n).filter fun x : Nat => decide ((x : Int) ∈ us)).map fun x : Nat => (x : Int)) (ys := us) ?_ ?_
  · rw [List.length_map] at le
    omega
  · exact List.pairwise_map.mpr ((List.nodup_range.filter _).imp fun {a b} h e => h (by omega))
  · intro x hx
    obtain ⟨y, hy, rfl⟩ := List.mem_map.mp hx
    simpa using (List.mem_filter.mp hy).2
structure WrI (F0 : List Fm) (fr : List Nat) (n d k : Nat) (F : List Fm) : Prop where
  ok : FmG (n + 2 * k) (d + k) F
  hs : ∀ x ∈ homes (lnsL F), x ∈ homes (lnsL F0) ∨ ∃ j y, j < k ∧ fr[j]? = some y ∧ x = ((y : Nat) : Int)
theorem for_Lwrapped {F0 : List Fm} {fr : List Nat} {n d many : Nat} {num : Int} {us : D} (hn : n ≤ 200) (hm : many ≤ 90) (hf : ∀ x ∈ fr, x ≤ 9999 ∧ ((x : Int)) ∉ homes (lnsL F0)) (nd : fr.Nodup) (fl : many ≤ fr.length) {N : VEnds} : ∀ (m k : Nat) (F : List Fm) (u v w : Option D), k + m = many → WrI F0 fr n d k F →
    (∀ F' u v w, FmG (n + 2 * many) (d + many) F' → N.nx [some (.lst false ((lnsL F').map lnD)), some (.int num), some (.int (many : Int)), some us, none, some (.lst false (natsD fr)), u, v, w]) →
    vForL (vName 6) lb_Lwrapped0 (natsD (List.range' k m)) N [some (.lst false ((lnsL F).map lnD)), some (.int num), some (.int (many : Int)), some us, none, some (.lst false (natsD fr)), u, v, w]
  | 0, k, F, u, v, w, hk, I, q => by
    obtain rfl : k = many := by omega
    exact q F u v w I.ok
  | m + 1, k, F, u, v, w, hk, I, q => by
    show vForL (vName 6) lb_Lwrapped0 (D.int (k : Int) :: natsD (List.range' (k + 1) m)) N _
    have hkl : k < fr.length := by omega
    have ek : fr[k]? = some fr[k] := List.getElem?_eq_getElem hkl
    obtain ⟨f1, f2⟩ := hf fr[k] (List.getElem_mem hkl)
    have nw : ((fr[k] : Nat) : Int) ∉ homes (lnsL F) := fun z => by
      rcases I.hs _ z with z | ⟨j, y, hj, hy, e⟩
      · exact f2 z
      · have e2 : fr[k] = y := by omega
        obtain ⟨p1, p2⟩ := List.getElem?_eq_some_iff.mp hy
        have x1 := List.Nodup.idxOf_getElem nd j p1
        have x2 := List.Nodup.idxOf_getElem nd k hkl
        rw [p2, ← e2] at x1
        omega
    have few := I.ok.few
    have old : ∀ x, x ∈ homes (lnsL F) → x ∈ homes (lnsL F0) ∨ ∃ j y, j < k + 1 ∧ fr[j]? = some y ∧ x = ((y : Nat) : Int) := fun x hx => by
      rcases I.hs x hx with h | ⟨j, y, h1, h2, h3⟩
      · exact .inl h
      · exact .inr ⟨j, y, by omega, h2, h3⟩
    have IR : WrI F0 fr n d (k + 1) [.round (fr[k] : Int) F] := ⟨(I.ok.round (by omega) (by omega) nw).up (by omega) (by omega), fun x hx => by
      rw [lnsL_one, homes_round] at hx
      rcases List.mem_cons.mp hx with rfl | hx
      · exact .inr ⟨k, _, by omega, ek, rfl⟩
      · exact old x hx⟩
    have IP : WrI F0 fr n d (k + 1) [.part (fr[k] : Int) F] := ⟨(I.ok.part (by omega) (by omega) nw).up (by omega) (by omega), fun x hx => by
      rw [lnsL_one, homes_part] at hx
      rcases List.mem_cons.mp hx with rfl | hx
      · exact .inr ⟨k, _, by omega, ek, rfl⟩
      · exact old x hx⟩
    have IC : WrI F0 fr n d (k + 1) [.choice (.inl (k : Int)) [61] (.inr [120]) F [] false] := ⟨(I.ok.iff (a := .inl (k : Int)) (b := .inr [120]) (s := [61]) ⟨by show (k : Int).natAbs < _; omega, .inr rfl, ⟨⟨⟨120, [], rfl, rfl⟩, fun c hc => by rw [List.mem_singleton.mp hc]; rfl⟩, by decide, by decide⟩⟩).up (by omega) (by omega), fun x hx => by
      have e : homes (lnsL [.choice (.inl (k : Int)) [61] (.inr [120]) F [] false]) = homes (lnsL F) := by rw [lnsL_one, lnsF, if_neg (by decide)]; show homes (lnsL F ++ [.done]) = _; rw [homes_app]; simp [homes]
      rw [e] at hx
      exact old x hx⟩
    rw [e_forU lb_Lwrapped0.eq_1]
    simp! only [lns_fz, natsD_fz]
    have kk : k * k ≤ 90 * 90 := Nat.mul_le_mul (by omega) (by omega)
    have ck : (k : Int) * (k : Int) = ((k * k : Nat) : Int) := by push_cast; rfl
    have e1 : ∀ (h : Ln) (F' : List Fm), lnsL F' = h :: (lnsL F ++ [Ln.done]) → lnD h :: frzL ((lnsL F).map lnD ++ [D.tup [D.str [100, 111, 110, 101]]]) = (lnsL F').map lnD := fun h F' e => by
      have : (lnsL F).map lnD ++ [D.tup [D.str [100, 111, 110, 101]]] = (lnsL F ++ [Ln.done]).map lnD := by rw [List.map_append]; rfl
      rw [this, lns_frz, e]
      rfl
    have go : ∀ F' u v w, WrI F0 fr n d (k + 1) F' → vForL (vName 6) lb_Lwrapped0 (natsD (List.range' (k + 1) m)) N [some (.lst false ((lnsL F').map lnD)), some (.int num), some (.int (many : Int)), some us, none, some (.lst false (natsD fr)), u, v, w] := fun F' u v w I' =>
      for_Lwrapped hn hm hf nd fl m (k + 1) F' u v w (by omega) I' q
    refine ⟨(cml_l (by omega)).mpr trivial, by rw [ck]; exact cdv_of (by omega) (by omega), ?_⟩
    refine ix_lits (ss := [[112, 97, 114, 116], [105, 102], [114, 111, 117, 110, 100]]) (by simp) fun s hs => ?_
    refine ⟨rfl, (ix_nats ek).mpr ⟨rfl, ?_⟩⟩
    simp only [List.mem_cons, List.not_mem_nil, or_false] at hs
    rcases hs with rfl | rfl | rfl
    · have g := go _ (some (.int (k : Int))) (some (.str [112, 97, 114, 116])) (some (.tup [.str [112, 97, 114, 116], .int ((fr[k] : Nat) : Int)])) IP
      rw [← e1 (.part (fr[k] : Int)) _ (by rw [lnsL_one, lnsF])] at g
      simp! only [lns_fz, natsD_fz]
      exact ⟨by omega, by omega, g⟩
    · have g := go _ (some (.int (k : Int))) (some (.str [105, 102])) (some (.tup [.str [105, 102], .int (k : Int), .str [61], .str [120]])) IC
      rw [← e1 (.iff (.inl (k : Int)) [61] (.inr [120])) _ (by rw [lnsL_one, lnsF, if_neg (by decide)]; rfl)] at g
      simp! only [lns_fz, natsD_fz]
      exact ⟨by omega, by omega, g⟩
    · have g := go _ (some (.int (k : Int))) (some (.str [114, 111, 117, 110, 100])) (some (.tup [.str [114, 111, 117, 110, 100], .int ((fr[k] : Nat) : Int)])) IR
      rw [← e1 (.round (fr[k] : Int)) _ (by rw [lnsL_one, lnsF])] at g
      simp! only [lns_fz, natsD_fz]
      exact ⟨by omega, by omega, g⟩
theorem rd_Lwrapped : Rd 3 [false, true, true] 9 sp_Lwrapped t_Lwrapped := by
  rintro ds Q Ex hl ⟨⟨F, num, many, n, d⟩, rfl, ⟨g, hn, hm⟩, q⟩
  have g : FmG n d F := g
  have hn : n ≤ 200 := hn
  have hm : many ≤ 90 := hm
  have q : ∀ F', FmG (n + 2 * many) (d + many) F' → Q (.lst false ((lnsL F').map lnD)) [.lst false ((lnsL F).map lnD), .int num, .int (many : Int)] := fun F' h => q _ ⟨F', rfl, h⟩
  have few := g.few
  unfold t_Lwrapped
  simp! only [lns_fz]
  refine lc_Lwrapped0 (lnsL F) [] (by simp; omega) ?_
  simp! only [lns_fz, ints_frz, ints_fz]
  have hl := homes_len (lnsL F)
  refine ⟨by omega, by omega, ?_⟩
  rw [show (100 + (many : Int) + ((homes (lnsL F)).length : Int)).toNat = 100 + many + (homes (lnsL F)).length by omega, rngN]
  refine lc_Lwrapped2 _ [] (by simp; omega) ?_
  have fl := free_len (homes (lnsL F)) (100 + many + (homes (lnsL F)).length)
  generalize hf : (List.range (100 + many + (homes (lnsL F)).length)).filter (fun x : Nat => !decide ((x : Int) ∈ homes (lnsL F))) = fr at fl ⊢
  have ff : ∀ x ∈ fr, x ≤ 9999 ∧ ((x : Int)) ∉ homes (lnsL F) := fun x hx => by
    rw [← hf] at hx
    obtain ⟨h1, h2⟩ := List.mem_filter.mp hx
    have := List.mem_range.mp h1
    exact ⟨by omega, by simpa using h2⟩
  have nd : fr.Nodup := by rw [← hf]; exact List.nodup_range.filter _
  rw [List.nil_append]
  simp! only [lns_fz, ints_fz, natsD_frz]
  refine ⟨by omega, by omega, ?_⟩
  rw [rngN, List.range_eq_range']
  refine for_Lwrapped (F0 := F) hn hm ff nd (by omega) many 0 F none none none (by omega) ⟨g, fun x hx => .inl hx⟩ fun F' u v w h => ?_
  simp! only [lns_fz]
  exact q F' h
theorem str_intF {i : Int} (h : i.natAbs < 1000000000000000000) {Q : D → Prop} (q : Q (.str (intC i))) : sStr [.int i] Q := by
  refine e_strI ?_ q
  exact Nat.lt_of_lt_of_le (Nat.lt_trans h (show 1000000000000000000 < 2 ^ 64 by decide)) (Nat.pow_le_pow_right (by decide) (by decide))
theorem str_opdF {a : Opd} (h : OpdOk a) {Q : D → Prop} (q : Q (.str (opC a))) : sStr [opD a] Q := by
  cases a with
  | inl i => exact str_intF h q
  | inr s => exact .inr ⟨s, rfl, q⟩
theorem str_num9 {i : Int} (h : 0 ≤ i ∧ i ≤ 9999) {Q : D → Prop} (q : Q (.str (intC i))) : sStr [.int i] Q := str_intF (by omega) q
theorem rd_Lwords : Rd 1 [true] 3 sp_Lwords t_Lwords := by
  rintro ds Q Ex - ⟨l, rfl, g, q⟩
  have g : LnT l := g
  have q : Q (.str (txtL l)) [lnD l] := q
  have tl := txt_len g
  have two : ∀ (w : Cs) (n : Int) (d : D), w.length ≤ 5 → (0 ≤ n ∧ n ≤ 9999) → d = .tup [.str w, .int n] → Q (.str (TL.joinL [32] [w, intC n])) [d] → vLcL [2] (vName 2) vYes le_Lwords0 [D.str w, D.int n] [] [some d, none, none]
    (fun acc ε' => sJoinA [32] [D.lst true acc] fun x => 1 ≤ List.length ε' ∧ Q x (finalL [true] [d] ε')) := fun w n d hw hn hd q => by
    subst hd
    have li := int_len hn
    rw [e_lcU le_Lwords0.eq_1]
    simp! only []
    rw [e_lcU le_Lwords0.eq_1]
    simp! only []
    refine str_num9 hn ?_
    simp! only []
    show sJoinA [32] [.lst true (strsD [w, intC n])] _
    refine e_joinA.mpr ⟨by simp; omega, (by show 1 ≤ 3; decide), q⟩
  unfold t_Lwords
  cases l with
  | iff a s b =>
    obtain ⟨g1, g2, g3⟩ := g
    have l3 := opC_len g1
    have l4 := opC_len g3
    have l5 := test_len g2
    simp! only [lnD, lnL, opD_fz]
    refine str_opdF g1 ?_
    simp! only []
    refine ⟨by first | omega | (simp; omega), by first | omega | (simp; omega), by first | omega | (simp; omega), by first | omega | (simp; omega), ?_⟩
    refine str_opdF g3 ?_
    simp! only []
    refine ⟨by simp; omega, ?_⟩
    have e : 105 :: 102 :: 32 :: (opC a ++ [32] ++ s ++ [32] ++ opC b) = txtL (.iff a s b) := by simp [txtL, wdL, TL.joinL]
    rw [e]
    exact q
  | sum x a s b =>
    obtain ⟨g0, g1, g2, g3⟩ := g
    simp! only [lnD, lnL, opD_fz]
    refine str_opdF g1 ?_
    refine str_opdF g3 ?_
    refine ⟨rfl, ?_⟩
    have l2 : x.length ≤ 8 := g0.2.1
    have l3 := opC_len g1
    have l4 := opC_len g3
    have l5 := sign_len g2
    show sJoinA [32] [.lst false (strsD (wdL (.sum x a s b)))] _
    exact e_joinA.mpr ⟨by simp [wdL]; omega, q⟩
  | round n => simp! only [lnD, lnL]; exact two _ n _ (by decide) g rfl q
  | part n => simp! only [lnD, lnL]; exact two _ n _ (by decide) g rfl q
  | leave n => simp! only [lnD, lnL]; exact two _ n _ (by decide) g rfl q
  | again n => simp! only [lnD, lnL]; exact two _ n _ (by decide) g rfl q
  | fin =>
    simp! only [lnD, lnL]
    rw [e_lcU le_Lwords0.eq_1]
    simp! only []
    rw [e_lcNil]
    show sJoinA [32] [.lst true (strsD [cEnd])] _
    exact e_joinA.mpr ⟨by simp, (by show 1 ≤ 3; decide), q⟩
  | els =>
    simp! only [lnD, lnL]
    rw [e_lcU le_Lwords0.eq_1]
    simp! only []
    rw [e_lcNil]
    show sJoinA [32] [.lst true (strsD [cElse])] _
    exact e_joinA.mpr ⟨by simp, (by show 1 ≤ 3; decide), q⟩
  | done =>
    simp! only [lnD, lnL]
    rw [e_lcU le_Lwords0.eq_1]
    simp! only []
    rw [e_lcNil]
    show sJoinA [32] [.lst true (strsD [cDone])] _
    exact e_joinA.mpr ⟨by simp, (by show 1 ≤ 3; decide), q⟩
theorem strsD_appF (a b : List Cs) : strsD a ++ strsD b = strsD (a ++ b) := by unfold strsD; rw [List.map_append]
theorem rep_esF (n : Nat) : (List.replicate n [D.str []]).flatten = strsD (List.replicate n []) := by
  induction n with
  | zero => rfl
  | succ n ih => rw [List.replicate_succ, List.flatten_cons, ih]; rfl
theorem mul_esF {z : Int} (h0 : 0 ≤ z) (h1 : z ≤ 2) {Q : D → Prop} (q : ∀ n : Nat, n ≤ 2 → Q (.lst true (strsD (List.replicate n [])))) : sMul [.lst true [.str []], .int z] Q := by
  refine .inr ⟨[.str []], z, rfl, rfl, by omega, by simp; omega, by omega, ?_⟩
  rw [rep_esF]
  exact q _ (by omega)
/-- lines so far -/
structure SprI (ls : List Cs) (L : List Ln) (i : Nat) : Prop where
  lns : (ls.map fun l => lstC l [32]).filter (fun l => decide (l ≠ [])) = (L.take i).map txtL
  free : ∀ l ∈ ls, 10 ∉ l ∧ l.length ≤ 100
  few : ls.length ≤ 2 * i
theorem SprI.blank {ls : List Cs} {L : List Ln} {i k : Nat} (I : SprI ls L i) (hk : k ≤ 20) : ((ls ++ [List.replicate k 32]).map fun l => lstC l [32]).filter (fun l => decide (l ≠ [])) = (L.take i).map txtL ∧ (∀ l ∈ ls ++ [List.replicate k 32], 10 ∉ l ∧ l.length ≤ 100) := by
  refine ⟨?_, fun l hl => ?_⟩
  · rw [List.map_append, List.filter_append, I.lns]
    show _ ++ ([lstC (List.replicate k 32) [32]]).filter _ = _
    rw [lst_none]
    exact List.append_nil _
  · rcases List.mem_append.mp hl with hl | hl
    · exact I.free l hl
    · rw [List.mem_singleton.mp hl]
      exact ⟨fun z => by have := List.eq_of_mem_replicate z; omega, by simp; omega⟩
theorem spr_line {ls : List Cs} {L : List Ln} {i k : Nat} (h1 : (ls.map fun l => lstC l [32]).filter (fun l => decide (l ≠ [])) = (L.take i).map txtL) (h2 : ∀ l ∈ ls, 10 ∉ l ∧ l.length ≤ 100) (h3 : ls.length ≤ 2 * i + 1) (hi : i < L.length) (hk : k ≤ 10) (g : LnT L[i]) :
    SprI (ls ++ [List.replicate k 32 ++ txtL L[i]]) L (i + 1) := by
  have tl := txt_len g
  have tf := txt_free g
  refine ⟨?_, fun l hl => ?_, by simp; omega⟩
  · rw [List.map_append, List.filter_append, h1, List.take_succ_eq_append_getElem hi, List.map_append]
    show _ ++ ([lstC (List.replicate k 32 ++ txtL L[i]) [32]]).filter _ = _
    rw [lst_blank k g, List.filter_cons_of_pos (by simpa using txt_ne g)]
    rfl
  · rcases List.mem_append.mp hl with hl | hl
    · exact h2 l hl
    · rw [List.mem_singleton.mp hl]
      refine ⟨fun z => ?_, by simp; omega⟩
      rcases List.mem_append.mp z with z | z
      · have := List.eq_of_mem_replicate z; omega
      · exact tf z
theorem for_Lspread {s : List Int} {L : List Ln} (h1 : s.length ≤ 63) (hL : L.length ≤ 1000) (ok : ∀ l ∈ L, LnT l) {N : VEnds} : ∀ (m i : Nat) (ls : List Cs) (u v : Option D), i + m = L.length → SprI ls L i →
    (∀ ls u v, SprI ls L L.length → N.nx [some (scriptD s), some (.lst false (L.map lnD)), some (.lst true (strsD ls)), u, v]) →
    vForL (vName 3) lb_Lspread0 (natsD (List.range' i m)) N [some (scriptD s), some (.lst false (L.map lnD)), some (.lst true (strsD ls)), u, v]
  | 0, i, ls, u, v, hi, I, q => by
    obtain rfl : i = L.length := by omega
    exact q ls u v I
  | m + 1, i, ls, u, v, hi, I, q => by
    have hx : L[i]? = some L[i] := List.getElem?_eq_getElem (by omega)
    have ek : (L.map lnD)[i]? = some (lnD L[i]) := by rw [List.getElem?_map, hx]; rfl
    have g := ok _ (List.getElem_mem (show i < L.length by omega))
    have few := I.few
    show vForL (vName 3) lb_Lspread0 (D.int (i : Int) :: natsD (List.range' (i + 1) m)) N _
    rw [e_forU lb_Lspread0.eq_1]
    simp! only [script_fz, lns_fz]
    refine c_Lmix (k := 300 + (i : Int)) ⟨h1, by omega, by omega⟩ ?_
    have go : ∀ (ls' : List Cs) (u v : Option D), SprI ls' L (i + 1) → vForL (vName 3) lb_Lspread0 (natsD (List.range' (i + 1) m)) N [some (scriptD s), some (.lst false (L.map lnD)), some (.lst true (strsD ls')), u, v] := fun ls' u v I' =>
      for_Lspread h1 hL ok m (i + 1) ls' u v (by omega) I' q
    simp! only [script_fz, lns_fz]
    have z0 : 0 ≤ mixI s (300 + (i : Int)) / 8 / 5 % 3 := by omega
    have z1 : mixI s (300 + (i : Int)) / 8 / 5 % 3 < 3 := by omega
    have z2 : 0 ≤ mixI s (300 + (i : Int)) / 8 / 16 % 7 := by omega
    have z3 : mixI s (300 + (i : Int)) / 8 / 16 % 7 < 7 := by omega
    generalize mixI s (300 + (i : Int)) / 8 / 5 % 3 = b1 at z0 z1 ⊢
    generalize mixI s (300 + (i : Int)) / 8 / 16 % 7 = b2 at z2 z3 ⊢
    have tl := txt_len g
    have fin : ∀ (ls' : List Cs) (v : Option D), (ls'.map fun l => lstC l [32]).filter (fun l => decide (l ≠ [])) = (L.take i).map txtL → (∀ l ∈ ls', 10 ∉ l ∧ l.length ≤ 100) → ls'.length ≤ 2 * i + 1 →
        vForL (vName 3) lb_Lspread0 (natsD (List.range' (i + 1) m)) N [some (scriptD s), some (.lst false (L.map lnD)), some (.lst true (strsD ls' ++ [D.str (List.replicate b2.toNat 32 ++ txtL L[i])])), some (.int (i : Int)), v] := fun ls' v a1 a2 a3 => by
      have := go (ls' ++ [List.replicate b2.toNat 32 ++ txtL L[i]]) (some (.int (i : Int))) v (spr_line a1 a2 a3 (by omega) (by omega) g)
      rw [← strsD_appF] at this
      exact this
    split
    · refine e_mulS.mpr ⟨by omega, by omega, by decide, by rw [strs_len]; omega, ?_⟩
      refine e_mulS.mpr ⟨by omega, by omega, by decide, _, (by rw [ixN_nat (by omega)]; exact ek), ln_fz _, ?_⟩
      refine c_Lwords g ⟨rfl, ?_⟩
      rw [rep_one, rep_two]
      simp! only [script_fz, lns_fz]
      obtain ⟨p1, p2⟩ := I.blank (k := 2 * b1.toNat) (by omega)
      have := fin (ls ++ [List.replicate (2 * b1.toNat) 32]) (some (.int (mixI s (300 + (i : Int)) / 8))) p1 p2 (by simp; omega)
      rw [← strsD_appF] at this
      exact ⟨by simp; omega, by simp [strs_len]; omega, this⟩
    · refine e_mulS.mpr ⟨by omega, by omega, by decide, _, (by rw [ixN_nat (by omega)]; exact ek), ln_fz _, ?_⟩
      refine c_Lwords g ⟨rfl, ?_⟩
      rw [rep_one]
      simp! only [script_fz, lns_fz]
      have := fin ls (some (.int (mixI s (300 + (i : Int)) / 8))) I.lns I.free (by omega)
      exact ⟨by simp; omega, by simp [strs_len]; omega, this⟩
theorem rd_Lspread : Rd 2 [true, true] 5 sp_Lspread t_Lspread := by
  rintro ds Q Ex - ⟨⟨s, L⟩, rfl, ⟨h1, h2, h3⟩, q⟩
  have h1 : s.length ≤ 63 := h1
  have h2 : L.length ≤ 1000 := h2
  have h3 : ∀ l ∈ L, LnT l := h3
  have q : ∀ ls, SprOk ls L → Q (.str (TL.joinL [10] ls)) [scriptD s, .lst false (L.map lnD)] := fun ls g => q _ ⟨ls, rfl, g⟩
  unfold t_Lspread
  simp! only [script_fz, lns_fz]
  refine ⟨by omega, by omega, ?_⟩
  rw [show ((L.length : Int)).toNat = L.length by omega, rngN, List.range_eq_range']
  refine for_Lspread h1 h2 h3 L.length 0 [] none none (by omega) ⟨rfl, fun _ h => (nomatch h), Nat.le_refl _⟩ fun ls u v I => ?_
  have few := I.few
  simp! only [script_fz, lns_fz]
  refine c_Lmix ⟨h1, by omega, by omega⟩ ?_
  simp! only [script_fz, lns_fz]
  refine mul_esF (by omega) (by omega) fun n hn => ?_
  simp! only [script_fz, lns_fz, strsD_appF]
  have al : ∀ l ∈ ls ++ List.replicate n [], 10 ∉ l ∧ l.length ≤ 100 := fun l hl => by
    rcases List.mem_append.mp hl with h | h
    · exact I.free l h
    · rw [List.eq_of_mem_replicate h]; exact ⟨(fun z => nomatch z), Nat.zero_le _⟩
  have sm := sum_le (k := 100) (xs := ls ++ List.replicate n []) fun l hl => (al l hl).2
  have ln : (ls ++ List.replicate n []).length ≤ 2 * L.length + 2 := by rw [List.length_append, List.length_replicate]; omega
  refine ⟨by rw [strs_len, strs_len, List.length_replicate]; omega, ?_, q _ ⟨?_, al, ln⟩⟩
  · have : (ls ++ List.replicate n []).length * 100 ≤ 2002 * 100 := Nat.mul_le_mul_right _ (by omega)
    omega
  · have e := I.lns
    rw [List.take_length] at e
    rw [List.map_append, List.filter_append, e]
    have : ((List.replicate n ([] : Cs)).map fun l => lstC l [32]).filter (fun l => decide (l ≠ [])) = [] := by
      rw [List.filter_eq_nil_iff]
      intro a ha
      obtain ⟨b, hb, rfl⟩ := List.mem_map.mp ha
      rw [List.eq_of_mem_replicate hb]
      decide
    rw [this, List.append_nil]
mutual
theorem fm_plain : ∀ (f : Fm) (n : Nat), (lnsF f).length < 100000 → 2 * dpF f + 3 ≤ n → plN n (fmD f) = true
  | .sum x a s b, n, h, hn => by
    obtain ⟨m, rfl⟩ : ∃ m, n = m + 2 := ⟨n - 2, by omega⟩
    have k : ∀ a : Opd, plN (m + 1) (opD a) = true := fun a => by cases a <;> rfl
    rw [fmD]; simp [plN, plNL, k]
  | .leave i, n, h, hn => by
    obtain ⟨m, rfl⟩ : ∃ m, n = m + 2 := ⟨n - 2, by omega⟩
    rw [fmD]; rfl
  | .again i, n, h, hn => by
    obtain ⟨m, rfl⟩ : ∃ m, n = m + 2 := ⟨n - 2, by omega⟩
    rw [fmD]; rfl
  | .fin, n, h, hn => by
    obtain ⟨m, rfl⟩ : ∃ m, n = m + 2 := ⟨n - 2, by omega⟩
    rw [fmD]; rfl
  | .round i B, n, h, hn => by
    rw [dpF] at hn
    obtain ⟨m, rfl⟩ : ∃ m, n = m + 2 := ⟨n - 2, by omega⟩
    rw [lnsF] at h
    have ih := fms_plain B m (by simp at h; omega) (by omega)
    rw [fmD]
    show (decide (3 < 1000000) && plNL (m + 1) [.str cRound, .int i, .lst false (fmsD B)]) = true
    simp only [plNL, Bool.and_true, Bool.true_and, Nat.reduceLT, decide_true]
    have e1 : plN (m + 1) (.lst false (fmsD B)) = true := ih
    rw [e1]
    rfl
  | .part i B, n, h, hn => by
    rw [dpF] at hn
    obtain ⟨m, rfl⟩ : ∃ m, n = m + 2 := ⟨n - 2, by omega⟩
    rw [lnsF] at h
    have ih := fms_plain B m (by simp at h; omega) (by omega)
    rw [fmD]
    show (decide (3 < 1000000) && plNL (m + 1) [.str cPart, .int i, .lst false (fmsD B)]) = true
    simp only [plNL, Bool.and_true, Bool.true_and, Nat.reduceLT, decide_true]
    have e1 : plN (m + 1) (.lst false (fmsD B)) = true := ih
    rw [e1]
    rfl
  | .choice a s b Y Z e, n, h, hn => by
    rw [dpF] at hn
    obtain ⟨m, rfl⟩ : ∃ m, n = m + 2 := ⟨n - 2, by omega⟩
    rw [lnsF] at h
    have ih := fms_plain Y m (by simp at h; omega) (by omega)
    have ih2 : plN (m + 1) (.lst false (if e = true then fmsD Z else [])) = true := by
      cases e with
      | true => exact fms_plain Z m (by simp at h; omega) (by simp at hn; omega)
      | false => show (!false && (decide (0 < 1000000) && plNL m [])) = true; rw [plNL]; rfl
    have k : ∀ a : Opd, plN (m + 1) (opD a) = true := fun a => by cases a <;> rfl
    have k2 : ∀ c : Cs, plN (m + 1) (.str c) = true := fun c => rfl
    have e1 : plN (m + 1) (.lst false (fmsD Y)) = true := ih
    rw [fmD]
    show (decide (6 < 1000000) && plNL (m + 1) [.str cChoice, opD a, .str s, opD b, .lst false (fmsD Y), .lst false (if e = true then fmsD Z else [])]) = true
    simp only [plNL, k, k2, e1, ih2, Bool.and_true, Bool.true_and, Nat.reduceLT, decide_true]
theorem fms_plain : ∀ (F : List Fm) (n : Nat), (lnsL F).length < 100000 → 2 * dpL F + 3 ≤ n → plN (n + 1) (.lst false (fmsD F)) = true
  | [], n, h, hn => by show (!false && (decide ((fmsD []).length < 1000000) && plNL n (fmsD []))) = true; rw [fmsD, plNL]; rfl
  | f :: F, n, h, hn => by
    rw [lnsL, List.length_append] at h
    rw [dpL] at hn
    have h1 := fm_plain f n (by omega) (by omega)
    have h2 := fms_plain F n (by omega) (by omega)
    have h2 : (!false && (decide ((fmsD F).length < 1000000) && plNL n (fmsD F))) = true := h2
    have l : (fmsD (f :: F)).length < 1000000 := by
      have := lnsL_len (f :: F)
      rw [lnsL, List.length_append] at this
      rw [fmsD_map, List.length_map]
      omega
    show (!false && (decide ((fmsD (f :: F)).length < 1000000) && plNL n (fmsD (f :: F)))) = true
    rw [decide_eq_true l, fmsD, plNL, h1]
    simp only [Bool.not_false, Bool.true_and, Bool.and_eq_true] at h2 ⊢
    exact h2.2
end
/-- so many sums behind -/
def sumX (k : Nat) : Ln := .sum [120] (.inr [120]) [43] (.inl (k : Int))
def sumF (k : Nat) : Fm := .sum [120] (.inr [120]) [43] (.inl (k : Int))
theorem x_ok : NameOk [120] := ⟨⟨⟨120, [], rfl, rfl⟩, fun c hc => by rw [List.mem_singleton.mp hc]; rfl⟩, by decide, by decide⟩
theorem sumX_ok {k : Nat} (h : k < 1000) : LnOk (sumX k) := ⟨x_ok, x_ok, .inl rfl, by show (k : Int).natAbs < _; omega⟩
theorem lns_sums (k : Nat) : ∀ m : Nat, lnsL (List.replicate m (sumF k)) = List.replicate m (sumX k)
  | 0 => by rw [List.replicate_zero, lnsL]; rfl
  | m + 1 => by rw [List.replicate_succ, lnsL, lns_sums k m, sumF, lnsF]; rfl
theorem snd_sums (k : Nat) (W R U : List Int) : ∀ m : Nat, sndL W R U (List.replicate m (sumF k)) = some U
  | 0 => by rw [List.replicate_zero, sndL]
  | m + 1 => by rw [List.replicate_succ, sndL, sumF, sndF]; exact snd_sums k W R U m
theorem dp_sums (k : Nat) : ∀ m : Nat, dpL (List.replicate m (sumF k)) = 0
  | 0 => by rw [List.replicate_zero, dpL]
  | m + 1 => by
    have e : dpF (sumF k) = 0 := by rw [sumF, dpF] <;> simp
    rw [List.replicate_succ, dpL, dp_sums k m, e]
    rfl
theorem dpL_app : ∀ (F G : List Fm), dpL (F ++ G) = max (dpL F) (dpL G)
  | [], G => by rw [List.nil_append, dpL]; omega
  | f :: F, G => by rw [List.cons_append, dpL, dpL, dpL_app F G]; omega
theorem homes_sums (k : Nat) : ∀ m : Nat, homes (List.replicate m (sumX k)) = []
  | 0 => rfl
  | m + 1 => by rw [List.replicate_succ]; exact homes_sums k m
theorem fmg_sums {n d : Nat} {F : List Fm} (g : FmG n d F) {k m : Nat} (hk : k < 1000) : FmG (n + m) d (F ++ List.replicate m (sumF k)) := by
  refine ⟨?_, ?_, ?_, ?_, ?_⟩
  · obtain ⟨V, hV⟩ := Option.ne_none_iff_exists'.mp g.sd
    rw [sndL_app, hV, Option.bind_some, snd_sums]
    exact fun z => nomatch z
  · intro l hl
    rw [lnsL_app, lns_sums] at hl
    rcases List.mem_append.mp hl with hl | hl
    · exact g.ln l hl
    · rw [List.eq_of_mem_replicate hl]; exact sumX_ok hk
  · rw [lnsL_app, lns_sums, homes_app, homes_sums, List.append_nil]
    exact g.nd
  · rw [lnsL_app, lns_sums, List.length_append, List.length_replicate]
    have := g.few
    omega
  · rw [dpL_app, dp_sums]
    have := g.dp
    omega
/-- the drawn lines as a text -/
theorem spr_txt {ls : List Cs} {F : List Fm} (g : FmG 400 89 F) (I : SprOk ls (lnsL F)) : ∃ ls', TL.joinL [10] ls = TL.joinL [10] ls' ∧ FTxt ls' F := by
  have few := g.few
  have lf := I.few
  have sm := sum_le (k := 100) (xs := ls) fun l hl => (I.free l hl).2
  have jl := join_len [10] ls
  have l1 : ls.length * 100 ≤ 802 * 100 := Nat.mul_le_mul_right _ (by omega)
  have l2 : ls.length * ([10] : Cs).length = ls.length := by simp
  by_cases z : ls = []
  · subst z
    refine ⟨[[]], rfl, by simp, by decide, fun l hl => by rw [List.mem_singleton.mp hl]; exact ⟨(fun z => nomatch z), by decide⟩, ?_, g, by decide⟩
    rw [← I.lns]
    rfl
  · exact ⟨ls, rfl, z, by omega, fun l hl => ⟨(I.free l hl).1, by have := (I.free l hl).2; omega⟩, I.lns, g, by omega⟩
/-- the other form -/
theorem oth_txt {n : Int} (h : 0 ≤ n ∧ n ≤ 9999) : FTxt [txtL (.round n), List.replicate 1 32 ++ txtL (.again n), txtL .done] [.round n [.again n]] := by
  have g1 : LnT (.round n) := h
  have g2 : LnT (.again n) := h
  have g3 : LnT .done := trivial
  have e : lnsL [.round n [.again n]] = [.round n, .again n, .done] := by rw [lnsL_one, lnsF, lnsL_one, lnsF]; rfl
  refine ⟨by simp, by show 3 < 100000; decide, fun l hl => ?_, ?_, ⟨?_, fun l hl => ?_, ?_, ?_, ?_⟩, ?_⟩
  · simp only [List.mem_cons, List.not_mem_nil, or_false] at hl
    rcases hl with rfl | rfl | rfl
    · exact ⟨txt_free g1, by have := txt_len g1; omega⟩
    · refine ⟨fun z => ?_, by have := txt_len g2; simp; omega⟩
      rcases List.mem_append.mp z with z | z
      · have := List.eq_of_mem_replicate z; omega
      · exact txt_free g2 z
    · exact ⟨txt_free g3, by have := txt_len g3; omega⟩
  · have e1 := lst_blank 0 g1
    have e2 := lst_blank 1 g2
    have e3 := lst_blank 0 g3
    rw [List.replicate_zero, List.nil_append] at e1 e3
    rw [e, List.map_cons, List.map_cons, List.map_cons, e1, e2, e3, List.map_nil, List.filter_cons_of_pos (by simpa using txt_ne g1), List.filter_cons_of_pos (by simpa using txt_ne g2), List.filter_cons_of_pos (by simpa using txt_ne g3)]
    rfl
  · rw [sndL, sndF, if_neg (by simp; omega), sndL, sndF, if_pos (by simp), Option.bind_some, sndL, Option.bind_some, sndL]
    exact fun z => nomatch z
  · rw [e] at hl
    simp only [List.mem_cons, List.not_mem_nil, or_false] at hl
    rcases hl with rfl | rfl | rfl <;> trivial
  · rw [e]; exact List.nodup_cons.mpr ⟨(fun z => nomatch z), List.nodup_nil⟩
  · rw [e]; show 3 ≤ 400; decide
  · have e1 : dpF (.again n) = 0 := by rw [dpF] <;> simp
    have e2 : dpL [Fm.again n] = 0 := by rw [dpL, e1, dpL]; rfl
    rw [dpL, dpF, e2, dpL]
    decide
  · have l1 := txt_len g1
    have l2 := txt_len g2
    have l3 := txt_len g3
    simp [TL.joinL]
    omega
theorem rep_flat {α : Type} (d : α) : ∀ n : Nat, (List.replicate n [d]).flatten = List.replicate n d
  | 0 => rfl
  | n + 1 => by rw [List.replicate_succ, List.flatten_cons, rep_flat d n]; rfl
theorem rd_law : Rd 1 [true] 9 sp_law t_law := by
  rintro ds Q Ex - ⟨ns, rfl, ⟨hn, _⟩, q⟩
  have hn : ns.length ≤ 63 := hn
  have q : Q (.bl true) [scriptD ns] := q
  have eLen : ∀ Q, sLen [scriptD ns] Q ↔ Q (.int (ns.length : Int)) := fun Q => by
    show sLen [.lst false (ns.map D.int)] Q ↔ _
    rw [e_lenL, List.length_map]
  obtain ⟨mm, hmm, hm2⟩ : ∃ mm : Nat, max (1 : Int) (min (ns.length : Int) 60) = (mm : Int) ∧ mm ≤ 60 := ⟨(max (1 : Int) (min (ns.length : Int) 60)).toNat, by omega, by omega⟩
  unfold t_law
  simp! only [script_fz, eLen]
  rw [hmm]
  refine c_Llines ⟨hn, hm2⟩ fun L gL => ⟨rfl, ?_⟩
  obtain ⟨F0, rfl⟩ := form_of gL.runs
  have g0 := gen_fmg gL
  have few0 := g0.few
  simp! only [script_fz, lns_frz]
  generalize hN : (VEnds.mk _ _ _ _ _ : VEnds) = N
  have qN : ∀ a b c d e f g h, N.rt (.bl true) [some (scriptD ns), a, b, c, d, e, f, g, h] := fun a b c d e f g h => by
    rw [← hN]
    simp! only [script_fz]
    exact q
  have S : ∀ F u v, FmG 400 89 F → tb_law4 N [some (scriptD ns), some (.lst false ((lnsL F).map lnD)), u, v, none, none, none, none, none] := fun F u v g => by
    have few := g.few
    have dp := g.dp
    have pl := fms_plain F 188 (by omega) (by omega)
    unfold tb_law4
    simp! only [script_fz, lns_fz]
    refine c_Lspread ⟨hn, by omega, g.lnt⟩ fun ls I => ⟨rfl, ?_⟩
    unfold tb_law5
    simp! only [script_fz, lns_fz]
    refine c_Lnested (by omega) ⟨rfl, ?_⟩
    unfold tb_law6
    simp! only [script_fz, lns_fz, fms_frz]
    obtain ⟨ls', ej, T⟩ := spr_txt g I
    refine c_read_form ej T ⟨rfl, ?_⟩
    unfold tb_law7
    simp! only [script_fz, lns_fz, fms_frz, fms_fz]
    refine ⟨.lst false (fmsD F), rfl, pl, true, rfl, ite_no (by decide) ?_⟩
    unfold tb_law8
    simp! only [script_fz, lns_fz, fms_frz, fms_fz]
    refine c_Lmix ⟨hn, by decide, by decide⟩ ⟨rfl, ?_⟩
    simp! only [script_fz, lns_fz, fms_frz, fms_fz]
    have n0 : 0 ≤ mixI ns 953 % 10000 ∧ mixI ns 953 % 10000 ≤ 9999 := by omega
    generalize mixI ns 953 % 10000 = n at n0 ⊢
    have il := int_len n0
    unfold tb_law9
    simp! only [script_fz, lns_fz, fms_frz, fms_fz]
    refine str_num9 n0 ?_
    simp! only []
    refine ⟨by first | omega | (simp; omega), by first | omega | (simp; omega), ?_⟩
    refine str_num9 n0 ?_
    simp! only []
    refine ⟨by first | omega | (simp; omega), by first | omega | (simp; omega), ?_⟩
    refine c_read_form (by simp [txtL, wdL, TL.joinL]) (oth_txt n0) ⟨rfl, ?_⟩
    simp! only [script_fz, lns_fz, fms_frz, fms_fz]
    unfold tb_law10
    have e7 : D.lst false [D.tup [D.str [114, 111, 117, 110, 100], D.int n, D.lst false [D.tup [D.str [97, 103, 97, 105, 110], D.int n]]]] = .lst false (fmsD [.round n [.again n]]) := by
      rw [fmsD_map]
      show _ = D.lst false [fmD (.round n [.again n])]
      rw [fmD, fmsD_map]
      show _ = D.lst false [D.tup [_, _, D.lst false [fmD (.again n)]]]
      rw [fmD]
    simp! only [script_fz, lns_fz, fms_frz, fms_fz]
    have p7 := fms_plain [.round n [.again n]] 188 (by have := (oth_txt n0).ok.few; omega) (by have := (oth_txt n0).ok.dp; omega)
    rw [← e7]
    rw [← e7] at p7
    refine c_Lalike rfl p7 ⟨rfl, true, rfl, ite_no (by decide) ?_⟩
    simp! only [script_fz, lns_fz, fms_frz, fms_fz]
    refine ⟨.lst false (fmsD F), rfl, pl, true, rfl, ite_no (by decide) ?_⟩
    unfold tb_law11
    simp! only [script_fz, lns_fz, fms_frz, fms_fz]
    refine ⟨_, _, rfl, ?_⟩
    unfold tb_law12
    simp! only [script_fz, lns_fz, fms_frz, fms_fz]
    refine c_read_form ej T ⟨rfl, ?_⟩
    simp! only [script_fz, lns_fz, fms_frz, fms_fz]
    refine c_Lalike rfl pl ⟨rfl, ?_⟩
    simp! only [script_fz]
    exact qN _ _ _ _ _ _ _ _
  unfold tb_law1
  simp! only [script_fz, lns_fz]
  refine c_Lmix ⟨hn, by decide, by decide⟩ ⟨rfl, ?_⟩
  simp! only [script_fz, lns_fz]
  have S3 : ∀ F v, (v ≠ 2 ∨ FmG 121 60 F) → FmG 400 89 F → tb_law3 N [some (scriptD ns), some (.lst false ((lnsL F).map lnD)), some (.int v), none, none, none, none, none, none] := fun F v hv g => by
    have few := g.few
    unfold tb_law3
    simp! only [script_fz, lns_fz]
    by_cases z : v = 2
    · subst z
      refine ite_yes rfl ?_
      rcases hv with h | g1
      · exact absurd rfl h
      have few1 := g1.few
      refine c_Lmix ⟨hn, by decide, by decide⟩ ⟨rfl, ?_⟩
      simp! only [script_fz, lns_fz]
      obtain ⟨k, hk, hk2⟩ : ∃ k : Nat, 400 - ((lnsL F).length : Int) - mixI ns 952 / 8 % 3 = (k : Int) ∧ k + (lnsL F).length ≤ 400 := ⟨(400 - ((lnsL F).length : Int) - mixI ns 952 / 8 % 3).toNat, by omega, by omega⟩
      rw [hk]
      have el : D.tup [D.str [115, 117, 109], D.str [120], D.str [120], D.str [43], D.int (k : Int)] = lnD (sumX k) := rfl
      refine .inr ⟨_, _, rfl, by rw [el]; simp [isFzL, ln_fz], by omega, by simp; omega, by omega, ?_⟩
      rw [el, rep_flat, Int.toNat_natCast]
      show sAdd [D.lst false ((lnsL F).map lnD), D.lst true (List.replicate k (lnD (sumX k)))] _
      rw [e_addL]
      have em : List.replicate k (lnD (sumX k)) = (List.replicate k (sumX k)).map lnD := by rw [List.map_replicate]
      rw [em, ← List.map_append, ← lns_sums k k, ← lnsL_app]
      refine ⟨⟨lns_fz _, lns_fz _, by rw [lns_sums]; simp; omega⟩, ?_⟩
      rw [show frz (D.lst true ((lnsL (F ++ List.replicate k (sumF k))).map lnD)) = .lst false ((lnsL (F ++ List.replicate k (sumF k))).map lnD) by show D.lst false (frzL _) = _; rw [lns_frz]]
      have gs := fmg_sums g1 (k := k) (m := k) (by omega)
      have gl : (lnsL (F ++ List.replicate k (sumF k))).length ≤ 400 := by rw [lnsL_app, lns_sums]; simp; omega
      exact S _ _ _ ⟨gs.sd, gs.ln, gs.nd, gl, by have := gs.dp; omega⟩
    · exact ite_no z (S F _ _ g)
  unfold tb_law2
  simp! only [script_fz, lns_fz]
  by_cases z : mixI ns 951 / 8 % 8 = 1
  · refine ite_yes z ?_
    refine c_Lmix ⟨hn, by decide, by decide⟩ ⟨rfl, ?_⟩
    simp! only [script_fz, lns_fz]
    refine c_Ldepth (by omega) ⟨rfl, ?_⟩
    have em : (90 : Int) - ((dpL F0 + 1 : Nat) : Int) = ((89 - dpL F0 : Nat) : Int) := by have := g0.dp; omega
    simp! only [script_fz, lns_fz]
    rw [em]
    refine c_Lwrapped (d := dpL F0) ⟨g0.sd, g0.ln, g0.nd, g0.few, Nat.le_refl _⟩ (by decide) (by omega) fun F' g' => ⟨rfl, ?_⟩
    simp! only [script_fz, lns_fz, lns_frz]
    exact S3 F' _ (.inl (by omega)) (g'.up (by omega) (by have := g0.dp; omega))
  · exact ite_no z (S3 F0 _ (.inr g0) (g0.up (by omega) (by omega)))
theorem law_true (ns : List Int) (hl : ns.length ≤ 63) (hb : ∀ z ∈ ns, Builtin.Int.intBits z ≤ 1048576) : sp_law [scriptD ns] (fun r _ => r = .bl true) (fun _ _ _ => False) := ⟨ns, rfl, ⟨hl, hb⟩, rfl⟩
end Pk54
namespace Pk54
open PySem PySem.Spec PyProof.Rows L2 VL
structure Hd (K : PySem.W.Frag) (mg : Str → Option Value) : Prop where
  f_Opened_statement : ∃ fd, FunD K "statement" "Opened.statement" (defArgs s_Opened_statement) (defBody s_Opened_statement) (defScope s_Opened_statement) [] [] (He.ma K (He.ga K "Opened") "statement") fd
  f_Opened_turned : ∃ fd, FunD K "turned" "Opened.turned" (defArgs s_Opened_turned) (defBody s_Opened_turned) (defScope s_Opened_turned) [] [] (He.ma K (He.ga K "Opened") "turned") fd
  f_Opened_init : ∃ fd, FunD K "__init__" "Opened.__init__" (defArgs s_Opened_init) (defBody s_Opened_init) (defScope s_Opened_init) [] [] (He.ma K (He.ga K "Opened") "__init__") fd
  f_lists_of : FnAt K mg "lists_of" s_lists_of
  f_sound_opening : FnAt K mg "sound_opening" s_sound_opening
  f_sound_statement : FnAt K mg "sound_statement" s_sound_statement
  f_sound_list : FnAt K mg "sound_list" s_sound_list
  f_sound : FnAt K mg "sound" s_sound
  f_number_read : FnAt K mg "number_read" s_number_read
  f_is_name : FnAt K mg "is_name" s_is_name
  f_operand_read : FnAt K mg "operand_read" s_operand_read
  f_sum_read : FnAt K mg "sum_read" s_sum_read
  f_test_read : FnAt K mg "test_read" s_test_read
  f_numbered : FnAt K mg "numbered" s_numbered
  f_opening : FnAt K mg "opening" s_opening
  f_plain : FnAt K mg "plain" s_plain
  f_take : FnAt K mg "take" s_take
  f_read_form : FnAt K mg "read_form" s_read_form
  f_Lraw : FnAt K mg "_law_raw" s_Lraw
  f_Lmix : FnAt K mg "_law_mix" s_Lmix
  f_Lkept : FnAt K mg "_law_kept" s_Lkept
  f_Lsign : FnAt K mg "_law_sign" s_Lsign
  f_Lword : FnAt K mg "_law_word" s_Lword
  f_Lnames : FnAt K mg "_law_names" s_Lnames
  f_Loperand : FnAt K mg "_law_operand" s_Loperand
  f_Lbegins : FnAt K mg "_law_begins" s_Lbegins
  f_Ldeed : FnAt K mg "_law_deed" s_Ldeed
  f_Lgoes : FnAt K mg "_law_goes" s_Lgoes
  f_Lfirst : FnAt K mg "_law_first" s_Lfirst
  f_Lclose : FnAt K mg "_law_close" s_Lclose
  f_Lstep : FnAt K mg "_law_step" s_Lstep
  f_Llines : FnAt K mg "_law_lines" s_Llines
  f_Lnested : FnAt K mg "_law_nested" s_Lnested
  f_Lalike : FnAt K mg "_law_alike" s_Lalike
  f_Ldepth : FnAt K mg "_law_depth" s_Ldepth
  f_Lwrapped : FnAt K mg "_law_wrapped" s_Lwrapped
  f_Lwords : FnAt K mg "_law_words" s_Lwords
  f_Lspread : FnAt K mg "_law_spread" s_Lspread
  f_law : FnAt K mg "law" s_law
  kl_Opened : Cls K (cA K 1)
  mk_Opened : L2.Mk K (cA K 1) (He.ma K (He.ga K "Opened") "__init__")
  gc_Opened : mg "Opened" = some (.ref (cA K 1))
  na_Opened_head : NoAttr K (cA K 1) "head"
  na_Opened_now : NoAttr K (cA K 1) "now"
  na_Opened_yes : NoAttr K (cA K 1) "yes"
  me_Opened_turned : Meth K (cA K 1) "turned" (He.ma K (He.ga K "Opened") "turned")
  me_Opened_statement : Meth K (cA K 1) "statement" (He.ma K (He.ga K "Opened") "statement")
  b_len : mg "len" = none
  b_int : mg "int" = none
  b_range : mg "range" = none
  b_isinstance : mg "isinstance" = none
  b_bool : mg "bool" = none
  b_str : mg "str" = none
  b_list : mg "list" = none
  b_tuple : mg "tuple" = none
  b_zip : mg "zip" = none
  b_max : mg "max" = none
  b_min : mg "min" = none
  b_ValueError : mg "ValueError" = none
  gx_NoForm : mg "NoForm" = some (.ref (He.ga K "NoForm"))
  gx_TooGreat : mg "TooGreat" = some (.ref (He.ga K "TooGreat"))
  ex : exOk RLx ctx ktx K = true
  ini : ∃ fd, FunD K "__init__" "JumpError.__init__" (defArgs s_ini) (defBody s_ini) (defScope s_ini) [.non] [] (fiA K) fd
  g_MOST_NUMBER : ∃ t, mg "MOST_NUMBER" = some (.int 9999 t)
  g_FIGURES : ∃ t, mg "FIGURES" = some (.str "0123456789" t)
  g_MOST_SIGNS : ∃ t, mg "MOST_SIGNS" = some (.int 8 t)
  g_KEPT : ∃ a, mg "KEPT" = some (.ref a) ∧ SqK K a [[105, 102], [106, 117, 109, 112], [101, 110, 100], [114, 101, 115, 116], [114, 111, 117, 110, 100], [112, 97, 114, 116], [108, 101, 97, 118, 101], [97, 103, 97, 105, 110], [101, 108, 115, 101], [100, 111, 110, 101]]
  g_LETTERS : ∃ t, mg "LETTERS" = some (.str "abcdefghijklmnopqrstuvwxyz" t)
  g_MOST_FIGURES : ∃ t, mg "MOST_FIGURES" = some (.int 18 t)
  g_SUM_SIGNS : ∃ a, mg "SUM_SIGNS" = some (.ref a) ∧ SqK K a [[43], [45], [47], [114, 101, 115, 116], [38], [94]]
  g_TEST_SIGNS : ∃ a, mg "TEST_SIGNS" = some (.ref a) ∧ SqK K a [[60], [61]]
  g_MOST_LISTS : ∃ t, mg "MOST_LISTS" = some (.int 90 t)
  g_MOST_FORM_LINES : ∃ t, mg "MOST_FORM_LINES" = some (.int 400 t)
theorem sc_ini : FnScope ["self", "row"] ["self", "row"] (defScope s_ini) := ⟨rfl, rfl, rfl, by decide +kernel, rfl, by decide +kernel, by decide +kernel⟩
theorem F_ini {P : Program} {w : World} {K : PySem.W.Frag} {mg : Str → Option Value} {base : Heap} (c : Hd K mg) : ExFn P w K mg base 1 :=
  ini_fn c.ini sc_ini (fun F => F.binds1 1 0 (by simp) rfl fun _ _ _ _ _ _ _ us its h1 h2 => match us, h1, its, h2 with | [_], _, [_], _ => ⟨_, rfl, rfl⟩)
    (fun cdv A outer s H E => pss_cons (ps_expr (pe_veinit rfl c.b_ValueError (exOk_g c.ex).vV (pa_cons (pe_var rfl (Or.inl rfl)) (pa_cons pe_str pa_nil)))) (pss_one (ps_ost (pe_var rfl (Or.inl rfl)) (pe_var rfl (Or.inl rfl)))))
theorem sc_Opened_statement : FnScope ["self"] ["self"] (defScope s_Opened_statement) := ⟨rfl, rfl, rfl, by decide +kernel, rfl, by decide +kernel, by decide +kernel⟩
theorem M_Opened_statement {P : Program} {w : World} {K : PySem.W.Frag} {mg : Str → Option Value} {base : Heap} (c : Hd K mg) : Mv P w K mg base 1 "statement" 1 1 sp_Opened_statement :=
  Mv.make (κ := [true]) (t := t_Opened_statement) c.f_Opened_statement c.me_Opened_statement sc_Opened_statement (fun F => F.bindsN fun _ _ _ _ _ _ us hl => match us, hl with | [_], _ => rfl) rfl (by decide)
    (fun f cdv A outer s H E hr => let sc := sc_Opened_statement; (vss_cons (vs_if (vt_cmpW (opr_ne hr) opn_ne (wv_ix hr (wv_fld (wv_name 0) c.kl_Opened c.na_Opened_head rfl) (wv_int) (fun _ _ => rfl)) ((wv_str rfl)) rfl) (vss_one (vs_ret (ve_bin opr_add opn_add (vg_val (ve_q (vq_at (vp_fd (np 0) c.kl_Opened c.na_Opened_head rfl)))) (vg_val (ve_tup (va_cons (vg_val (ve_still (ve_take (vp_fd (np 0) c.kl_Opened c.na_Opened_now rfl)))) (va_nil))))))) (vss_nil)) (vss_cons (vs_if (vt_cmpW op_isN opn_isN (wv_fld (wv_name 0) c.kl_Opened c.na_Opened_yes rfl) wv_non rfl) (vss_one (vs_ret (ve_bin opr_add opn_add (vg_val (ve_q (vq_at (vp_fd (np 0) c.kl_Opened c.na_Opened_head rfl)))) (vg_val (ve_tup (va_cons (vg_val (ve_still (ve_take (vp_fd (np 0) c.kl_Opened c.na_Opened_now rfl)))) (va_cons (vg_val (ve_still (ve_lst (va_nil)))) (va_nil)))))))) (vss_nil)) (vss_one (vs_ret (ve_bin opr_add opn_add (vg_val (ve_q (vq_at (vp_fd (np 0) c.kl_Opened c.na_Opened_head rfl)))) (vg_val (ve_tup (va_cons (vg_val (ve_q (vq_at (vp_fd (np 0) c.kl_Opened c.na_Opened_yes rfl)))) (va_cons (vg_val (ve_still (ve_take (vp_fd (np 0) c.kl_Opened c.na_Opened_now rfl)))) (va_nil))))))))))) mono_Opened_statement rd_Opened_statement
theorem sc_Opened_init : FnScope ["self", "head"] ["self", "head"] (defScope s_Opened_init) := ⟨rfl, rfl, rfl, by decide +kernel, rfl, by decide +kernel, by decide +kernel⟩
theorem M_Opened_init {P : Program} {w : World} {K : PySem.W.Frag} {mg : Str → Option Value} {base : Heap} (c : Hd K mg) : Nv P w K mg base 1 1 2 sp_Opened_init :=
  Nv.make (κ := [true, true]) (t := t_Opened_init) c.f_Opened_init c.mk_Opened sc_Opened_init (fun F => F.bindsN fun _ _ _ _ _ _ us hl => match us, hl with | [_, _], _ => rfl) rfl (by decide)
    (fun f cdv A outer s H E hr => let sc := sc_Opened_init; (vss_cons (vs_fld (i := 0) (nv 1) rfl (by first | exact Or.inl rfl | exact Or.inr (Or.inl rfl) | exact Or.inr (Or.inr rfl)) c.kl_Opened c.na_Opened_head rfl) (vss_cons (vs_fld (i := 0) (ve_non) rfl (by first | exact Or.inl rfl | exact Or.inr (Or.inl rfl) | exact Or.inr (Or.inr rfl)) c.kl_Opened c.na_Opened_yes rfl) (vss_one (vs_fld (i := 0) (ve_lst (va_nil)) rfl (by first | exact Or.inl rfl | exact Or.inr (Or.inl rfl) | exact Or.inr (Or.inr rfl)) c.kl_Opened c.na_Opened_now rfl))))) mono_Opened_init rd_Opened_init
theorem sc_lists_of : FnScope ["statement"] ["statement"] (defScope s_lists_of) := ⟨rfl, rfl, rfl, by decide +kernel, rfl, by decide +kernel, by decide +kernel⟩
theorem F_lists_of {P : Program} {w : World} {K : PySem.W.Frag} {mg : Str → Option Value} {base : Heap} (c : Hd K mg) : Fv P w K mg base "lists_of" 1 1 sp_lists_of :=
  Fv.mk2 (κ := [true]) (t := t_lists_of) c.f_lists_of sc_lists_of (fun F => F.bindsN fun _ _ _ _ _ _ us hl => match us, hl with | [_], _ => rfl) rfl (by decide)
    (fun f cdv A outer s H E hr => let sc := sc_lists_of; (vss_cons (vs_if (vt_cmp (opr_eq hr) opn_eq (vg_val (ve_ix hr (vg_val (nv 0)) (vg_val (ve_int)) (fun _ _ => rfl))) (vg_val ((ve_str rfl))) rfl) (vss_one (vs_ret (ve_lst (va_cons (vg_val (ve_ix hr (vg_val (nv 0)) (vg_val (ve_int)) (fun _ _ => rfl))) (va_cons (vg_val (ve_ix hr (vg_val (nv 0)) (vg_val (ve_int)) (fun _ _ => rfl))) (va_nil)))))) (vss_nil)) (vss_cons (vs_if (vt_w (vw_or (vt_cmp (opr_eq hr) opn_eq (vg_val (ve_ix hr (vg_val (nv 0)) (vg_val (ve_int)) (fun _ _ => rfl))) (vg_val ((ve_str rfl))) rfl) (vw_or1 (vt_cmp (opr_eq hr) opn_eq (vg_val (ve_ix hr (vg_val (nv 0)) (vg_val (ve_int)) (fun _ _ => rfl))) (vg_val ((ve_str rfl))) rfl)))) (vss_one (vs_ret (ve_lst (va_cons (vg_val (ve_ix hr (vg_val (nv 0)) (vg_val (ve_int)) (fun _ _ => rfl))) (va_nil))))) (vss_nil)) (vss_one (vs_ret (ve_lst (va_nil))))))) mono_lists_of rd_lists_of
theorem sc_sound_opening : FnScope ["statement", "used", "number"] ["statement", "used"] (defScope s_sound_opening) := ⟨rfl, rfl, rfl, by decide +kernel, rfl, by decide +kernel, by decide +kernel⟩
theorem F_sound_opening {P : Program} {w : World} {K : PySem.W.Frag} {mg : Str → Option Value} {base : Heap} (c : Hd K mg) : Fv P w K mg base "sound_opening" 1 2 sp_sound_opening :=
  Fv.mk2 (κ := [true, true]) (t := t_sound_opening) c.f_sound_opening sc_sound_opening (fun F => F.bindsN fun _ _ _ _ _ _ us hl => match us, hl with | [_, _], _ => rfl) rfl (by decide)
    (fun f cdv A outer s H E hr => let sc := sc_sound_opening; (vss_cons (sa 2 sc.nd (ve_ix hr (vg_val (nv 0)) (vg_val (ve_int)) (fun _ _ => rfl))) (vss_cons (vs_if (vt_w (vw_or (vt_cmpW (opr_in hr) opn_in (wv_name 2) (wv_name 1) rfl) (vw_or (vt_cmp op_lt opn_lt (vg_val (nv 2)) (vg_val (ve_int)) rfl) (vw_or1 (vt_cmp op_gt opn_gt (vg_val (nv 2)) (vg_val ((ve_globI rfl c.g_MOST_NUMBER))) rfl))))) (vss_one (vs_ret (ve_bl))) (vss_nil)) (vss_cons (vs_set hr (ve_bl) (np 1) (nq 2)) (vss_one (vs_ret (ve_bl))))))) mono_sound_opening rd_sound_opening
theorem sc_number_read : FnScope ["word", "most", "sign"] ["word", "most"] (defScope s_number_read) := ⟨rfl, rfl, rfl, by decide +kernel, rfl, by decide +kernel, by decide +kernel⟩
theorem F_number_read {P : Program} {w : World} {K : PySem.W.Frag} {mg : Str → Option Value} {base : Heap} (c : Hd K mg) : Fv P w K mg base "number_read" 1 2 sp_number_read :=
  Fv.mk2 (κ := [true, true]) (t := t_number_read) c.f_number_read sc_number_read (fun F => F.bindsN fun _ _ _ _ _ _ us hl => match us, hl with | [_, _], _ => rfl) rfl (by decide)
    (fun f cdv A outer s H E hr => let sc := sc_number_read; (vss_cons (vs_if (vt_w (vw_or (vt_cmp (opr_eq hr) opn_eq (vg_val (nv 0)) (vg_val ((ve_str rfl))) rfl) (vw_or1 (vt_cmp op_gt opn_gt (vg_val (ve_callB call_lenA opn_len rfl c.b_len rfl (va_cons (vg_val (nv 0)) (va_nil)))) (vg_val (nv 1)) rfl)))) (vss_one (vs_ret (ve_non))) (vss_nil)) (vss_cons (vs_for (passes_of rfl) rfl (vi_str (nv 0)) (tn 2 sc.nd) (vss_one (vs_if (vt_cmp (opr_notIn hr) opn_in (vg_val (nv 2)) (vg_val ((ve_globS rfl c.g_FIGURES rfl))) rfl) (vss_one (vs_ret (ve_non))) (vss_nil)))) (vss_cons (vs_if (vt_w (vw_and (vt_cmp (opr_eq hr) opn_eq (vg_val (ve_ix hr (vg_val (nv 0)) (vg_val (ve_int)) (fun _ _ => rfl))) (vg_val ((ve_str rfl))) rfl) (vw_and1 (vt_cmp op_gt opn_gt (vg_val (ve_callB call_lenA opn_len rfl c.b_len rfl (va_cons (vg_val (nv 0)) (va_nil)))) (vg_val (ve_int)) rfl)))) (vss_one (vs_ret (ve_non))) (vss_nil)) (vss_one (vs_ret (ve_callTy call_int_str opn_intS rfl c.b_int rfl (va_cons (vg_val (nv 0)) (va_nil))))))))) mono_number_read rd_number_read
theorem sc_is_name : FnScope ["word", "sign"] ["word"] (defScope s_is_name) := ⟨rfl, rfl, rfl, by decide +kernel, rfl, by decide +kernel, by decide +kernel⟩
theorem F_is_name {P : Program} {w : World} {K : PySem.W.Frag} {mg : Str → Option Value} {base : Heap} (c : Hd K mg) : Fv P w K mg base "is_name" 1 1 sp_is_name :=
  Fv.mk2 (κ := [true]) (t := t_is_name) c.f_is_name sc_is_name (fun F => F.bindsN fun _ _ _ _ _ _ us hl => match us, hl with | [_], _ => rfl) rfl (by decide)
    (fun f cdv A outer s H E hr => let sc := sc_is_name; (vss_cons (vs_if (vt_w (vw_or (vt_cmp (opr_eq hr) opn_eq (vg_val (nv 0)) (vg_val ((ve_str rfl))) rfl) (vw_or (vt_cmp op_gt opn_gt (vg_val (ve_callB call_lenA opn_len rfl c.b_len rfl (va_cons (vg_val (nv 0)) (va_nil)))) (vg_val ((ve_globI rfl c.g_MOST_SIGNS))) rfl) (vw_or1 (vt_inG rfl c.g_KEPT (vg_val (nv 0))))))) (vss_one (vs_ret (ve_bl))) (vss_nil)) (vss_cons (vs_for (passes_of rfl) rfl (vi_str (nv 0)) (tn 1 sc.nd) (vss_one (vs_if (vt_w (vw_and (vt_cmp (opr_notIn hr) opn_in (vg_val (nv 1)) (vg_val ((ve_globS rfl c.g_LETTERS rfl))) rfl) (vw_and1 (vt_cmp (opr_notIn hr) opn_in (vg_val (nv 1)) (vg_val ((ve_globS rfl c.g_FIGURES rfl))) rfl)))) (vss_one (vs_ret (ve_bl))) (vss_nil)))) (vss_one (vs_ret (ve_cmp (opr_in hr) opn_in (vg_val (ve_ix hr (vg_val (nv 0)) (vg_val (ve_int)) (fun _ _ => rfl))) (vg_val ((ve_globS rfl c.g_LETTERS rfl))) rfl)))))) mono_is_name rd_is_name
theorem sc_Lraw : FnScope ["_law_script", "_law_k"] ["_law_script", "_law_k"] (defScope s_Lraw) := ⟨rfl, rfl, rfl, by decide +kernel, rfl, by decide +kernel, by decide +kernel⟩
theorem F_Lraw {P : Program} {w : World} {K : PySem.W.Frag} {mg : Str → Option Value} {base : Heap} (c : Hd K mg) : Fv P w K mg base "_law_raw" 1 2 sp_Lraw :=
  Fv.mk2 (κ := [true, true]) (t := t_Lraw) c.f_Lraw sc_Lraw (fun F => F.bindsN fun _ _ _ _ _ _ us hl => match us, hl with | [_, _], _ => rfl) rfl (by decide)
    (fun f cdv A outer s H E hr => let sc := sc_Lraw; (vss_cons (vs_if (vt_cmp (opr_eq hr) opn_eq (vg_val (ve_callB call_lenA opn_len rfl c.b_len rfl (va_cons (vg_val (nv 0)) (va_nil)))) (vg_val (ve_int)) rfl) (vss_one (vs_ret (nv 1))) (vss_nil)) (vss_one (vs_ret (ve_ix hr (vg_val (nv 0)) (vg_val (ve_bin op_modN opn_mod (vg_val (nv 1)) (vg_val (ve_callB call_lenA opn_len rfl c.b_len rfl (va_cons (vg_val (nv 0)) (va_nil)))))) (fun _ _ => rfl)))))) mono_Lraw rd_Lraw
theorem sc_Lkept : FnScope [] [] (defScope s_Lkept) := ⟨rfl, rfl, rfl, by decide +kernel, rfl, by decide +kernel, by decide +kernel⟩
theorem F_Lkept {P : Program} {w : World} {K : PySem.W.Frag} {mg : Str → Option Value} {base : Heap} (c : Hd K mg) : Fv P w K mg base "_law_kept" 1 0 sp_Lkept :=
  Fv.mk2 (κ := []) (t := t_Lkept) c.f_Lkept sc_Lkept (fun F => F.bindsN fun _ _ _ _ _ _ us hl => match us, hl with | [], _ => rfl) rfl (by decide)
    (fun f cdv A outer s H E hr => let sc := sc_Lkept; (vss_one (vs_ret (ve_lst (va_cons (vg_val ((ve_str rfl))) (va_cons (vg_val ((ve_str rfl))) (va_cons (vg_val ((ve_str rfl))) (va_cons (vg_val ((ve_str rfl))) (va_cons (vg_val ((ve_str rfl))) (va_cons (vg_val ((ve_str rfl))) (va_cons (vg_val ((ve_str rfl))) (va_cons (vg_val ((ve_str rfl))) (va_cons (vg_val ((ve_str rfl))) (va_cons (vg_val ((ve_str rfl))) (va_nil))))))))))))))) mono_Lkept rd_Lkept
theorem sc_Lsign : FnScope ["_law_number", "_law_first_here"] ["_law_number", "_law_first_here"] (defScope s_Lsign) := ⟨rfl, rfl, rfl, by decide +kernel, rfl, by decide +kernel, by decide +kernel⟩
theorem F_Lsign {P : Program} {w : World} {K : PySem.W.Frag} {mg : Str → Option Value} {base : Heap} (c : Hd K mg) : Fv P w K mg base "_law_sign" 1 2 sp_Lsign :=
  Fv.mk2 (κ := [true, true]) (t := t_Lsign) c.f_Lsign sc_Lsign (fun F => F.bindsN fun _ _ _ _ _ _ us hl => match us, hl with | [_, _], _ => rfl) rfl (by decide)
    (fun f cdv A outer s H E hr => let sc := sc_Lsign; (vss_cons (vs_if (vt_val (nv 1)) (vss_one (vs_ret (ve_ix hr (vg_val ((ve_str rfl))) (vg_val (ve_bin op_modN opn_mod (vg_val (nv 0)) (vg_val (ve_int)))) (fun _ _ => rfl)))) (vss_nil)) (vss_one (vs_ret (ve_ix hr (vg_val ((ve_str rfl))) (vg_val (ve_bin op_modN opn_mod (vg_val (nv 0)) (vg_val (ve_int)))) (fun _ _ => rfl)))))) mono_Lsign rd_Lsign
theorem sc_Lbegins : FnScope ["_law_line"] ["_law_line"] (defScope s_Lbegins) := ⟨rfl, rfl, rfl, by decide +kernel, rfl, by decide +kernel, by decide +kernel⟩
theorem F_Lbegins {P : Program} {w : World} {K : PySem.W.Frag} {mg : Str → Option Value} {base : Heap} (c : Hd K mg) : Fv P w K mg base "_law_begins" 1 1 sp_Lbegins :=
  Fv.mk2 (κ := [true]) (t := t_Lbegins) c.f_Lbegins sc_Lbegins (fun F => F.bindsN fun _ _ _ _ _ _ us hl => match us, hl with | [_], _ => rfl) rfl (by decide)
    (fun f cdv A outer s H E hr => let sc := sc_Lbegins; (vss_one (vs_ret (ve_or (ve_cmp (opr_eq hr) opn_eq (vg_val (ve_ix hr (vg_val (nv 0)) (vg_val (ve_int)) (fun _ _ => rfl))) (vg_val ((ve_str rfl))) rfl) (ve_or (ve_cmp (opr_eq hr) opn_eq (vg_val (ve_ix hr (vg_val (nv 0)) (vg_val (ve_int)) (fun _ _ => rfl))) (vg_val ((ve_str rfl))) rfl) (ve_one (ve_cmp (opr_eq hr) opn_eq (vg_val (ve_ix hr (vg_val (nv 0)) (vg_val (ve_int)) (fun _ _ => rfl))) (vg_val ((ve_str rfl))) rfl))))))) mono_Lbegins rd_Lbegins
theorem sc_Lgoes : FnScope ["_law_stack", "_law_number", "_law_homes", "_law_one", "_law_rounds"] ["_law_stack", "_law_number"] (defScope s_Lgoes) := ⟨rfl, rfl, rfl, by decide +kernel, rfl, by decide +kernel, by decide +kernel⟩
theorem F_Lgoes {P : Program} {w : World} {K : PySem.W.Frag} {mg : Str → Option Value} {base : Heap} (c : Hd K mg) : Fv P w K mg base "_law_goes" 1 2 sp_Lgoes :=
  Fv.mk2 (κ := [true, true]) (t := t_Lgoes) c.f_Lgoes sc_Lgoes (fun F => F.bindsN fun _ _ _ _ _ _ us hl => match us, hl with | [_, _], _ => rfl) rfl (by decide)
    (fun f cdv A outer s H E hr => let sc := sc_Lgoes; (vss_cons (vs_setLcF (own := [("_law_one", 3)]) (i := 2) rfl sc.nd (blkOk_by (by first | rfl | decide +kernel)) (kap_of rfl) (vi_lst (nv 0)) (fun bi => vto_name (by decide) sc.nd rfl (by first | exact Or.inl rfl | exact Or.inr rfl) (ne_of_beq_false rfl)) (fun bi => vts_one (vt_cmp op_ge opn_ge (vg_val (ve_ix hr (vg_val (nv 3)) (vg_val (ve_int)) (fun _ _ => rfl))) (vg_val (ve_int)) rfl)) (fun bi => ve_ix hr (vg_val (nv 3)) (vg_val (ve_int)) (fun _ _ => rfl)) rfl rfl (ne_of_beq_false rfl) (sw_true rfl rfl rfl (by decide +kernel))) (vss_cons (vs_setLcF (own := [("_law_one", 3)]) (i := 4) rfl sc.nd (blkOk_by (by first | rfl | decide +kernel)) (kap_of rfl) (vi_lst (nv 0)) (fun bi => vto_name (by decide) sc.nd rfl (by first | exact Or.inl rfl | exact Or.inr rfl) (ne_of_beq_false rfl)) (fun bi => vts_one (vt_cmp (opr_eq hr) opn_eq (vg_val (ve_ix hr (vg_val (nv 3)) (vg_val (ve_int)) (fun _ _ => rfl))) (vg_val ((ve_str rfl))) rfl)) (fun bi => ve_ix hr (vg_val (nv 3)) (vg_val (ve_int)) (fun _ _ => rfl)) rfl rfl (ne_of_beq_false rfl) (sw_true rfl rfl rfl (by decide +kernel))) (vss_cons (vs_if (vt_w (vw_and (vt_cmp (opr_eq hr) opn_eq (vg_val (ve_bin op_modN opn_mod (vg_val (nv 1)) (vg_val (ve_int)))) (vg_val (ve_int)) rfl) (vw_and1 (vt_cmp (opr_ne hr) opn_ne (vg_val (nv 4)) (vg_val (ve_lst (va_nil))) rfl)))) (vss_one (vs_ret (ve_tup (va_cons (vg_val ((ve_str rfl))) (va_cons (vg_val (ve_ix hr (vg_val (nv 4)) (vg_val (ve_bin op_modN opn_mod (vg_val (ve_bin opr_div opn_div (vg_val (nv 1)) (vg_val (ve_int)))) (vg_val (ve_callB call_lenA opn_len rfl c.b_len rfl (va_cons (vg_val (nv 4)) (va_nil)))))) (fun _ _ => rfl))) (va_nil)))))) (vss_nil)) (vss_cons (vs_if (vt_cmp (opr_eq hr) opn_eq (vg_val (nv 2)) (vg_val (ve_lst (va_nil))) rfl) (vss_one (vs_ret (ve_non))) (vss_nil)) (vss_one (vs_ret (ve_tup (va_cons (vg_val ((ve_str rfl))) (va_cons (vg_val (ve_ix hr (vg_val (nv 2)) (vg_val (ve_bin op_modN opn_mod (vg_val (ve_bin opr_div opn_div (vg_val (nv 1)) (vg_val (ve_int)))) (vg_val (ve_callB call_lenA opn_len rfl c.b_len rfl (va_cons (vg_val (nv 2)) (va_nil)))))) (fun _ _ => rfl))) (va_nil))))))))))) mono_Lgoes rd_Lgoes
theorem sc_Lclose : FnScope ["_law_stack", "_law_number", "_law_top"] ["_law_stack", "_law_number"] (defScope s_Lclose) := ⟨rfl, rfl, rfl, by decide +kernel, rfl, by decide +kernel, by decide +kernel⟩
theorem F_Lclose {P : Program} {w : World} {K : PySem.W.Frag} {mg : Str → Option Value} {base : Heap} (c : Hd K mg) : Fv P w K mg base "_law_close" 1 2 sp_Lclose :=
  Fv.mk2 (κ := [true, true]) (t := t_Lclose) c.f_Lclose sc_Lclose (fun F => F.bindsN fun _ _ _ _ _ _ us hl => match us, hl with | [_, _], _ => rfl) rfl (by decide)
    (fun f cdv A outer s H E hr => let sc := sc_Lclose; (vss_cons (sa 2 sc.nd (mp_pop (np 0))) (vss_cons (vs_if (vt_w (vw_and (vt_cmp (opr_eq hr) opn_eq (vg_val (ve_ix hr (vg_val (nv 2)) (vg_val (ve_int)) (fun _ _ => rfl))) (vg_val ((ve_str rfl))) rfl) (vw_and1 (vt_cmp op_gt opn_gt (vg_val (ve_bin op_modN opn_mod (vg_val (ve_bin opr_div opn_div (vg_val (nv 1)) (vg_val (ve_int)))) (vg_val (ve_int)))) (vg_val (ve_int)) rfl)))) (vss_cons (vs_expr (m_app 0 (va_cons (vg_val (ve_tup (va_cons (vg_val ((ve_str rfl))) (va_cons (vg_val (ve_un un_neg opn_neg (vg_val (ve_int)))) (va_nil))))) (va_nil)))) (vss_one (vs_ret (ve_tup (va_cons (vg_val ((ve_str rfl))) (va_nil)))))) (vss_nil)) (vss_one (vs_ret (ve_tup (va_cons (vg_val ((ve_str rfl))) (va_nil)))))))) mono_Lclose rd_Lclose
theorem sc_Lwrapped : FnScope ["_law_lines_here", "_law_number", "_law_many", "_law_used", "_law_line", "_law_free", "_law_k", "_law_word_here", "_law_head"] ["_law_lines_here", "_law_number", "_law_many"] (defScope s_Lwrapped) := ⟨rfl, rfl, rfl, by decide +kernel, rfl, by decide +kernel, by decide +kernel⟩
theorem F_Lwrapped {P : Program} {w : World} {K : PySem.W.Frag} {mg : Str → Option Value} {base : Heap} (c : Hd K mg) : Fv P w K mg base "_law_wrapped" 1 3 sp_Lwrapped :=
  Fv.mk2 (κ := [false, true, true]) (t := t_Lwrapped) c.f_Lwrapped sc_Lwrapped (fun F => F.bindsN fun _ _ _ _ _ _ us hl => match us, hl with | [_, _, _], _ => rfl) rfl (by decide)
    (fun f cdv A outer s H E hr => let sc := sc_Lwrapped; (vss_cons (sa 3 sc.nd (ve_still (ve_lc (own := [("_law_line", 4)]) rfl sc.nd (blkOk_by (by first | rfl | decide +kernel)) (kap_of rfl) (vi_lst (nv 0)) (fun bi => vto_name (by decide) sc.nd rfl (by first | exact Or.inl rfl | exact Or.inr rfl) (ne_of_beq_false rfl)) (fun bi => vts_one (vt_w (vw_or (vt_cmp (opr_eq hr) opn_eq (vg_val (ve_ix hr (vg_val (nv 4)) (vg_val (ve_int)) (fun _ _ => rfl))) (vg_val ((ve_str rfl))) rfl) (vw_or1 (vt_cmp (opr_eq hr) opn_eq (vg_val (ve_ix hr (vg_val (nv 4)) (vg_val (ve_int)) (fun _ _ => rfl))) (vg_val ((ve_str rfl))) rfl))))) (fun bi => ve_ix hr (vg_val (nv 4)) (vg_val (ve_int)) (fun _ _ => rfl))))) (vss_cons (vs_setLcF (own := [("_law_k", 6)]) (i := 5) rfl sc.nd (blkOk_by (by first | rfl | decide +kernel)) (kap_of rfl) (vi_range1 rfl c.b_range (va_cons (vg_val (ve_bin opr_add opn_add (vg_val (ve_bin opr_add opn_add (vg_val (ve_int)) (vg_val (nv 2)))) (vg_val (ve_callB call_lenA opn_len rfl c.b_len rfl (va_cons (vg_val (nv 3)) (va_nil)))))) (va_nil))) (fun bi => vto_name (by decide) sc.nd rfl (by first | exact Or.inl rfl | exact Or.inr rfl) (ne_of_beq_false rfl)) (fun bi => vts_one (vt_cmp (opr_notIn hr) opn_in (vg_val (nv 6)) (vg_val (nv 3)) rfl)) (fun bi => nv 6) rfl rfl (ne_of_beq_false rfl) (sw_true rfl rfl rfl (by decide +kernel))) (vss_cons (vs_for (passes_of rfl) rfl (vi_range1 rfl c.b_range (va_cons (vg_val (nv 2)) (va_nil))) (tn 6 sc.nd) (vss_cons (sa 7 sc.nd (ve_ix hr (vg_val (ve_lst (va_cons (vg_val ((ve_str rfl))) (va_cons (vg_val ((ve_str rfl))) (va_cons (vg_val ((ve_str rfl))) (va_nil)))))) (vg_val (ve_bin op_modN opn_mod (vg_val (ve_bin opr_div opn_div (vg_val (nv 1)) (vg_val (ve_bin opr_add opn_add (vg_val (ve_int)) (vg_val (ve_bin opr_mulA opn_mul (vg_val (nv 6)) (vg_val (nv 6)))))))) (vg_val (ve_int)))) (fun _ _ => rfl))) (vss_cons (sa 8 sc.nd (ve_tup (va_cons (vg_val (nv 7)) (va_cons (vg_val (ve_ix hr (vg_val (nv 5)) (vg_val (nv 6)) (fun _ _ => rfl))) (va_nil))))) (vss_cons (vs_if (vt_cmp (opr_eq hr) opn_eq (vg_val (nv 7)) (vg_val ((ve_str rfl))) rfl) (vss_one (sa 8 sc.nd (ve_tup (va_cons (vg_val ((ve_str rfl))) (va_cons (vg_val (nv 6)) (va_cons (vg_val ((ve_str rfl))) (va_cons (vg_val ((ve_str rfl))) (va_nil)))))))) (vss_nil)) (vss_one (sa 0 sc.nd (ve_still (ve_bin opr_add opn_add (vg_val (ve_bin opr_add opn_add (vg_val (ve_lst (va_cons (vg_val (nv 8)) (va_nil)))) (vg_val (nv 0)))) (vg_val (ve_lst (va_cons (vg_val (ve_tup (va_cons (vg_val ((ve_str rfl))) (va_nil)))) (va_nil)))))))))))) (vss_one (vs_ret (nv 0))))))) mono_Lwrapped rd_Lwrapped
theorem sc_Lwords : FnScope ["_law_line", "_law_words_here", "_law_part"] ["_law_line"] (defScope s_Lwords) := ⟨rfl, rfl, rfl, by decide +kernel, rfl, by decide +kernel, by decide +kernel⟩
theorem F_Lwords {P : Program} {w : World} {K : PySem.W.Frag} {mg : Str → Option Value} {base : Heap} (c : Hd K mg) : Fv P w K mg base "_law_words" 1 1 sp_Lwords :=
  Fv.mk2 (κ := [true]) (t := t_Lwords) c.f_Lwords sc_Lwords (fun F => F.bindsN fun _ _ _ _ _ _ us hl => match us, hl with | [_], _ => rfl) rfl (by decide)
    (fun f cdv A outer s H E hr => let sc := sc_Lwords; (vss_cons (vs_if (vt_cmp (opr_eq hr) opn_eq (vg_val (ve_ix hr (vg_val (nv 0)) (vg_val (ve_int)) (fun _ _ => rfl))) (vg_val ((ve_str rfl))) rfl) (vss_one (vs_ret (ve_bin opr_add opn_add (vg_val (ve_bin opr_add opn_add (vg_val (ve_bin opr_add opn_add (vg_val (ve_bin opr_add opn_add (vg_val (ve_bin opr_add opn_add (vg_val ((ve_str rfl))) (vg_val (ve_callTy call_strA opn_str rfl c.b_str rfl (va_cons (vg_val (ve_ix hr (vg_val (nv 0)) (vg_val (ve_int)) (fun _ _ => rfl))) (va_nil)))))) (vg_val ((ve_str rfl))))) (vg_val (ve_ix hr (vg_val (nv 0)) (vg_val (ve_int)) (fun _ _ => rfl))))) (vg_val ((ve_str rfl))))) (vg_val (ve_callTy call_strA opn_str rfl c.b_str rfl (va_cons (vg_val (ve_ix hr (vg_val (nv 0)) (vg_val (ve_int)) (fun _ _ => rfl))) (va_nil))))))) (vss_nil)) (vss_cons (vs_if (vt_cmp (opr_eq hr) opn_eq (vg_val (ve_ix hr (vg_val (nv 0)) (vg_val (ve_int)) (fun _ _ => rfl))) (vg_val ((ve_str rfl))) rfl) (vss_cons (sa 1 sc.nd (ve_still (ve_lst (va_cons (vg_val (ve_ix hr (vg_val (nv 0)) (vg_val (ve_int)) (fun _ _ => rfl))) (va_cons (vg_val ((ve_str rfl))) (va_cons (vg_val (ve_callTy call_strA opn_str rfl c.b_str rfl (va_cons (vg_val (ve_ix hr (vg_val (nv 0)) (vg_val (ve_int)) (fun _ _ => rfl))) (va_nil)))) (va_cons (vg_val (ve_ix hr (vg_val (nv 0)) (vg_val (ve_int)) (fun _ _ => rfl))) (va_cons (vg_val (ve_callTy call_strA opn_str rfl c.b_str rfl (va_cons (vg_val (ve_ix hr (vg_val (nv 0)) (vg_val (ve_int)) (fun _ _ => rfl))) (va_nil)))) (va_nil))))))))) (vss_one (vs_ret (ve_join rfl (vg_val (nv 1)))))) (vss_nil)) (vss_one (vs_ret (ve_join rfl (vg_val (ve_lc (own := [("_law_part", 2)]) rfl sc.nd (blkOk_by (by first | rfl | decide +kernel)) (kap_of rfl) (vi_tup (nv 0)) (fun bi => vto_name (by decide) sc.nd rfl (by first | exact Or.inl rfl | exact Or.inr rfl) (ne_of_beq_false rfl)) (fun bi => vts_nil) (fun bi => ve_callTy call_strA opn_str rfl c.b_str rfl (va_cons (vg_val (nv 2)) (va_nil))))))))))) mono_Lwords rd_Lwords
theorem sc_sound_statement : FnScope ["statement", "within", "rounds", "used", "form"] ["statement", "within", "rounds", "used"] (defScope s_sound_statement) := ⟨rfl, rfl, rfl, by decide +kernel, rfl, by decide +kernel, by decide +kernel⟩
theorem F_sound_statement {P : Program} {w : World} {K : PySem.W.Frag} {mg : Str → Option Value} {base : Heap} (c : Hd K mg) (n : Nat) (ih : Fv P w K mg base "sound_list" (2 + 2 * n) 4 (sp_sound_list n)) : Fv P w K mg base "sound_statement" (2 + 2 * n + 1) 4 (sp_sound_statement n) :=
  Fv.mk2 (k := 2 + 2 * n + 0) (κ := [true, false, false, true]) (t := t_sound_statement n) c.f_sound_statement sc_sound_statement (fun F => F.bindsN fun _ _ _ _ _ _ us hl => match us, hl with | [_, _, _, _], _ => rfl) rfl (by decide)
    (fun f cdv A outer s H E hr => let sc := sc_sound_statement; (vss_cons (vs_if (vt_cmp (opr_eq hr) opn_eq (vg_val (ve_ix hr (vg_val (nv 0)) (vg_val (ve_int)) (fun _ _ => rfl))) (vg_val ((ve_str rfl))) rfl) (vss_one (vs_ret (ve_cmp (opr_in hr) opn_in (vg_val (ve_ix hr (vg_val (nv 0)) (vg_val (ve_int)) (fun _ _ => rfl))) (vg_val (nv 1)) rfl))) (vss_nil)) (vss_cons (vs_if (vt_cmp (opr_eq hr) opn_eq (vg_val (ve_ix hr (vg_val (nv 0)) (vg_val (ve_int)) (fun _ _ => rfl))) (vg_val ((ve_str rfl))) rfl) (vss_one (vs_ret (ve_cmp (opr_in hr) opn_in (vg_val (ve_ix hr (vg_val (nv 0)) (vg_val (ve_int)) (fun _ _ => rfl))) (vg_val (nv 2)) rfl))) (vss_nil)) (vss_cons (vs_if (vt_w (vw_or (vt_cmp (opr_eq hr) opn_eq (vg_val (ve_ix hr (vg_val (nv 0)) (vg_val (ve_int)) (fun _ _ => rfl))) (vg_val ((ve_str rfl))) rfl) (vw_or1 (vt_cmp (opr_eq hr) opn_eq (vg_val (ve_ix hr (vg_val (nv 0)) (vg_val (ve_int)) (fun _ _ => rfl))) (vg_val ((ve_str rfl))) rfl)))) (vss_cons (vs_if (vt_not (vt_val (ve_call (F_sound_opening c) mono_sound_opening (hr.mono (by omega)) rfl rfl (va_cons (vg_val (nv 0)) (al 3 (va_nil)))))) (vss_one (vs_ret (ve_bl))) (vss_nil)) (vss_cons (sa 1 sc.nd (ve_still (ve_bin opr_add opn_add (vg_val (nv 1)) (vg_val (ve_lst (va_cons (vg_val (ve_ix hr (vg_val (nv 0)) (vg_val (ve_int)) (fun _ _ => rfl))) (va_nil))))))) (vss_one (vs_if (vt_cmp (opr_eq hr) opn_eq (vg_val (ve_ix hr (vg_val (nv 0)) (vg_val (ve_int)) (fun _ _ => rfl))) (vg_val ((ve_str rfl))) rfl) (vss_one (sa 2 sc.nd (ve_still (ve_bin opr_add opn_add (vg_val (nv 2)) (vg_val (ve_lst (va_cons (vg_val (ve_ix hr (vg_val (nv 0)) (vg_val (ve_int)) (fun _ _ => rfl))) (va_nil)))))))) (vss_nil))))) (vss_nil)) (vss_cons (vs_for (passes_of rfl) rfl (vi_lst (ve_still (ve_call (F_lists_of c) mono_lists_of (hr.mono (by omega)) rfl rfl (va_cons (vg_val (nv 0)) (va_nil))))) (tn 4 sc.nd) (vss_one (vs_if (vt_not (vt_val (ve_call ih (mono_sound_list n) (hr.mono (by omega)) rfl rfl (va_cons (vg_val (nv 4)) (va_cons (vg_val (nv 1)) (va_cons (vg_val (nv 2)) (al 3 (va_nil)))))))) (vss_one (vs_ret (ve_bl))) (vss_nil)))) (vss_one (vs_ret (ve_bl)))))))) (mono_sound_statement n) (rd_sound_statement n)
theorem sc_operand_read : FnScope ["word", "number"] ["word"] (defScope s_operand_read) := ⟨rfl, rfl, rfl, by decide +kernel, rfl, by decide +kernel, by decide +kernel⟩
theorem F_operand_read {P : Program} {w : World} {K : PySem.W.Frag} {mg : Str → Option Value} {base : Heap} (c : Hd K mg) : Fv P w K mg base "operand_read" 2 1 sp_operand_read :=
  Fv.mk2 (κ := [true]) (t := t_operand_read) c.f_operand_read sc_operand_read (fun F => F.bindsN fun _ _ _ _ _ _ us hl => match us, hl with | [_], _ => rfl) rfl (by decide)
    (fun f cdv A outer s H E hr => let sc := sc_operand_read; (vss_cons (vs_if (vt_val (ve_call (F_is_name c) mono_is_name (hr.mono (by omega)) rfl rfl (va_cons (vg_val (nv 0)) (va_nil)))) (vss_one (vs_ret (nv 0))) (vss_nil)) (vss_cons (vs_if (vt_not (vt_viewV (wv_meth PySem.F.plainAttrs_str PySem.F.slot_str_startswith PySem.F.type_str_startswith mt_startswith opn_starts (wv_name 0) (wvs_cons ((wv_str rfl)) (wvs_nil))))) (vss_one (vs_ret (ve_call (F_number_read c) mono_number_read (hr.mono (by omega)) rfl rfl (va_cons (vg_val (nv 0)) (va_cons (vg_val ((ve_globI rfl c.g_MOST_FIGURES))) (va_nil)))))) (vss_nil)) (vss_cons (sa 1 sc.nd (ve_call (F_number_read c) mono_number_read (hr.mono (by omega)) rfl rfl (va_cons (vg_val (ve_still (ve_slice (vg_val (nv 0)) (vo_some (ve_int)) (vo_none)))) (va_cons (vg_val ((ve_globI rfl c.g_MOST_FIGURES))) (va_nil))))) (vss_cons (vs_if (vt_w (vw_or (vt_cmp op_isN opn_isN (vg_val (nv 1)) (vg_val ve_non) rfl) (vw_or1 (vt_cmp (opr_eq hr) opn_eq (vg_val (nv 1)) (vg_val (ve_int)) rfl)))) (vss_one (vs_ret (ve_non))) (vss_nil)) (vss_one (vs_ret (ve_bin op_sub opn_sub (vg_val (ve_int)) (vg_val (nv 1)))))))))) mono_operand_read rd_operand_read
theorem sc_numbered : FnScope ["words", "some", "number"] ["words", "some"] (defScope s_numbered) := ⟨rfl, rfl, rfl, by decide +kernel, rfl, by decide +kernel, by decide +kernel⟩
theorem F_numbered {P : Program} {w : World} {K : PySem.W.Frag} {mg : Str → Option Value} {base : Heap} (c : Hd K mg) : Fv P w K mg base "numbered" 2 2 sp_numbered :=
  Fv.mk2 (κ := [true, true]) (t := t_numbered) c.f_numbered sc_numbered (fun F => F.bindsN fun _ _ _ _ _ _ us hl => match us, hl with | [_, _], _ => rfl) rfl (by decide)
    (fun f cdv A outer s H E hr => let sc := sc_numbered; (vss_cons (vs_if (vt_w (vw_or (vt_cmp (opr_ne hr) opn_ne (vg_val (ve_callB call_lenA opn_len rfl c.b_len rfl (va_cons (vg_val (nv 0)) (va_nil)))) (vg_val (ve_int)) rfl) (vw_or1 (vt_cmp (opr_notIn hr) opn_in (vg_val (ve_ix hr (vg_val (nv 0)) (vg_val (ve_int)) (fun _ _ => rfl))) (vg_val (nv 1)) rfl)))) (vss_one (vs_ret (ve_non))) (vss_nil)) (vss_cons (sa 2 sc.nd (ve_call (F_number_read c) mono_number_read (hr.mono (by omega)) rfl rfl (va_cons (vg_val (ve_ix hr (vg_val (nv 0)) (vg_val (ve_int)) (fun _ _ => rfl))) (va_cons (vg_val (ve_int)) (va_nil))))) (vss_cons (vs_if (vt_cmp op_isN opn_isN (vg_val (nv 2)) (vg_val ve_non) rfl) (vss_one (vs_ret (ve_non))) (vss_nil)) (vss_one (vs_ret (ve_tup (va_cons (vg_val (ve_ix hr (vg_val (nv 0)) (vg_val (ve_int)) (fun _ _ => rfl))) (va_cons (vg_val (nv 2)) (va_nil)))))))))) mono_numbered rd_numbered
theorem sc_Lmix : FnScope ["_law_script", "_law_k", "_law_turn"] ["_law_script", "_law_k"] (defScope s_Lmix) := ⟨rfl, rfl, rfl, by decide +kernel, rfl, by decide +kernel, by decide +kernel⟩
theorem F_Lmix {P : Program} {w : World} {K : PySem.W.Frag} {mg : Str → Option Value} {base : Heap} (c : Hd K mg) : Fv P w K mg base "_law_mix" 2 2 sp_Lmix :=
  Fv.mk2 (κ := [true, true]) (t := t_Lmix) c.f_Lmix sc_Lmix (fun F => F.bindsN fun _ _ _ _ _ _ us hl => match us, hl with | [_, _], _ => rfl) rfl (by decide)
    (fun f cdv A outer s H E hr => let sc := sc_Lmix; (vss_cons (vs_if (vt_cmp (opr_eq hr) opn_eq (vg_val (ve_callB call_lenA opn_len rfl c.b_len rfl (va_cons (vg_val (nv 0)) (va_nil)))) (vg_val (ve_int)) rfl) (vss_one (vs_ret (ve_bin op_modN opn_mod (vg_val (ve_bin opr_mulA opn_mul (vg_val (ve_bin opr_add opn_add (vg_val (ve_bin opr_mulA opn_mul (vg_val (nv 1)) (vg_val (nv 1)))) (vg_val (ve_int)))) (vg_val (ve_int)))) (vg_val (ve_int))))) (vss_nil)) (vss_cons (sa 2 sc.nd (ve_bin opr_div opn_div (vg_val (nv 1)) (vg_val (ve_callB call_lenA opn_len rfl c.b_len rfl (va_cons (vg_val (nv 0)) (va_nil)))))) (vss_one (vs_ret (ve_bin op_modN opn_mod (vg_val (ve_bin opr_mulA opn_mul (vg_val (ve_bin opr_add opn_add (vg_val (ve_bin op_modN opn_mod (vg_val (ve_call (F_Lraw c) mono_Lraw (hr.mono (by omega)) rfl rfl (va_cons (vg_val (nv 0)) (va_cons (vg_val (nv 1)) (va_nil))))) (vg_val (ve_int)))) (vg_val (ve_int)))) (vg_val (ve_bin opr_add opn_add (vg_val (ve_int)) (vg_val (ve_bin opr_mulA opn_mul (vg_val (ve_bin opr_mulA opn_mul (vg_val (ve_int)) (vg_val (nv 2)))) (vg_val (nv 2)))))))) (vg_val (ve_int)))))))) mono_Lmix rd_Lmix
theorem sc_Lword : FnScope ["_law_number", "_law_size", "_law_word_here", "_law_k"] ["_law_number", "_law_size"] (defScope s_Lword) := ⟨rfl, rfl, rfl, by decide +kernel, rfl, by decide +kernel, by decide +kernel⟩
theorem F_Lword {P : Program} {w : World} {K : PySem.W.Frag} {mg : Str → Option Value} {base : Heap} (c : Hd K mg) : Fv P w K mg base "_law_word" 2 2 sp_Lword :=
  Fv.mk2 (κ := [false, true]) (t := t_Lword) c.f_Lword sc_Lword (fun F => F.bindsN fun _ _ _ _ _ _ us hl => match us, hl with | [_, _], _ => rfl) rfl (by decide)
    (fun f cdv A outer s H E hr => let sc := sc_Lword; (vss_cons (sa 2 sc.nd ((ve_str rfl))) (vss_cons (vs_for (passes_of rfl) rfl (vi_range1 rfl c.b_range (va_cons (vg_val (nv 1)) (va_nil))) (tn 3 sc.nd) (vss_cons (sa 0 sc.nd (ve_bin op_modN opn_mod (vg_val (ve_bin opr_mulA opn_mul (vg_val (ve_bin opr_add opn_add (vg_val (nv 0)) (vg_val (ve_int)))) (vg_val (ve_int)))) (vg_val (ve_int)))) (vss_one (sa 2 sc.nd (ve_bin opr_add opn_add (vg_val (nv 2)) (vg_val (ve_call (F_Lsign c) mono_Lsign (hr.mono (by omega)) rfl rfl (va_cons (vg_val (ve_bin opr_div opn_div (vg_val (nv 0)) (vg_val (ve_int)))) (va_cons (vg_val (ve_cmp (opr_eq hr) opn_eq (vg_val (nv 3)) (vg_val (ve_int)) rfl)) (va_nil)))))))))) (vss_one (vs_ret (nv 2)))))) mono_Lword rd_Lword
theorem sc_Loperand : FnScope ["_law_script", "_law_k", "_law_names_here", "_law_number", "_law_big"] ["_law_script", "_law_k", "_law_names_here", "_law_number"] (defScope s_Loperand) := ⟨rfl, rfl, rfl, by decide +kernel, rfl, by decide +kernel, by decide +kernel⟩
theorem F_Loperand {P : Program} {w : World} {K : PySem.W.Frag} {mg : Str → Option Value} {base : Heap} (c : Hd K mg) : Fv P w K mg base "_law_operand" 2 4 sp_Loperand :=
  Fv.mk2 (κ := [true, true, true, true]) (t := t_Loperand) c.f_Loperand sc_Loperand (fun F => F.bindsN fun _ _ _ _ _ _ us hl => match us, hl with | [_, _, _, _], _ => rfl) rfl (by decide)
    (fun f cdv A outer s H E hr => let sc := sc_Loperand; (vss_cons (vs_if (vt_cmp (opr_eq hr) opn_eq (vg_val (ve_bin op_modN opn_mod (vg_val (nv 3)) (vg_val (ve_int)))) (vg_val (ve_int)) rfl) (vss_one (vs_ret (ve_ix hr (vg_val (nv 2)) (vg_val (ve_bin op_modN opn_mod (vg_val (ve_bin opr_div opn_div (vg_val (nv 3)) (vg_val (ve_int)))) (vg_val (ve_int)))) (fun _ _ => rfl)))) (vss_nil)) (vss_cons (vs_if (vt_cmp (opr_eq hr) opn_eq (vg_val (ve_bin op_modN opn_mod (vg_val (nv 3)) (vg_val (ve_int)))) (vg_val (ve_int)) rfl) (vss_one (vs_ret (ve_bin op_sub opn_sub (vg_val (ve_bin op_modN opn_mod (vg_val (ve_bin opr_div opn_div (vg_val (nv 3)) (vg_val (ve_int)))) (vg_val (ve_int)))) (vg_val (ve_int))))) (vss_nil)) (vss_cons (sa 4 sc.nd (ve_bin op_modN opn_mod (vg_val (ve_bin opr_mulA opn_mul (vg_val (ve_bin op_modN opn_mod (vg_val (ve_call (F_Lraw c) mono_Lraw (hr.mono (by omega)) rfl rfl (va_cons (vg_val (nv 0)) (va_cons (vg_val (nv 1)) (va_nil))))) (vg_val (ve_bin op_pow opn_pow (vg_val (ve_int)) (vg_val (ve_int)))))) (vg_val (ve_bin opr_add opn_add (vg_val (ve_int)) (vg_val (ve_bin op_modN opn_mod (vg_val (ve_bin opr_div opn_div (vg_val (nv 3)) (vg_val (ve_int)))) (vg_val (ve_int)))))))) (vg_val (ve_bin op_pow opn_pow (vg_val (ve_int)) (vg_val (ve_int)))))) (vss_cons (vs_if (vt_cmp (opr_eq hr) opn_eq (vg_val (ve_bin op_modN opn_mod (vg_val (ve_bin opr_div opn_div (vg_val (nv 3)) (vg_val (ve_int)))) (vg_val (ve_int)))) (vg_val (ve_int)) rfl) (vss_one (sa 4 sc.nd (ve_bin op_sub opn_sub (vg_val (ve_bin op_sub opn_sub (vg_val (ve_bin op_pow opn_pow (vg_val (ve_int)) (vg_val (ve_int)))) (vg_val (ve_int)))) (vg_val (ve_bin op_modN opn_mod (vg_val (ve_bin opr_div opn_div (vg_val (nv 3)) (vg_val (ve_int)))) (vg_val (ve_int))))))) (vss_nil)) (vss_cons (vs_if (vt_cmp (opr_eq hr) opn_eq (vg_val (ve_bin op_modN opn_mod (vg_val (ve_bin opr_div opn_div (vg_val (nv 3)) (vg_val (ve_int)))) (vg_val (ve_int)))) (vg_val (ve_int)) rfl) (vss_one (vs_ret (ve_bin op_sub opn_sub (vg_val (ve_int)) (vg_val (nv 4))))) (vss_nil)) (vss_one (vs_ret (nv 4))))))))) mono_Loperand rd_Loperand
theorem sc_Lnested : FnScope ["_law_lines_here", "_law_opened", "_law_line", "_law_head", "_law_yes", "_law_now"] ["_law_lines_here"] (defScope s_Lnested) := ⟨rfl, rfl, rfl, by decide +kernel, rfl, by decide +kernel, by decide +kernel⟩
theorem F_Lnested {P : Program} {w : World} {K : PySem.W.Frag} {mg : Str → Option Value} {base : Heap} (c : Hd K mg) : Fv P w K mg base "_law_nested" 2 1 sp_Lnested :=
  Fv.mk2 (κ := [true]) (t := t_Lnested) c.f_Lnested sc_Lnested (fun F => F.bindsN fun _ _ _ _ _ _ us hl => match us, hl with | [_], _ => rfl) rfl (by decide)
    (fun f cdv A outer s H E hr => let sc := sc_Lnested; (vss_cons (sa 1 sc.nd (ve_lst (va_cons (vg_val (ve_lst (va_cons (vg_val (ve_tup (va_cons (vg_val ((ve_str rfl))) (va_nil)))) (va_cons (vg_val (ve_non)) (va_cons (vg_val (ve_lst (va_nil))) (va_nil)))))) (va_nil)))) (vss_cons (vs_for (passes_of rfl) rfl (vi_lst (nv 0)) (tn 2 sc.nd) (vss_one (vs_if (vt_val (ve_call (F_Lbegins c) mono_Lbegins (hr.mono (by omega)) rfl rfl (va_cons (vg_val (nv 2)) (va_nil)))) (vss_one (vs_expr (m_app 1 (va_cons (vg_val (ve_lst (va_cons (vg_val (nv 2)) (va_cons (vg_val (ve_non)) (va_cons (vg_val (ve_lst (va_nil))) (va_nil)))))) (va_nil))))) (vss_one (vs_if (vt_cmp (opr_eq hr) opn_eq (vg_val (ve_ix hr (vg_val (nv 2)) (vg_val (ve_int)) (fun _ _ => rfl))) (vg_val ((ve_str rfl))) rfl) (vss_cons (vs_set hr (ve_still (ve_take (vp_ix (vp_ix (np 1) (vq_un un_neg opn_neg (vq_int)) (fun _ _ => rfl)) (vq_int) (fun _ _ => rfl)))) (vp_ix (np 1) (vq_un un_neg opn_neg (vq_int)) (fun _ _ => rfl)) (vq_int)) (vss_one (vs_set hr (ve_lst (va_nil)) (vp_ix (np 1) (vq_un un_neg opn_neg (vq_int)) (fun _ _ => rfl)) (vq_int)))) (vss_one (vs_if (vt_cmp (opr_eq hr) opn_eq (vg_val (ve_ix hr (vg_val (nv 2)) (vg_val (ve_int)) (fun _ _ => rfl))) (vg_val ((ve_str rfl))) rfl) (vss_cons (vs_asgT (ve_still (mp_pop (np 1))) (vt_names (n := 0) rfl (vns_cons (i := 3) sc.nd rfl (by first | exact Or.inl rfl | exact Or.inr rfl) (ne_of_beq_false rfl) (vns_cons (i := 4) sc.nd rfl (by first | exact Or.inl rfl | exact Or.inr rfl) (ne_of_beq_false rfl) (vns_cons (i := 5) sc.nd rfl (by first | exact Or.inl rfl | exact Or.inr rfl) (ne_of_beq_false rfl) (vns_nil)))))) (vss_one (vs_if (vt_cmp (opr_ne hr) opn_ne (vg_val (ve_ix hr (vg_val (nv 3)) (vg_val (ve_int)) (fun _ _ => rfl))) (vg_val ((ve_str rfl))) rfl) (vss_one (vs_expr (mp_app (vp_ix (vp_ix (np 1) (vq_un un_neg opn_neg (vq_int)) (fun _ _ => rfl)) (vq_int) (fun _ _ => rfl)) (vaq_cons (vq_bin opr_add opn_add (nq 3) (vq_tup (vaq_cons (nq 5) (vaq_nil)))) (vaq_nil))))) (vss_one (vs_if (vt_cmp op_isN opn_isN (vg_val (nv 4)) (vg_val ve_non) rfl) (vss_one (vs_expr (mp_app (vp_ix (vp_ix (np 1) (vq_un un_neg opn_neg (vq_int)) (fun _ _ => rfl)) (vq_int) (fun _ _ => rfl)) (vaq_cons (vq_bin opr_add opn_add (vq_bin opr_add opn_add (vq_tup (vaq_cons ((vq_str rfl)) (vaq_nil))) (vq_slice (nq 3) voc_int voc_none)) (vq_still (vq_tup (vaq_cons (nq 5) (vaq_cons (vq_lst (vaq_nil)) (vaq_nil)))))) (vaq_nil))))) (vss_one (vs_expr (mp_app (vp_ix (vp_ix (np 1) (vq_un un_neg opn_neg (vq_int)) (fun _ _ => rfl)) (vq_int) (fun _ _ => rfl)) (vaq_cons (vq_bin opr_add opn_add (vq_bin opr_add opn_add (vq_tup (vaq_cons ((vq_str rfl)) (vaq_nil))) (vq_slice (nq 3) voc_int voc_none)) (vq_tup (vaq_cons (nq 4) (vaq_cons (nq 5) (vaq_nil))))) (vaq_nil)))))))))) (vss_one (vs_expr (mp_app (vp_ix (vp_ix (np 1) (vq_un un_neg opn_neg (vq_int)) (fun _ _ => rfl)) (vq_int) (fun _ _ => rfl)) (vaq_cons (nq 2) (vaq_nil)))))))))))) (vss_one (vs_ret (ve_take (vp_ix (vp_ix (np 1) (vq_int) (fun _ _ => rfl)) (vq_int) (fun _ _ => rfl)))))))) mono_Lnested rd_Lnested
theorem sc_Ldepth : FnScope ["_law_lines_here", "_law_now", "_law_most", "_law_line"] ["_law_lines_here"] (defScope s_Ldepth) := ⟨rfl, rfl, rfl, by decide +kernel, rfl, by decide +kernel, by decide +kernel⟩
theorem F_Ldepth {P : Program} {w : World} {K : PySem.W.Frag} {mg : Str → Option Value} {base : Heap} (c : Hd K mg) : Fv P w K mg base "_law_depth" 2 1 sp_Ldepth :=
  Fv.mk2 (κ := [true]) (t := t_Ldepth) c.f_Ldepth sc_Ldepth (fun F => F.bindsN fun _ _ _ _ _ _ us hl => match us, hl with | [_], _ => rfl) rfl (by decide)
    (fun f cdv A outer s H E hr => let sc := sc_Ldepth; (vss_cons (sa 1 sc.nd (ve_int)) (vss_cons (sa 2 sc.nd (ve_int)) (vss_cons (vs_for (passes_of rfl) rfl (vi_lst (nv 0)) (tn 3 sc.nd) (vss_cons (sa 1 sc.nd (ve_bin op_sub opn_sub (vg_val (ve_bin opr_add opn_add (vg_val (nv 1)) (vg_val (ve_callTy call_int1 opn_int rfl c.b_int rfl (va_cons (vg_val (ve_call (F_Lbegins c) mono_Lbegins (hr.mono (by omega)) rfl rfl (va_cons (vg_val (nv 3)) (va_nil)))) (va_nil)))))) (vg_val (ve_callTy call_int1 opn_int rfl c.b_int rfl (va_cons (vg_val (ve_cmp (opr_eq hr) opn_eq (vg_val (ve_ix hr (vg_val (nv 3)) (vg_val (ve_int)) (fun _ _ => rfl))) (vg_val ((ve_str rfl))) rfl)) (va_nil)))))) (vss_one (sa 2 sc.nd (ve_callB (call_max2 rfl) opn_max rfl c.b_max rfl (va_cons (vg_val (nv 2)) (va_cons (vg_val (nv 1)) (va_nil)))))))) (vss_one (vs_ret (nv 2))))))) mono_Ldepth rd_Ldepth
theorem sc_Opened_turned : FnScope ["self"] ["self"] (defScope s_Opened_turned) := ⟨rfl, rfl, rfl, by decide +kernel, rfl, by decide +kernel, by decide +kernel⟩
theorem M_Opened_turned {P : Program} {w : World} {K : PySem.W.Frag} {mg : Str → Option Value} {base : Heap} (c : Hd K mg) : Mv P w K mg base 1 "turned" 3 1 sp_Opened_turned :=
  Mv.make (κ := [true]) (t := t_Opened_turned) c.f_Opened_turned c.me_Opened_turned sc_Opened_turned (fun F => F.bindsN fun _ _ _ _ _ _ us hl => match us, hl with | [_], _ => rfl) rfl (by decide)
    (fun f cdv A outer s H E hr => let sc := sc_Opened_turned; (vss_cons (vs_if (vt_w (vw_or (vt_cmpW (opr_ne hr) opn_ne (wv_ix hr (wv_fld (wv_name 0) c.kl_Opened c.na_Opened_head rfl) (wv_int) (fun _ _ => rfl)) ((wv_str rfl)) rfl) (vw_or1 (vt_cmpW op_notN opn_notN (wv_fld (wv_name 0) c.kl_Opened c.na_Opened_yes rfl) wv_non rfl)))) (vss_one (vs_raise (s := "NoForm") rfl (F_ini (P := P) (w := w) (base := base) c) (exOk_g c.ex) (exOk_o c.ex "NoForm" (by decide)) rfl (hr.mono (by omega)) rfl c.gx_NoForm)) (vss_nil)) (vss_cons (vs_fldE (i := 0) (ve_still (ve_take (vp_fd (np 0) c.kl_Opened c.na_Opened_now rfl))) rfl (by first | exact Or.inl rfl | exact Or.inr (Or.inl rfl) | exact Or.inr (Or.inr rfl)) c.kl_Opened c.na_Opened_yes rfl) (vss_one (vs_fldE (i := 0) (ve_lst (va_nil)) rfl (by first | exact Or.inl rfl | exact Or.inr (Or.inl rfl) | exact Or.inr (Or.inr rfl)) c.kl_Opened c.na_Opened_now rfl))))) mono_Opened_turned rd_Opened_turned
theorem sc_sum_read : FnScope ["words", "one", "other"] ["words"] (defScope s_sum_read) := ⟨rfl, rfl, rfl, by decide +kernel, rfl, by decide +kernel, by decide +kernel⟩
theorem F_sum_read {P : Program} {w : World} {K : PySem.W.Frag} {mg : Str → Option Value} {base : Heap} (c : Hd K mg) : Fv P w K mg base "sum_read" 3 1 sp_sum_read :=
  Fv.mk2 (κ := [true]) (t := t_sum_read) c.f_sum_read sc_sum_read (fun F => F.bindsN fun _ _ _ _ _ _ us hl => match us, hl with | [_], _ => rfl) rfl (by decide)
    (fun f cdv A outer s H E hr => let sc := sc_sum_read; (vss_cons (vs_if (vt_w (vw_or (vt_cmp (opr_ne hr) opn_ne (vg_val (ve_callB call_lenA opn_len rfl c.b_len rfl (va_cons (vg_val (nv 0)) (va_nil)))) (vg_val (ve_int)) rfl) (vw_or (vt_cmp (opr_ne hr) opn_ne (vg_val (ve_ix hr (vg_val (nv 0)) (vg_val (ve_int)) (fun _ _ => rfl))) (vg_val ((ve_str rfl))) rfl) (vw_or (vt_notInG rfl c.g_SUM_SIGNS (vg_val (ve_ix hr (vg_val (nv 0)) (vg_val (ve_int)) (fun _ _ => rfl)))) (vw_or1 (vt_not (vt_val (ve_call (F_is_name c) mono_is_name (hr.mono (by omega)) rfl rfl (va_cons (vg_val (ve_ix hr (vg_val (nv 0)) (vg_val (ve_int)) (fun _ _ => rfl))) (va_nil)))))))))) (vss_one (vs_ret (ve_non))) (vss_nil)) (vss_cons (sa 1 sc.nd (ve_call (F_operand_read c) mono_operand_read (hr.mono (by omega)) rfl rfl (va_cons (vg_val (ve_ix hr (vg_val (nv 0)) (vg_val (ve_int)) (fun _ _ => rfl))) (va_nil)))) (vss_cons (sa 2 sc.nd (ve_call (F_operand_read c) mono_operand_read (hr.mono (by omega)) rfl rfl (va_cons (vg_val (ve_ix hr (vg_val (nv 0)) (vg_val (ve_int)) (fun _ _ => rfl))) (va_nil)))) (vss_cons (vs_if (vt_w (vw_or (vt_cmp op_isN opn_isN (vg_val (nv 1)) (vg_val ve_non) rfl) (vw_or1 (vt_cmp op_isN opn_isN (vg_val (nv 2)) (vg_val ve_non) rfl)))) (vss_one (vs_ret (ve_non))) (vss_nil)) (vss_one (vs_ret (ve_tup (va_cons (vg_val ((ve_str rfl))) (va_cons (vg_val (ve_ix hr (vg_val (nv 0)) (vg_val (ve_int)) (fun _ _ => rfl))) (va_cons (vg_val (nv 1)) (va_cons (vg_val (ve_ix hr (vg_val (nv 0)) (vg_val (ve_int)) (fun _ _ => rfl))) (va_cons (vg_val (nv 2)) (va_nil)))))))))))))) mono_sum_read rd_sum_read
theorem sc_test_read : FnScope ["words", "one", "other"] ["words"] (defScope s_test_read) := ⟨rfl, rfl, rfl, by decide +kernel, rfl, by decide +kernel, by decide +kernel⟩
theorem F_test_read {P : Program} {w : World} {K : PySem.W.Frag} {mg : Str → Option Value} {base : Heap} (c : Hd K mg) : Fv P w K mg base "test_read" 3 1 sp_test_read :=
  Fv.mk2 (κ := [true]) (t := t_test_read) c.f_test_read sc_test_read (fun F => F.bindsN fun _ _ _ _ _ _ us hl => match us, hl with | [_], _ => rfl) rfl (by decide)
    (fun f cdv A outer s H E hr => let sc := sc_test_read; (vss_cons (vs_if (vt_w (vw_or (vt_cmp (opr_ne hr) opn_ne (vg_val (ve_callB call_lenA opn_len rfl c.b_len rfl (va_cons (vg_val (nv 0)) (va_nil)))) (vg_val (ve_int)) rfl) (vw_or (vt_cmp (opr_ne hr) opn_ne (vg_val (ve_ix hr (vg_val (nv 0)) (vg_val (ve_int)) (fun _ _ => rfl))) (vg_val ((ve_str rfl))) rfl) (vw_or1 (vt_notInG rfl c.g_TEST_SIGNS (vg_val (ve_ix hr (vg_val (nv 0)) (vg_val (ve_int)) (fun _ _ => rfl)))))))) (vss_one (vs_ret (ve_non))) (vss_nil)) (vss_cons (sa 1 sc.nd (ve_call (F_operand_read c) mono_operand_read (hr.mono (by omega)) rfl rfl (va_cons (vg_val (ve_ix hr (vg_val (nv 0)) (vg_val (ve_int)) (fun _ _ => rfl))) (va_nil)))) (vss_cons (sa 2 sc.nd (ve_call (F_operand_read c) mono_operand_read (hr.mono (by omega)) rfl rfl (va_cons (vg_val (ve_ix hr (vg_val (nv 0)) (vg_val (ve_int)) (fun _ _ => rfl))) (va_nil)))) (vss_cons (vs_if (vt_w (vw_or (vt_cmp op_isN opn_isN (vg_val (nv 1)) (vg_val ve_non) rfl) (vw_or1 (vt_cmp op_isN opn_isN (vg_val (nv 2)) (vg_val ve_non) rfl)))) (vss_one (vs_ret (ve_non))) (vss_nil)) (vss_one (vs_ret (ve_tup (va_cons (vg_val ((ve_str rfl))) (va_cons (vg_val (nv 1)) (va_cons (vg_val (ve_ix hr (vg_val (nv 0)) (vg_val (ve_int)) (fun _ _ => rfl))) (va_cons (vg_val (nv 2)) (va_nil))))))))))))) mono_test_read rd_test_read
theorem sc_Lnames : FnScope ["_law_script", "_law_first_here", "_law_stem", "_law_at", "_law_names_here", "_law_k", "_law_number", "_law_word_here"] ["_law_script"] (defScope s_Lnames) := ⟨rfl, rfl, rfl, by decide +kernel, rfl, by decide +kernel, by decide +kernel⟩
theorem F_Lnames {P : Program} {w : World} {K : PySem.W.Frag} {mg : Str → Option Value} {base : Heap} (c : Hd K mg) : Fv P w K mg base "_law_names" 3 1 sp_Lnames :=
  Fv.mk2 (κ := [true]) (t := t_Lnames) c.f_Lnames sc_Lnames (fun F => F.bindsN fun _ _ _ _ _ _ us hl => match us, hl with | [_], _ => rfl) rfl (by decide)
    (fun f cdv A outer s H E hr => let sc := sc_Lnames; (vss_cons (sa 1 sc.nd (ve_call (F_Lmix c) mono_Lmix (hr.mono (by omega)) rfl rfl (va_cons (vg_val (nv 0)) (va_cons (vg_val (ve_int)) (va_nil))))) (vss_cons (sa 2 sc.nd (ve_call (F_Lword c) mono_Lword (hr.mono (by omega)) rfl rfl (va_cons (vg_val (nv 1)) (va_cons (vg_val (ve_bin opr_add opn_add (vg_val (ve_int)) (vg_val (ve_bin op_modN opn_mod (vg_val (ve_bin opr_div opn_div (vg_val (nv 1)) (vg_val (ve_int)))) (vg_val (ve_int)))))) (va_nil))))) (vss_cons (sa 3 sc.nd (ve_bin op_modN opn_mod (vg_val (ve_bin opr_div opn_div (vg_val (nv 1)) (vg_val (ve_int)))) (vg_val (ve_callB call_lenA opn_len rfl c.b_len rfl (va_cons (vg_val (nv 2)) (va_nil)))))) (vss_cons (sa 4 sc.nd (ve_lst (va_nil))) (vss_cons (vs_for (passes_of rfl) rfl (vi_range1 rfl c.b_range (va_cons (vg_val (ve_int)) (va_nil))) (tn 5 sc.nd) (vss_cons (sa 6 sc.nd (ve_call (F_Lmix c) mono_Lmix (hr.mono (by omega)) rfl rfl (va_cons (vg_val (nv 0)) (va_cons (vg_val (ve_bin opr_add opn_add (vg_val (ve_int)) (vg_val (nv 5)))) (va_nil))))) (vss_cons (sa 7 sc.nd (ve_still (ve_bin opr_add opn_add (vg_val (ve_bin opr_add opn_add (vg_val (ve_slice (vg_val (nv 2)) (vo_none) (vo_some (nv 3)))) (vg_val (ve_call (F_Lsign c) mono_Lsign (hr.mono (by omega)) rfl rfl (va_cons (vg_val (ve_bin opr_add opn_add (vg_val (ve_bin opr_div opn_div (vg_val (nv 1)) (vg_val (ve_int)))) (vg_val (ve_bin opr_mulA opn_mul (vg_val (ve_int)) (vg_val (nv 5)))))) (va_cons (vg_val (ve_cmp (opr_eq hr) opn_eq (vg_val (nv 3)) (vg_val (ve_int)) rfl)) (va_nil))))))) (vg_val (ve_slice (vg_val (nv 2)) (vo_some (ve_bin opr_add opn_add (vg_val (nv 3)) (vg_val (ve_int)))) (vo_none)))))) (vss_cons (vs_if (vt_cmp (opr_eq hr) opn_eq (vg_val (ve_bin op_modN opn_mod (vg_val (nv 1)) (vg_val (ve_int)))) (vg_val (ve_int)) rfl) (vss_one (sa 7 sc.nd (ve_call (F_Lword c) mono_Lword (hr.mono (by omega)) rfl rfl (va_cons (vg_val (nv 6)) (va_cons (vg_val (ve_bin opr_add opn_add (vg_val (ve_int)) (vg_val (ve_bin op_modN opn_mod (vg_val (ve_bin opr_div opn_div (vg_val (nv 6)) (vg_val (ve_int)))) (vg_val (ve_int)))))) (va_nil)))))) (vss_nil)) (vss_cons (vs_if (vt_w (vw_and (vt_cmp (opr_eq hr) opn_eq (vg_val (nv 5)) (vg_val (ve_int)) rfl) (vw_and1 (vt_cmp (opr_eq hr) opn_eq (vg_val (ve_bin op_modN opn_mod (vg_val (nv 6)) (vg_val (ve_int)))) (vg_val (ve_int)) rfl)))) (vss_one (sa 7 sc.nd (ve_bin opr_add opn_add (vg_val (ve_ix hr (vg_val (ve_call0 (F_Lkept c) mono_Lkept (hr.mono (by omega)) rfl)) (vg_val (ve_bin op_modN opn_mod (vg_val (ve_bin opr_div opn_div (vg_val (nv 6)) (vg_val (ve_int)))) (vg_val (ve_int)))) (fun _ _ => rfl))) (vg_val (ve_call (F_Lsign c) mono_Lsign (hr.mono (by omega)) rfl rfl (va_cons (vg_val (ve_bin opr_div opn_div (vg_val (nv 6)) (vg_val (ve_int)))) (va_cons (vg_val (ve_bl)) (va_nil)))))))) (vss_nil)) (vss_cons (vs_if (vt_cmp (opr_in hr) opn_in (vg_val (nv 7)) (vg_val (ve_call0 (F_Lkept c) mono_Lkept (hr.mono (by omega)) rfl)) rfl) (vss_one (sa 7 sc.nd (ve_still (ve_bin opr_add opn_add (vg_val ((ve_str rfl))) (vg_val (ve_slice (vg_val (nv 7)) (vo_some (ve_int)) (vo_none))))))) (vss_nil)) (vss_one (vs_expr (m_app 4 (va_cons (vg_val (nv 7)) (va_nil))))))))))) (vss_one (vs_ret (nm 4))))))))) mono_Lnames rd_Lnames
theorem sc_Ldeed : FnScope ["_law_script", "_law_k", "_law_names_here", "_law_number", "_law_one", "_law_other", "_law_sign_here", "_law_goes_here"] ["_law_script", "_law_k", "_law_names_here", "_law_number"] (defScope s_Ldeed) := ⟨rfl, rfl, rfl, by decide +kernel, rfl, by decide +kernel, by decide +kernel⟩
theorem F_Ldeed {P : Program} {w : World} {K : PySem.W.Frag} {mg : Str → Option Value} {base : Heap} (c : Hd K mg) : Fv P w K mg base "_law_deed" 3 4 sp_Ldeed :=
  Fv.mk2 (κ := [true, true, true, true]) (t := t_Ldeed) c.f_Ldeed sc_Ldeed (fun F => F.bindsN fun _ _ _ _ _ _ us hl => match us, hl with | [_, _, _, _], _ => rfl) rfl (by decide)
    (fun f cdv A outer s H E hr => let sc := sc_Ldeed; (vss_cons (sa 4 sc.nd (ve_call (F_Loperand c) mono_Loperand (hr.mono (by omega)) rfl rfl (va_cons (vg_val (nv 0)) (va_cons (vg_val (nv 1)) (va_cons (vg_val (nv 2)) (va_cons (vg_val (ve_bin opr_div opn_div (vg_val (ve_bin op_modN opn_mod (vg_val (ve_bin opr_mulA opn_mul (vg_val (nv 3)) (vg_val (ve_int)))) (vg_val (ve_int)))) (vg_val (ve_int)))) (va_nil))))))) (vss_cons (sa 5 sc.nd (ve_call (F_Loperand c) mono_Loperand (hr.mono (by omega)) rfl rfl (va_cons (vg_val (nv 0)) (va_cons (vg_val (ve_bin opr_add opn_add (vg_val (nv 1)) (vg_val (ve_int)))) (va_cons (vg_val (nv 2)) (va_cons (vg_val (ve_bin opr_div opn_div (vg_val (ve_bin op_modN opn_mod (vg_val (ve_bin opr_mulA opn_mul (vg_val (nv 3)) (vg_val (ve_int)))) (vg_val (ve_int)))) (vg_val (ve_int)))) (va_nil))))))) (vss_cons (vs_if (vt_cmp op_lt opn_lt (vg_val (ve_bin op_modN opn_mod (vg_val (nv 3)) (vg_val (ve_int)))) (vg_val (ve_int)) rfl) (vss_cons (sa 6 sc.nd (ve_ix hr (vg_val (ve_lst (va_cons (vg_val ((ve_str rfl))) (va_cons (vg_val ((ve_str rfl))) (va_nil))))) (vg_val (ve_bin op_modN opn_mod (vg_val (ve_bin opr_div opn_div (vg_val (nv 3)) (vg_val (ve_int)))) (vg_val (ve_int)))) (fun _ _ => rfl))) (vss_one (vs_ret (ve_tup (va_cons (vg_val ((ve_str rfl))) (va_cons (vg_val (nv 4)) (va_cons (vg_val (nv 6)) (va_cons (vg_val (nv 5)) (va_nil))))))))) (vss_nil)) (vss_cons (sa 6 sc.nd (ve_ix hr (vg_val (ve_lst (va_cons (vg_val ((ve_str rfl))) (va_cons (vg_val ((ve_str rfl))) (va_cons (vg_val ((ve_str rfl))) (va_cons (vg_val ((ve_str rfl))) (va_cons (vg_val ((ve_str rfl))) (va_cons (vg_val ((ve_str rfl))) (va_nil))))))))) (vg_val (ve_bin op_modN opn_mod (vg_val (ve_bin opr_div opn_div (vg_val (nv 3)) (vg_val (ve_int)))) (vg_val (ve_int)))) (fun _ _ => rfl))) (vss_cons (sa 7 sc.nd (ve_ix hr (vg_val (nv 2)) (vg_val (ve_bin op_modN opn_mod (vg_val (ve_bin opr_div opn_div (vg_val (nv 3)) (vg_val (ve_int)))) (vg_val (ve_int)))) (fun _ _ => rfl))) (vss_one (vs_ret (ve_tup (va_cons (vg_val ((ve_str rfl))) (va_cons (vg_val (nv 7)) (va_cons (vg_val (nv 4)) (va_cons (vg_val (nv 6)) (va_cons (vg_val (nv 5)) (va_nil))))))))))))))) mono_Ldeed rd_Ldeed
theorem sc_Lfirst : FnScope ["_law_script", "_law_number"] ["_law_script"] (defScope s_Lfirst) := ⟨rfl, rfl, rfl, by decide +kernel, rfl, by decide +kernel, by decide +kernel⟩
theorem F_Lfirst {P : Program} {w : World} {K : PySem.W.Frag} {mg : Str → Option Value} {base : Heap} (c : Hd K mg) : Fv P w K mg base "_law_first" 3 1 sp_Lfirst :=
  Fv.mk2 (κ := [true]) (t := t_Lfirst) c.f_Lfirst sc_Lfirst (fun F => F.bindsN fun _ _ _ _ _ _ us hl => match us, hl with | [_], _ => rfl) rfl (by decide)
    (fun f cdv A outer s H E hr => let sc := sc_Lfirst; (vss_cons (sa 1 sc.nd (ve_call (F_Lmix c) mono_Lmix (hr.mono (by omega)) rfl rfl (va_cons (vg_val (nv 0)) (va_cons (vg_val (ve_int)) (va_nil))))) (vss_one (vs_ret (ve_ix hr (vg_val (ve_lst (va_cons (vg_val (ve_bin op_modN opn_mod (vg_val (ve_bin opr_div opn_div (vg_val (nv 1)) (vg_val (ve_int)))) (vg_val (ve_int)))) (va_cons (vg_val (ve_int)) (va_cons (vg_val (ve_int)) (va_nil)))))) (vg_val (ve_bin op_modN opn_mod (vg_val (nv 1)) (vg_val (ve_int)))) (fun _ _ => rfl)))))) mono_Lfirst rd_Lfirst
theorem sc_Lspread : FnScope ["_law_script", "_law_lines_here", "_law_rows", "_law_k", "_law_number"] ["_law_script", "_law_lines_here"] (defScope s_Lspread) := ⟨rfl, rfl, rfl, by decide +kernel, rfl, by decide +kernel, by decide +kernel⟩
theorem F_Lspread {P : Program} {w : World} {K : PySem.W.Frag} {mg : Str → Option Value} {base : Heap} (c : Hd K mg) : Fv P w K mg base "_law_spread" 3 2 sp_Lspread :=
  Fv.mk2 (κ := [true, true]) (t := t_Lspread) c.f_Lspread sc_Lspread (fun F => F.bindsN fun _ _ _ _ _ _ us hl => match us, hl with | [_, _], _ => rfl) rfl (by decide)
    (fun f cdv A outer s H E hr => let sc := sc_Lspread; (vss_cons (sa 2 sc.nd (ve_lst (va_nil))) (vss_cons (vs_for (passes_of rfl) rfl (vi_range1 rfl c.b_range (va_cons (vg_val (ve_callB call_lenA opn_len rfl c.b_len rfl (va_cons (vg_val (nv 1)) (va_nil)))) (va_nil))) (tn 3 sc.nd) (vss_cons (sa 4 sc.nd (ve_bin opr_div opn_div (vg_val (ve_call (F_Lmix c) mono_Lmix (hr.mono (by omega)) rfl rfl (va_cons (vg_val (nv 0)) (va_cons (vg_val (ve_bin opr_add opn_add (vg_val (ve_int)) (vg_val (nv 3)))) (va_nil))))) (vg_val (ve_int)))) (vss_cons (vs_if (vt_cmp (opr_eq hr) opn_eq (vg_val (ve_bin op_modN opn_mod (vg_val (nv 4)) (vg_val (ve_int)))) (vg_val (ve_int)) rfl) (vss_one (vs_expr (m_app 2 (va_cons (vg_val (ve_bin op_mulS opn_mulS (vg_val ((ve_str rfl))) (vg_val (ve_bin op_modN opn_mod (vg_val (ve_bin opr_div opn_div (vg_val (nv 4)) (vg_val (ve_int)))) (vg_val (ve_int)))))) (va_nil))))) (vss_nil)) (vss_one (vs_expr (m_app 2 (va_cons (vg_val (ve_bin opr_add opn_add (vg_val (ve_bin op_mulS opn_mulS (vg_val ((ve_str rfl))) (vg_val (ve_bin op_modN opn_mod (vg_val (ve_bin opr_div opn_div (vg_val (nv 4)) (vg_val (ve_int)))) (vg_val (ve_int)))))) (vg_val (ve_call (F_Lwords c) mono_Lwords (hr.mono (by omega)) rfl rfl (va_cons (vg_val (ve_ix hr (vg_val (nv 1)) (vg_val (nv 3)) (fun _ _ => rfl))) (va_nil)))))) (va_nil)))))))) (vss_one (vs_ret (ve_join rfl (vg_val (ve_bin opr_add opn_add (ng 2) (vg_val (ve_bin opr_mulA opn_mul (vg_val (ve_lst (va_cons (vg_val ((ve_str rfl))) (va_nil)))) (vg_val (ve_bin op_modN opn_mod (vg_val (ve_bin opr_div opn_div (vg_val (ve_call (F_Lmix c) mono_Lmix (hr.mono (by omega)) rfl rfl (va_cons (vg_val (nv 0)) (va_cons (vg_val (ve_int)) (va_nil))))) (vg_val (ve_int)))) (vg_val (ve_int)))))))))))))) mono_Lspread rd_Lspread
theorem sc_opening : FnScope ["words", "test"] ["words"] (defScope s_opening) := ⟨rfl, rfl, rfl, by decide +kernel, rfl, by decide +kernel, by decide +kernel⟩
theorem F_opening {P : Program} {w : World} {K : PySem.W.Frag} {mg : Str → Option Value} {base : Heap} (c : Hd K mg) : Fv P w K mg base "opening" 4 1 sp_opening :=
  Fv.mk2 (κ := [true]) (t := t_opening) c.f_opening sc_opening (fun F => F.bindsN fun _ _ _ _ _ _ us hl => match us, hl with | [_], _ => rfl) rfl (by decide)
    (fun f cdv A outer s H E hr => let sc := sc_opening; (vss_cons (sa 1 sc.nd (ve_call (F_test_read c) mono_test_read (hr.mono (by omega)) rfl rfl (va_cons (vg_val (nv 0)) (va_nil)))) (vss_cons (vs_if (vt_cmp op_notN opn_notN (vg_val (nv 1)) (vg_val ve_non) rfl) (vss_one (vs_ret (ve_bin opr_add opn_add (vg_val (ve_tup (va_cons (vg_val ((ve_str rfl))) (va_nil)))) (vg_val (ve_slice (vg_val (nv 1)) (vo_some (ve_int)) (vo_none)))))) (vss_nil)) (vss_one (vs_ret (ve_call (F_numbered c) mono_numbered (hr.mono (by omega)) rfl rfl (va_cons (vg_val (nv 0)) (va_cons (vg_val (ve_tup (va_cons (vg_val ((ve_str rfl))) (va_cons (vg_val ((ve_str rfl))) (va_nil))))) (va_nil))))))))) mono_opening rd_opening
theorem sc_plain : FnScope ["words", "found"] ["words"] (defScope s_plain) := ⟨rfl, rfl, rfl, by decide +kernel, rfl, by decide +kernel, by decide +kernel⟩
theorem F_plain {P : Program} {w : World} {K : PySem.W.Frag} {mg : Str → Option Value} {base : Heap} (c : Hd K mg) : Fv P w K mg base "plain" 4 1 sp_plain :=
  Fv.mk2 (κ := [true]) (t := t_plain) c.f_plain sc_plain (fun F => F.bindsN fun _ _ _ _ _ _ us hl => match us, hl with | [_], _ => rfl) rfl (by decide)
    (fun f cdv A outer s H E hr => let sc := sc_plain; (vss_cons (vs_if (vt_cmp (opr_eq hr) opn_eq (vg_val (nv 0)) (vg_val (ve_lst (va_cons (vg_val ((ve_str rfl))) (va_nil)))) rfl) (vss_one (vs_ret (ve_tup (va_cons (vg_val ((ve_str rfl))) (va_nil))))) (vss_nil)) (vss_cons (sa 1 sc.nd (ve_call (F_numbered c) mono_numbered (hr.mono (by omega)) rfl rfl (va_cons (vg_val (nv 0)) (va_cons (vg_val (ve_tup (va_cons (vg_val ((ve_str rfl))) (va_cons (vg_val ((ve_str rfl))) (va_nil))))) (va_nil))))) (vss_cons (vs_if (vt_cmp op_isN opn_isN (vg_val (nv 1)) (vg_val ve_non) rfl) (vss_one (sa 1 sc.nd (ve_call (F_sum_read c) mono_sum_read (hr.mono (by omega)) rfl rfl (va_cons (vg_val (nv 0)) (va_nil))))) (vss_nil)) (vss_cons (vs_if (vt_cmp op_isN opn_isN (vg_val (nv 1)) (vg_val ve_non) rfl) (vss_one (vs_raise (s := "NoForm") rfl (F_ini (P := P) (w := w) (base := base) c) (exOk_g c.ex) (exOk_o c.ex "NoForm" (by decide)) rfl (hr.mono (by omega)) rfl c.gx_NoForm)) (vss_nil)) (vss_one (vs_ret (nv 1)))))))) mono_plain rd_plain
theorem sc_Lstep : FnScope ["_law_script", "_law_k", "_law_names_here", "_law_stack", "_law_number", "_law_way", "_law_line"] ["_law_script", "_law_k", "_law_names_here", "_law_stack"] (defScope s_Lstep) := ⟨rfl, rfl, rfl, by decide +kernel, rfl, by decide +kernel, by decide +kernel⟩
theorem F_Lstep {P : Program} {w : World} {K : PySem.W.Frag} {mg : Str → Option Value} {base : Heap} (c : Hd K mg) : Fv P w K mg base "_law_step" 4 4 sp_Lstep :=
  Fv.mk2 (κ := [true, true, true, true]) (t := t_Lstep) c.f_Lstep sc_Lstep (fun F => F.bindsN fun _ _ _ _ _ _ us hl => match us, hl with | [_, _, _, _], _ => rfl) rfl (by decide)
    (fun f cdv A outer s H E hr => let sc := sc_Lstep; (vss_cons (sa 4 sc.nd (ve_call (F_Lmix c) mono_Lmix (hr.mono (by omega)) rfl rfl (va_cons (vg_val (nv 0)) (va_cons (vg_val (nv 1)) (va_nil))))) (vss_cons (sa 5 sc.nd (ve_bin op_modN opn_mod (vg_val (nv 4)) (vg_val (ve_int)))) (vss_cons (sa 6 sc.nd (ve_non)) (vss_cons (vs_if (vt_w (vw_and (vt_cmp op_lt opn_lt (vg_val (nv 5)) (vg_val (ve_int)) rfl) (vw_and1 (vt_cmpW op_lt opn_lt (wv_callB call_lenA opn_len rfl c.b_len rfl (wvs_cons (wv_name 3) (wvs_nil))) (wv_int) rfl)))) (vss_one (sa 6 sc.nd (ve_call (F_Ldeed c) mono_Ldeed (hr.mono (by omega)) rfl rfl (va_cons (vg_val (nv 0)) (va_cons (vg_val (nv 1)) (va_cons (vg_val (nv 2)) (va_cons (vg_val (nv 4)) (va_nil)))))))) (vss_nil)) (vss_cons (vs_if (vt_w (vw_and (vt_cmp op_gt opn_gt (vg_val (nv 5)) (vg_val (ve_int)) rfl) (vw_and (vt_cmp op_lt opn_lt (vg_val (nv 5)) (vg_val (ve_int)) rfl) (vw_and1 (vt_cmpW op_lt opn_lt (wv_callB call_lenA opn_len rfl c.b_len rfl (wvs_cons (wv_name 3) (wvs_nil))) (wv_int) rfl))))) (vss_one (sa 6 sc.nd (ve_tup (va_cons (vg_val (ve_ix hr (vg_val (ve_lst (va_cons (vg_val ((ve_str rfl))) (va_cons (vg_val ((ve_str rfl))) (va_nil))))) (vg_val (ve_callTy call_int1 opn_int rfl c.b_int rfl (va_cons (vg_val (ve_cmp op_gt opn_gt (vg_val (nv 5)) (vg_val (ve_int)) rfl)) (va_nil)))) (fun _ _ => rfl))) (va_cons (vg_val (ve_bin op_modN opn_mod (vg_val (ve_bin opr_add opn_add (vg_val (ve_call (F_Lfirst c) mono_Lfirst (hr.mono (by omega)) rfl rfl (va_cons (vg_val (nv 0)) (va_nil)))) (vg_val (ve_bin opr_mulA opn_mul (vg_val (ve_int)) (vg_val (nv 1)))))) (vg_val (ve_int)))) (va_nil)))))) (vss_nil)) (vss_cons (vs_if (vt_w (vw_and (vt_cmp op_gt opn_gt (vg_val (nv 5)) (vg_val (ve_int)) rfl) (vw_and (vt_cmp op_lt opn_lt (vg_val (nv 5)) (vg_val (ve_int)) rfl) (vw_and1 (vt_cmpW (opr_ne hr) opn_ne (wv_name 3) (wv_lst (wvs_nil)) rfl))))) (vss_one (vs_ret (ve_call (F_Lclose c) mono_Lclose (hr.mono (by omega)) rfl rfl (al 3 (va_cons (vg_val (nv 4)) (va_nil)))))) (vss_nil)) (vss_cons (vs_if (vt_w (vw_and (vt_cmp op_gt opn_gt (vg_val (nv 5)) (vg_val (ve_int)) rfl) (vw_and1 (vt_cmp op_lt opn_lt (vg_val (nv 5)) (vg_val (ve_int)) rfl)))) (vss_one (sa 6 sc.nd (ve_lend (F_Lgoes c) mono_Lgoes (hr.mono (by omega)) rfl rfl (wvs_cons (wv_name 3) (wvs_cons (wv_name 4) (wvs_nil)))))) (vss_nil)) (vss_cons (vs_if (vt_w (vw_and (vt_cmp (opr_eq hr) opn_eq (vg_val (nv 5)) (vg_val (ve_int)) rfl) (vw_and (vt_cmpW (opr_ne hr) opn_ne (wv_name 3) (wv_lst (wvs_nil)) rfl) (vw_and1 (vt_cmpW (opr_in hr) opn_in (wv_ix hr (wv_ix hr (wv_name 3) (wv_un un_neg opn_neg (wv_int)) (fun _ _ => rfl)) (wv_int) (fun _ _ => rfl)) (wv_lst (wvs_cons ((wv_str rfl)) (wvs_cons ((wv_str rfl)) (wvs_nil)))) rfl))))) (vss_one (sa 6 sc.nd (ve_tup (va_cons (vg_val ((ve_str rfl))) (va_nil))))) (vss_nil)) (vss_cons (vs_if (vt_cmp op_isN opn_isN (vg_val (nv 6)) (vg_val ve_non) rfl) (vss_one (sa 6 sc.nd (ve_call (F_Ldeed c) mono_Ldeed (hr.mono (by omega)) rfl rfl (va_cons (vg_val (nv 0)) (va_cons (vg_val (nv 1)) (va_cons (vg_val (nv 2)) (va_cons (vg_val (ve_bin opr_add opn_add (vg_val (ve_bin opr_mulA opn_mul (vg_val (ve_bin opr_div opn_div (vg_val (nv 4)) (vg_val (ve_int)))) (vg_val (ve_int)))) (vg_val (ve_int)))) (va_nil)))))))) (vss_nil)) (vss_cons (vs_if (vt_val (ve_call (F_Lbegins c) mono_Lbegins (hr.mono (by omega)) rfl rfl (va_cons (vg_val (nv 6)) (va_nil)))) (vss_one (vs_expr (m_app 3 (va_cons (vg_val (ve_tup (va_cons (vg_val (ve_ix hr (vg_val (nv 6)) (vg_val (ve_int)) (fun _ _ => rfl))) (va_cons (vg_val (ve_ix hr (vg_val (ve_lst (va_cons (vg_val (ve_ix hr (vg_val (nv 6)) (vg_val (ve_int)) (fun _ _ => rfl))) (va_cons (vg_val (ve_un un_neg opn_neg (vg_val (ve_int)))) (va_nil))))) (vg_val (ve_callTy call_int1 opn_int rfl c.b_int rfl (va_cons (vg_val (ve_cmp (opr_eq hr) opn_eq (vg_val (ve_ix hr (vg_val (nv 6)) (vg_val (ve_int)) (fun _ _ => rfl))) (vg_val ((ve_str rfl))) rfl)) (va_nil)))) (fun _ _ => rfl))) (va_nil))))) (va_nil))))) (vss_nil)) (vss_one (vs_ret (nv 6)))))))))))))) mono_Lstep rd_Lstep
theorem sc_take : FnScope ["words", "opened", "statement", "head"] ["words", "opened"] (defScope s_take) := ⟨rfl, rfl, rfl, by decide +kernel, rfl, by decide +kernel, by decide +kernel⟩
theorem F_take {P : Program} {w : World} {K : PySem.W.Frag} {mg : Str → Option Value} {base : Heap} (c : Hd K mg) : Fv P w K mg base "take" 5 2 sp_take :=
  Fv.mk2 (κ := [true, true]) (t := t_take) c.f_take sc_take (fun F => F.bindsN fun _ _ _ _ _ _ us hl => match us, hl with | [_, _], _ => rfl) rfl (by decide)
    (fun f cdv A outer s H E hr => let sc := sc_take; (vss_cons (vs_if (vt_cmp (opr_eq hr) opn_eq (vg_val (nv 0)) (vg_val (ve_lst (va_cons (vg_val ((ve_str rfl))) (va_nil)))) rfl) (vss_cons (vs_expr (ve_methP (M_Opened_turned c) mono_Opened_turned c.kl_Opened rfl (hr.mono (by omega)) (vp_ix (np 1) (vq_un un_neg opn_neg (vq_int)) (fun _ _ => rfl)))) (vss_one (vs_retN))) (vss_nil)) (vss_cons (vs_if (vt_cmp (opr_eq hr) opn_eq (vg_val (nv 0)) (vg_val (ve_lst (va_cons (vg_val ((ve_str rfl))) (va_nil)))) rfl) (vss_cons (vs_if (vt_cmpW (opr_eq hr) opn_eq (wv_callB call_lenA opn_len rfl c.b_len rfl (wvs_cons (wv_name 1) (wvs_nil))) (wv_int) rfl) (vss_one (vs_raise (s := "NoForm") rfl (F_ini (P := P) (w := w) (base := base) c) (exOk_g c.ex) (exOk_o c.ex "NoForm" (by decide)) rfl (hr.mono (by omega)) rfl c.gx_NoForm)) (vss_nil)) (vss_cons (sa 2 sc.nd (ve_methT (M_Opened_statement c) mono_Opened_statement c.kl_Opened rfl (hr.mono (by omega)) (mp_pop (np 1)))) (vss_cons (vs_expr (mp_app (vp_fd (vp_ix (np 1) (vq_un un_neg opn_neg (vq_int)) (fun _ _ => rfl)) c.kl_Opened c.na_Opened_now rfl) (vaq_cons (nq 2) (vaq_nil)))) (vss_one (vs_retN))))) (vss_nil)) (vss_cons (sa 3 sc.nd (ve_call (F_opening c) mono_opening (hr.mono (by omega)) rfl rfl (va_cons (vg_val (nv 0)) (va_nil)))) (vss_cons (vs_if (vt_cmp op_isN opn_isN (vg_val (nv 3)) (vg_val ve_non) rfl) (vss_cons (vs_expr (ve_appC (vp_fd (vp_ix (np 1) (vq_un un_neg opn_neg (vq_int)) (fun _ _ => rfl)) c.kl_Opened c.na_Opened_now rfl) (va_cons (vg_val (ve_call (F_plain c) mono_plain (hr.mono (by omega)) rfl rfl (va_cons (vg_val (nv 0)) (va_nil)))) (va_nil)))) (vss_one (vs_retN))) (vss_nil)) (vss_cons (vs_if (vt_cmpW op_ge opn_ge (wv_callB call_lenA opn_len rfl c.b_len rfl (wvs_cons (wv_name 1) (wvs_nil))) ((wv_globI rfl c.g_MOST_LISTS)) rfl) (vss_one (vs_raise (s := "TooGreat") rfl (F_ini (P := P) (w := w) (base := base) c) (exOk_g c.ex) (exOk_o c.ex "TooGreat" (by decide)) rfl (hr.mono (by omega)) rfl c.gx_TooGreat)) (vss_nil)) (vss_one (vs_expr (m_app 1 (va_cons (vg_val (ve_newN (M_Opened_init c) mono_Opened_init (hr.mono (by omega)) rfl c.gc_Opened rfl (va_cons (vg_val (nv 3)) (va_nil)))) (va_nil))))))))))) mono_take rd_take
theorem sc_Llines : FnScope ["_law_script", "_law_many", "_law_names_here", "_law_lines_here", "_law_stack", "_law_k"] ["_law_script", "_law_many"] (defScope s_Llines) := ⟨rfl, rfl, rfl, by decide +kernel, rfl, by decide +kernel, by decide +kernel⟩
theorem F_Llines {P : Program} {w : World} {K : PySem.W.Frag} {mg : Str → Option Value} {base : Heap} (c : Hd K mg) : Fv P w K mg base "_law_lines" 5 2 sp_Llines :=
  Fv.mk2 (κ := [true, true]) (t := t_Llines) c.f_Llines sc_Llines (fun F => F.bindsN fun _ _ _ _ _ _ us hl => match us, hl with | [_, _], _ => rfl) rfl (by decide)
    (fun f cdv A outer s H E hr => let sc := sc_Llines; (vss_cons (sa 2 sc.nd (ve_still (ve_call (F_Lnames c) mono_Lnames (hr.mono (by omega)) rfl rfl (va_cons (vg_val (nv 0)) (va_nil))))) (vss_cons (sa 3 sc.nd (ve_lst (va_nil))) (vss_cons (sa 4 sc.nd (ve_lst (va_nil))) (vss_cons (vs_for (passes_of rfl) rfl (vi_range1 rfl c.b_range (va_cons (vg_val (nv 1)) (va_nil))) (tn 5 sc.nd) (vss_one (vs_expr (m_app 3 (va_cons (vg_val (ve_call (F_Lstep c) mono_Lstep (hr.mono (by omega)) rfl rfl (va_cons (vg_val (nv 0)) (va_cons (vg_val (nv 5)) (va_cons (vg_val (nv 2)) (al 4 (va_nil))))))) (va_nil)))))) (vss_cons (vs_while (passes_of rfl) (vt_cmpW (opr_ne hr) opn_ne (wv_name 4) (wv_lst (wvs_nil)) rfl) (vss_cons (vs_expr (mp_pop (np 4))) (vss_one (vs_expr (m_app 3 (va_cons (vg_val (ve_tup (va_cons (vg_val ((ve_str rfl))) (va_nil)))) (va_nil))))))) (vss_one (vs_ret (nm 3))))))))) mono_Llines rd_Llines
theorem sc_sound_list : FnScope ["form", "within", "rounds", "used", "statement"] ["form", "within", "rounds", "used"] (defScope s_sound_list) := ⟨rfl, rfl, rfl, by decide +kernel, rfl, by decide +kernel, by decide +kernel⟩
theorem F_sound_list {P : Program} {w : World} {K : PySem.W.Frag} {mg : Str → Option Value} {base : Heap} (c : Hd K mg) : ∀ n, Fv P w K mg base "sound_list" (2 + 2 * n) 4 (sp_sound_list n)
  | 0 => Fv.mk2 (k := 1) (κ := [true, true, true, true]) (t := vNever) c.f_sound_list sc_sound_list (fun F => F.bindsN fun _ _ _ _ _ _ us hl => match us, hl with | [_, _, _, _], _ => rfl) rfl (by decide) (fun f cdv A outer s H E hr => vss_never) (mono_sound_list 0) (fun _ _ _ _ h => h.elim)
  | n + 1 => Fv.mk2 (k := 3 + 2 * n) (κ := [true, true, true, true]) (t := t_sound_list n) c.f_sound_list sc_sound_list (fun F => F.bindsN fun _ _ _ _ _ _ us hl => match us, hl with | [_, _, _, _], _ => rfl) rfl (by decide)
    (fun f cdv A outer s H E hr => let sc := sc_sound_list; let ih := F_sound_list (P := P) (w := w) (base := base) c n; (vss_cons (vs_for (passes_of rfl) rfl (vi_lst (nv 0)) (tn 4 sc.nd) (vss_one (vs_if (vt_not (vt_val (ve_call (F_sound_statement c n ih) (mono_sound_statement n) (hr.mono (by omega)) rfl rfl (va_cons (vg_val (nv 4)) (va_cons (vg_val (nv 1)) (va_cons (vg_val (nv 2)) (al 3 (va_nil)))))))) (vss_one (vs_ret (ve_bl))) (vss_nil)))) (vss_one (vs_ret (ve_bl))))) (mono_sound_list (n + 1)) (rd_sound_list n) |>.mono (by omega)
theorem sc_sound : FnScope ["form"] ["form"] (defScope s_sound) := ⟨rfl, rfl, rfl, by decide +kernel, rfl, by decide +kernel, by decide +kernel⟩
theorem F_sound {P : Program} {w : World} {K : PySem.W.Frag} {mg : Str → Option Value} {base : Heap} (c : Hd K mg) : Fv P w K mg base "sound" 187 1 sp_sound :=
  Fv.mk2 (κ := [true]) (t := t_sound) c.f_sound sc_sound (fun F => F.bindsN fun _ _ _ _ _ _ us hl => match us, hl with | [_], _ => rfl) rfl (by decide)
    (fun f cdv A outer s H E hr => let sc := sc_sound; (vss_one (vs_ret (ve_call (F_sound_list c 92) (mono_sound_list 92) (hr.mono (by omega)) rfl rfl (va_cons (vg_val (nv 0)) (va_cons (vg_val (ve_still (ve_lst (va_nil)))) (va_cons (vg_val (ve_still (ve_lst (va_nil)))) (va_cons (vg_val (ve_dK)) (va_nil))))))))) mono_sound rd_sound
theorem sc_read_form : FnScope ["text", "lines", "line", "opened"] ["text"] (defScope s_read_form) := ⟨rfl, rfl, rfl, by decide +kernel, rfl, by decide +kernel, by decide +kernel⟩
theorem F_read_form {P : Program} {w : World} {K : PySem.W.Frag} {mg : Str → Option Value} {base : Heap} (c : Hd K mg) : Fv P w K mg base "read_form" 188 1 sp_read_form :=
  Fv.mk2 (κ := [true]) (t := t_read_form) c.f_read_form sc_read_form (fun F => F.bindsN fun _ _ _ _ _ _ us hl => match us, hl with | [_], _ => rfl) rfl (by decide)
    (fun f cdv A outer s H E hr => let sc := sc_read_form; (vss_cons (vs_setLcF (own := [("line", 2)]) (i := 1) rfl sc.nd (blkOk_by (by first | rfl | decide +kernel)) (kap_of rfl) (vi_lst (ve_still (ve_split (vg_val (nv 0)) (vg_val ((ve_str rfl)))))) (fun bi => vto_name (by decide) sc.nd rfl (by first | exact Or.inl rfl | exact Or.inr rfl) (ne_of_beq_false rfl)) (fun bi => vts_nil) (fun bi => ve_view (wv_meth PySem.F.plainAttrs_str PySem.F.slot_str_lstrip PySem.F.type_str_lstrip mt_lstripChars opn_lstrip (wv_name 2) (wvs_cons ((wv_str rfl)) (wvs_nil)))) rfl rfl (ne_of_beq_false rfl) (sw_true rfl rfl rfl (by decide +kernel))) (vss_cons (vs_setLcF (own := [("line", 2)]) (i := 1) rfl sc.nd (blkOk_by (by first | rfl | decide +kernel)) (kap_of rfl) (vi_lst (nv 1)) (fun bi => vto_name (by decide) sc.nd rfl (by first | exact Or.inl rfl | exact Or.inr rfl) (ne_of_beq_false rfl)) (fun bi => vts_one (vt_cmp (opr_ne hr) opn_ne (vg_val (nv 2)) (vg_val ((ve_str rfl))) rfl)) (fun bi => nv 2) rfl rfl (ne_of_beq_false rfl) (sw_true rfl rfl rfl (by decide +kernel))) (vss_cons (vs_if (vt_cmp op_gt opn_gt (vg_val (ve_callB call_lenA opn_len rfl c.b_len rfl (va_cons (vg_val (nv 1)) (va_nil)))) (vg_val ((ve_globI rfl c.g_MOST_FORM_LINES))) rfl) (vss_one (vs_raise (s := "TooGreat") rfl (F_ini (P := P) (w := w) (base := base) c) (exOk_g c.ex) (exOk_o c.ex "TooGreat" (by decide)) rfl (hr.mono (by omega)) rfl c.gx_TooGreat)) (vss_nil)) (vss_cons (sa 3 sc.nd (ve_lst (va_cons (vg_val (ve_newN (M_Opened_init c) mono_Opened_init (hr.mono (by omega)) rfl c.gc_Opened rfl (va_cons (vg_val (ve_tup (va_cons (vg_val ((ve_str rfl))) (va_nil)))) (va_nil)))) (va_nil)))) (vss_cons (vs_for (passes_of rfl) rfl (vi_lst (nv 1)) (tn 2 sc.nd) (vss_one (vs_expr (ve_call (F_take c) mono_take (hr.mono (by omega)) rfl rfl (va_cons (vg_val (ve_still (ve_split (vg_val (nv 2)) (vg_val ((ve_str rfl)))))) (al 3 (va_nil))))))) (vss_cons (vs_if (vt_w (vw_or (vt_cmpW op_gt opn_gt (wv_callB call_lenA opn_len rfl c.b_len rfl (wvs_cons (wv_name 3) (wvs_nil))) (wv_int) rfl) (vw_or1 (vt_not (vt_viewV (wv_call (F_sound c) mono_sound (hr.mono (by omega)) rfl rfl (wvs_cons (wv_fld (wv_ix hr (wv_name 3) (wv_int) (fun _ _ => rfl)) c.kl_Opened c.na_Opened_now rfl) (wvs_nil)))))))) (vss_one (vs_raise (s := "NoForm") rfl (F_ini (P := P) (w := w) (base := base) c) (exOk_g c.ex) (exOk_o c.ex "NoForm" (by decide)) rfl (hr.mono (by omega)) rfl c.gx_NoForm)) (vss_nil)) (vss_one (vs_ret (ve_take (vp_fd (vp_ix (np 3) (vq_int) (fun _ _ => rfl)) c.kl_Opened c.na_Opened_now rfl))))))))))) mono_read_form rd_read_form
theorem sc_Lalike : FnScope ["_law_found", "_law_due", "_law_one", "_law_other"] ["_law_found", "_law_due"] (defScope s_Lalike) := ⟨rfl, rfl, rfl, by decide +kernel, rfl, by decide +kernel, by decide +kernel⟩
theorem F_Lalike {P : Program} {w : World} {K : PySem.W.Frag} {mg : Str → Option Value} {base : Heap} (c : Hd K mg) : ∀ n, Fv P w K mg base "_law_alike" (1 + 1 * n) 2 (sp_Lalike n)
  | 0 => Fv.mk2 (k := 0) (κ := [true, true]) (t := vNever) c.f_Lalike sc_Lalike (fun F => F.bindsN fun _ _ _ _ _ _ us hl => match us, hl with | [_, _], _ => rfl) rfl (by decide) (fun f cdv A outer s H E hr => vss_never) (mono_Lalike 0) (fun _ _ _ _ h => h.elim)
  | n + 1 => Fv.mk2 (k := 1 + 1 * n) (κ := [true, true]) (t := t_Lalike n) c.f_Lalike sc_Lalike (fun F => F.bindsN fun _ _ _ _ _ _ us hl => match us, hl with | [_, _], _ => rfl) rfl (by decide)
    (fun f cdv A outer s H E hr => let sc := sc_Lalike; let ih := F_Lalike (P := P) (w := w) (base := base) c n; (vss_cons (vs_if (vt_val (ve_callB call_isi opn_isi rfl c.b_isinstance rfl (va_cons (vg_val (nv 1)) (va_cons (vg_val ((ve_ty rfl c.b_bool rfl))) (va_nil))))) (vss_one (vs_ret (ve_and (ve_callB call_isi opn_isi rfl c.b_isinstance rfl (va_cons (vg_val (nv 0)) (va_cons (vg_val ((ve_ty rfl c.b_bool rfl))) (va_nil)))) (ve_one (ve_cmp (opr_eq hr) opn_eq (vg_val (nv 0)) (vg_val (nv 1)) rfl))))) (vss_nil)) (vss_cons (vs_if (vt_val (ve_callB call_isi opn_isi rfl c.b_isinstance rfl (va_cons (vg_val (nv 1)) (va_cons (vg_val ((ve_ty rfl c.b_int rfl))) (va_nil))))) (vss_one (vs_ret (ve_and (ve_callB call_isi opn_isi rfl c.b_isinstance rfl (va_cons (vg_val (nv 0)) (va_cons (vg_val ((ve_ty rfl c.b_int rfl))) (va_nil)))) (ve_and (ve_not (ve_callB call_isi opn_isi rfl c.b_isinstance rfl (va_cons (vg_val (nv 0)) (va_cons (vg_val ((ve_ty rfl c.b_bool rfl))) (va_nil))))) (ve_one (ve_cmp (opr_eq hr) opn_eq (vg_val (nv 0)) (vg_val (nv 1)) rfl)))))) (vss_nil)) (vss_cons (vs_if (vt_val (ve_callB call_isi opn_isi rfl c.b_isinstance rfl (va_cons (vg_val (nv 1)) (va_cons (vg_val ((ve_ty rfl c.b_str rfl))) (va_nil))))) (vss_one (vs_ret (ve_and (ve_callB call_isi opn_isi rfl c.b_isinstance rfl (va_cons (vg_val (nv 0)) (va_cons (vg_val ((ve_ty rfl c.b_str rfl))) (va_nil)))) (ve_one (ve_cmp (opr_eq hr) opn_eq (vg_val (nv 0)) (vg_val (nv 1)) rfl))))) (vss_nil)) (vss_cons (vs_if (vt_w (vw_and (vt_val (ve_callB call_isi opn_isi rfl c.b_isinstance rfl (va_cons (vg_val (nv 1)) (va_cons (vg_val ((ve_ty rfl c.b_list rfl))) (va_nil))))) (vw_and1 (vt_not (vt_val (ve_callB call_isi opn_isi rfl c.b_isinstance rfl (va_cons (vg_val (nv 0)) (va_cons (vg_val ((ve_ty rfl c.b_list rfl))) (va_nil))))))))) (vss_one (vs_ret (ve_bl))) (vss_nil)) (vss_cons (vs_if (vt_w (vw_and (vt_val (ve_callB call_isi opn_isi rfl c.b_isinstance rfl (va_cons (vg_val (nv 1)) (va_cons (vg_val ((ve_ty rfl c.b_tuple rfl))) (va_nil))))) (vw_and1 (vt_not (vt_val (ve_callB call_isi opn_isi rfl c.b_isinstance rfl (va_cons (vg_val (nv 0)) (va_cons (vg_val ((ve_ty rfl c.b_tuple rfl))) (va_nil))))))))) (vss_one (vs_ret (ve_bl))) (vss_nil)) (vss_cons (vs_if (vt_cmp (opr_ne hr) opn_ne (vg_val (ve_callB call_lenA opn_len rfl c.b_len rfl (va_cons (vg_val (nv 0)) (va_nil)))) (vg_val (ve_callB call_lenA opn_len rfl c.b_len rfl (va_cons (vg_val (nv 1)) (va_nil)))) rfl) (vss_one (vs_ret (ve_bl))) (vss_nil)) (vss_cons (vs_for (passes_of rfl) rfl (vi_zipA rfl c.b_zip (va_cons (vg_val (nv 0)) (va_cons (vg_val (nv 1)) (va_nil)))) (vt_names (n := 0) rfl (vns_cons (i := 2) sc.nd rfl (by first | exact Or.inl rfl | exact Or.inr rfl) (ne_of_beq_false rfl) (vns_cons (i := 3) sc.nd rfl (by first | exact Or.inl rfl | exact Or.inr rfl) (ne_of_beq_false rfl) (vns_nil)))) (vss_one (vs_if (vt_not (vt_val (ve_call ih (mono_Lalike n) (hr.mono (by omega)) rfl rfl (va_cons (vg_val (nv 2)) (va_cons (vg_val (nv 3)) (va_nil)))))) (vss_one (vs_ret (ve_bl))) (vss_nil)))) (vss_one (vs_ret (ve_bl))))))))))) (mono_Lalike (n + 1)) (rd_Lalike n) |>.mono (by omega)
theorem sc_law : FnScope ["_law_script", "_law_lines_here", "_law_way", "_law_many", "_law_signs", "_law_due", "_law_found", "_law_number", "_law_other"] ["_law_script"] (defScope s_law) := ⟨rfl, rfl, rfl, by decide +kernel, rfl, by decide +kernel, by decide +kernel⟩
theorem bd_law {K : PySem.W.Frag} {f : Addr} {fd : FuncData} (F : FunD K "law" "law" (defArgs s_law) (defBody s_law) (defScope s_law) [] [] f fd) (s : Shared) (u : Value) : BindsTo s fd ⟨[u], []⟩ [("_law_script", u)] := FunD.bindsA (ps := ["_law_script"]) F (fun _ _ _ _ _ _ us hl => match us, hl with | [_], _ => rfl) s [u] rfl
theorem ok_law {P : Program} {w : World} {K : PySem.W.Frag} {mg : Str → Option Value} {base : Heap} (c : Hd K mg) {f : Addr} {fd : FuncData} (F : FunD K "law" "law" (defArgs s_law) (defBody s_law) (defScope s_law) [] [] f fd) : VL.FnOk P w K mg base (VL.CX P w) 192 f fd ["_law_script"] (Lift K 1 sp_law) :=
  fn_ok (κ := [true]) (t := t_law) F sc_law rfl (by decide)
    (fun cdv A outer s H E hr => let sc := sc_law; (vss_cons (sa 1 sc.nd (ve_still (ve_call (F_Llines c) mono_Llines (hr.mono (by omega)) rfl rfl (va_cons (vg_val (nv 0)) (va_cons (vg_val (ve_callB (call_max2 rfl) opn_max rfl c.b_max rfl (va_cons (vg_val (ve_int)) (va_cons (vg_val (ve_callB (call_min2 rfl) opn_min rfl c.b_min rfl (va_cons (vg_val (ve_callB call_lenA opn_len rfl c.b_len rfl (va_cons (vg_val (nv 0)) (va_nil)))) (va_cons (vg_val (ve_int)) (va_nil))))) (va_nil))))) (va_nil)))))) (vss_cons (sa 2 sc.nd (ve_bin op_modN opn_mod (vg_val (ve_bin opr_div opn_div (vg_val (ve_call (F_Lmix c) mono_Lmix (hr.mono (by omega)) rfl rfl (va_cons (vg_val (nv 0)) (va_cons (vg_val (ve_int)) (va_nil))))) (vg_val (ve_int)))) (vg_val (ve_int)))) (vss_cons (vs_if (vt_cmp (opr_eq hr) opn_eq (vg_val (nv 2)) (vg_val (ve_int)) rfl) (vss_one (sa 1 sc.nd (ve_still (ve_call (F_Lwrapped c) mono_Lwrapped (hr.mono (by omega)) rfl rfl (va_cons (vg_val (nv 1)) (va_cons (vg_val (ve_call (F_Lmix c) mono_Lmix (hr.mono (by omega)) rfl rfl (va_cons (vg_val (nv 0)) (va_cons (vg_val (ve_int)) (va_nil))))) (va_cons (vg_val (ve_bin op_sub opn_sub (vg_val (ve_int)) (vg_val (ve_call (F_Ldepth c) mono_Ldepth (hr.mono (by omega)) rfl rfl (va_cons (vg_val (nv 1)) (va_nil)))))) (va_nil)))))))) (vss_nil)) (vss_cons (vs_if (vt_cmp (opr_eq hr) opn_eq (vg_val (nv 2)) (vg_val (ve_int)) rfl) (vss_cons (sa 3 sc.nd (ve_bin op_sub opn_sub (vg_val (ve_bin op_sub opn_sub (vg_val (ve_int)) (vg_val (ve_callB call_lenA opn_len rfl c.b_len rfl (va_cons (vg_val (nv 1)) (va_nil)))))) (vg_val (ve_bin op_modN opn_mod (vg_val (ve_bin opr_div opn_div (vg_val (ve_call (F_Lmix c) mono_Lmix (hr.mono (by omega)) rfl rfl (va_cons (vg_val (nv 0)) (va_cons (vg_val (ve_int)) (va_nil))))) (vg_val (ve_int)))) (vg_val (ve_int)))))) (vss_one (sa 1 sc.nd (ve_still (ve_bin opr_add opn_add (vg_val (nv 1)) (vg_val (ve_bin opr_mulA opn_mul (vg_val (ve_lst (va_cons (vg_val (ve_tup (va_cons (vg_val ((ve_str rfl))) (va_cons (vg_val ((ve_str rfl))) (va_cons (vg_val ((ve_str rfl))) (va_cons (vg_val ((ve_str rfl))) (va_cons (vg_val (nv 3)) (va_nil)))))))) (va_nil)))) (vg_val (nv 3))))))))) (vss_nil)) (vss_cons (sa 4 sc.nd (ve_call (F_Lspread c) mono_Lspread (hr.mono (by omega)) rfl rfl (va_cons (vg_val (nv 0)) (va_cons (vg_val (nv 1)) (va_nil))))) (vss_cons (sa 5 sc.nd (ve_still (ve_call (F_Lnested c) mono_Lnested (hr.mono (by omega)) rfl rfl (va_cons (vg_val (nv 1)) (va_nil))))) (vss_cons (sa 6 sc.nd (ve_call (F_read_form c) mono_read_form (hr.mono (by omega)) rfl rfl (va_cons (vg_val (nv 4)) (va_nil)))) (vss_cons (vs_if (vt_not (vt_viewV (wv_call (F_Lalike c 190) (mono_Lalike 190) (hr.mono (by omega)) rfl rfl (wvs_cons (wv_name 6) (wvs_cons (wv_name 5) (wvs_nil)))))) (vss_one (vs_ret (ve_bl))) (vss_nil)) (vss_cons (sa 7 sc.nd (ve_bin op_modN opn_mod (vg_val (ve_call (F_Lmix c) mono_Lmix (hr.mono (by omega)) rfl rfl (va_cons (vg_val (nv 0)) (va_cons (vg_val (ve_int)) (va_nil))))) (vg_val (ve_int)))) (vss_cons (sa 8 sc.nd (ve_still (ve_call (F_read_form c) mono_read_form (hr.mono (by omega)) rfl rfl (va_cons (vg_val (ve_bin opr_add opn_add (vg_val (ve_bin opr_add opn_add (vg_val (ve_bin opr_add opn_add (vg_val (ve_bin opr_add opn_add (vg_val ((ve_str rfl))) (vg_val (ve_callTy call_strA opn_str rfl c.b_str rfl (va_cons (vg_val (nv 7)) (va_nil)))))) (vg_val ((ve_str rfl))))) (vg_val (ve_callTy call_strA opn_str rfl c.b_str rfl (va_cons (vg_val (nv 7)) (va_nil)))))) (vg_val ((ve_str rfl))))) (va_nil))))) (vss_cons (vs_if (vt_w (vw_or (vt_not (vt_val (ve_call (F_Lalike c 190) (mono_Lalike 190) (hr.mono (by omega)) rfl rfl (va_cons (vg_val (nv 8)) (va_cons (vg_val (ve_still (ve_lst (va_cons (vg_val (ve_tup (va_cons (vg_val ((ve_str rfl))) (va_cons (vg_val (nv 7)) (va_cons (vg_val (ve_lst (va_cons (vg_val (ve_tup (va_cons (vg_val ((ve_str rfl))) (va_cons (vg_val (nv 7)) (va_nil))))) (va_nil)))) (va_nil)))))) (va_nil))))) (va_nil)))))) (vw_or1 (vt_not (vt_viewV (wv_call (F_Lalike c 190) (mono_Lalike 190) (hr.mono (by omega)) rfl rfl (wvs_cons (wv_name 6) (wvs_cons (wv_name 5) (wvs_nil))))))))) (vss_one (vs_ret (ve_bl))) (vss_nil)) (vss_cons (vs_expr (mp_clear (np 6))) (vss_one (vs_ret (ve_call (F_Lalike c 190) (mono_Lalike 190) (hr.mono (by omega)) rfl rfl (va_cons (vg_val (ve_still (ve_call (F_read_form c) mono_read_form (hr.mono (by omega)) rfl rfl (va_cons (vg_val (nv 4)) (va_nil))))) (va_cons (vg_val (nv 5)) (va_nil))))))))))))))))))) mono_law rd_law
end Pk54
namespace Pk54
open PySem PySem.Spec PyProof.Rows L2 VL
def dd_Opened_statement : He.DefD := ⟨("Opened", some "statement"), "statement", "Opened.statement", defArgs s_Opened_statement, defBody s_Opened_statement, defScope s_Opened_statement, [], []⟩
def dd_Opened_turned : He.DefD := ⟨("Opened", some "turned"), "turned", "Opened.turned", defArgs s_Opened_turned, defBody s_Opened_turned, defScope s_Opened_turned, [], []⟩
def dd_Opened_init : He.DefD := ⟨("Opened", some "__init__"), "__init__", "Opened.__init__", defArgs s_Opened_init, defBody s_Opened_init, defScope s_Opened_init, [], []⟩
def dd_lists_of : He.DefD := ⟨("lists_of", none), "lists_of", "lists_of", defArgs s_lists_of, defBody s_lists_of, defScope s_lists_of, [], []⟩
def dd_sound_opening : He.DefD := ⟨("sound_opening", none), "sound_opening", "sound_opening", defArgs s_sound_opening, defBody s_sound_opening, defScope s_sound_opening, [], []⟩
def dd_sound_statement : He.DefD := ⟨("sound_statement", none), "sound_statement", "sound_statement", defArgs s_sound_statement, defBody s_sound_statement, defScope s_sound_statement, [], []⟩
def dd_sound_list : He.DefD := ⟨("sound_list", none), "sound_list", "sound_list", defArgs s_sound_list, defBody s_sound_list, defScope s_sound_list, [], []⟩
def dd_sound : He.DefD := ⟨("sound", none), "sound", "sound", defArgs s_sound, defBody s_sound, defScope s_sound, [], []⟩
def dd_number_read : He.DefD := ⟨("number_read", none), "number_read", "number_read", defArgs s_number_read, defBody s_number_read, defScope s_number_read, [], []⟩
def dd_is_name : He.DefD := ⟨("is_name", none), "is_name", "is_name", defArgs s_is_name, defBody s_is_name, defScope s_is_name, [], []⟩
def dd_operand_read : He.DefD := ⟨("operand_read", none), "operand_read", "operand_read", defArgs s_operand_read, defBody s_operand_read, defScope s_operand_read, [], []⟩
def dd_sum_read : He.DefD := ⟨("sum_read", none), "sum_read", "sum_read", defArgs s_sum_read, defBody s_sum_read, defScope s_sum_read, [], []⟩
def dd_test_read : He.DefD := ⟨("test_read", none), "test_read", "test_read", defArgs s_test_read, defBody s_test_read, defScope s_test_read, [], []⟩
def dd_numbered : He.DefD := ⟨("numbered", none), "numbered", "numbered", defArgs s_numbered, defBody s_numbered, defScope s_numbered, [], []⟩
def dd_opening : He.DefD := ⟨("opening", none), "opening", "opening", defArgs s_opening, defBody s_opening, defScope s_opening, [], []⟩
def dd_plain : He.DefD := ⟨("plain", none), "plain", "plain", defArgs s_plain, defBody s_plain, defScope s_plain, [], []⟩
def dd_take : He.DefD := ⟨("take", none), "take", "take", defArgs s_take, defBody s_take, defScope s_take, [], []⟩
def dd_read_form : He.DefD := ⟨("read_form", none), "read_form", "read_form", defArgs s_read_form, defBody s_read_form, defScope s_read_form, [], []⟩
def dd_Lraw : He.DefD := ⟨("_law_raw", none), "_law_raw", "_law_raw", defArgs s_Lraw, defBody s_Lraw, defScope s_Lraw, [], []⟩
def dd_Lmix : He.DefD := ⟨("_law_mix", none), "_law_mix", "_law_mix", defArgs s_Lmix, defBody s_Lmix, defScope s_Lmix, [], []⟩
def dd_Lkept : He.DefD := ⟨("_law_kept", none), "_law_kept", "_law_kept", defArgs s_Lkept, defBody s_Lkept, defScope s_Lkept, [], []⟩
def dd_Lsign : He.DefD := ⟨("_law_sign", none), "_law_sign", "_law_sign", defArgs s_Lsign, defBody s_Lsign, defScope s_Lsign, [], []⟩
def dd_Lword : He.DefD := ⟨("_law_word", none), "_law_word", "_law_word", defArgs s_Lword, defBody s_Lword, defScope s_Lword, [], []⟩
def dd_Lnames : He.DefD := ⟨("_law_names", none), "_law_names", "_law_names", defArgs s_Lnames, defBody s_Lnames, defScope s_Lnames, [], []⟩
def dd_Loperand : He.DefD := ⟨("_law_operand", none), "_law_operand", "_law_operand", defArgs s_Loperand, defBody s_Loperand, defScope s_Loperand, [], []⟩
def dd_Lbegins : He.DefD := ⟨("_law_begins", none), "_law_begins", "_law_begins", defArgs s_Lbegins, defBody s_Lbegins, defScope s_Lbegins, [], []⟩
def dd_Ldeed : He.DefD := ⟨("_law_deed", none), "_law_deed", "_law_deed", defArgs s_Ldeed, defBody s_Ldeed, defScope s_Ldeed, [], []⟩
def dd_Lgoes : He.DefD := ⟨("_law_goes", none), "_law_goes", "_law_goes", defArgs s_Lgoes, defBody s_Lgoes, defScope s_Lgoes, [], []⟩
def dd_Lfirst : He.DefD := ⟨("_law_first", none), "_law_first", "_law_first", defArgs s_Lfirst, defBody s_Lfirst, defScope s_Lfirst, [], []⟩
def dd_Lclose : He.DefD := ⟨("_law_close", none), "_law_close", "_law_close", defArgs s_Lclose, defBody s_Lclose, defScope s_Lclose, [], []⟩
def dd_Lstep : He.DefD := ⟨("_law_step", none), "_law_step", "_law_step", defArgs s_Lstep, defBody s_Lstep, defScope s_Lstep, [], []⟩
def dd_Llines : He.DefD := ⟨("_law_lines", none), "_law_lines", "_law_lines", defArgs s_Llines, defBody s_Llines, defScope s_Llines, [], []⟩
def dd_Lnested : He.DefD := ⟨("_law_nested", none), "_law_nested", "_law_nested", defArgs s_Lnested, defBody s_Lnested, defScope s_Lnested, [], []⟩
def dd_Lalike : He.DefD := ⟨("_law_alike", none), "_law_alike", "_law_alike", defArgs s_Lalike, defBody s_Lalike, defScope s_Lalike, [], []⟩
def dd_Ldepth : He.DefD := ⟨("_law_depth", none), "_law_depth", "_law_depth", defArgs s_Ldepth, defBody s_Ldepth, defScope s_Ldepth, [], []⟩
def dd_Lwrapped : He.DefD := ⟨("_law_wrapped", none), "_law_wrapped", "_law_wrapped", defArgs s_Lwrapped, defBody s_Lwrapped, defScope s_Lwrapped, [], []⟩
def dd_Lwords : He.DefD := ⟨("_law_words", none), "_law_words", "_law_words", defArgs s_Lwords, defBody s_Lwords, defScope s_Lwords, [], []⟩
def dd_Lspread : He.DefD := ⟨("_law_spread", none), "_law_spread", "_law_spread", defArgs s_Lspread, defBody s_Lspread, defScope s_Lspread, [], []⟩
def dd_law : He.DefD := ⟨("law", none), "law", "law", defArgs s_law, defBody s_law, defScope s_law, [], []⟩
def dd_ini : He.DefD := ⟨("JumpError", some "__init__"), "__init__", "JumpError.__init__", defArgs s_ini, defBody s_ini, defScope s_ini, [.non], []⟩
def fnD : List He.DefD := [dd_Opened_statement, dd_Opened_turned, dd_Opened_init, dd_lists_of, dd_sound_opening, dd_sound_statement, dd_sound_list, dd_sound, dd_number_read, dd_is_name, dd_operand_read, dd_sum_read, dd_test_read, dd_numbered, dd_opening, dd_plain, dd_take, dd_read_form, dd_Lraw, dd_Lmix, dd_Lkept, dd_Lsign, dd_Lword, dd_Lnames, dd_Loperand, dd_Lbegins, dd_Ldeed, dd_Lgoes, dd_Lfirst, dd_Lclose, dd_Lstep, dd_Llines, dd_Lnested, dd_Lalike, dd_Ldepth, dd_Lwrapped, dd_Lwords, dd_Lspread, dd_law, dd_ini]
def faD : List He.Fa := [.glo "lists_of", .glo "sound_opening", .glo "sound_statement", .glo "sound_list", .glo "sound", .glo "number_read", .glo "is_name", .glo "operand_read", .glo "sum_read", .glo "test_read", .glo "numbered", .glo "opening", .glo "plain", .glo "take", .glo "read_form", .glo "_law_raw", .glo "_law_mix", .glo "_law_kept", .glo "_law_sign", .glo "_law_word", .glo "_law_names", .glo "_law_operand", .glo "_law_begins", .glo "_law_deed", .glo "_law_goes", .glo "_law_first", .glo "_law_close", .glo "_law_step", .glo "_law_lines", .glo "_law_nested", .glo "_law_alike", .glo "_law_depth", .glo "_law_wrapped", .glo "_law_words", .glo "_law_spread", .glo "law", .free "len", .free "int", .free "range", .free "isinstance", .free "bool", .free "str", .free "list", .free "tuple", .free "zip", .free "max", .free "min", .free "ValueError", .glo "NoForm", .glo "TooGreat", .int "MOST_NUMBER" 9999, .str "FIGURES" "0123456789", .int "MOST_SIGNS" 8, .glo "KEPT", .str "LETTERS" "abcdefghijklmnopqrstuvwxyz", .int "MOST_FIGURES" 18, .glo "SUM_SIGNS", .glo "TEST_SIGNS", .int "MOST_LISTS" 90, .int "MOST_FORM_LINES" 400, .cls "Opened", .mkr "Opened", .glo "Opened", .noat "Opened" "head", .noat "Opened" "now", .noat "Opened" "yes", .meth "Opened" "turned", .meth "Opened" "statement"]
def exD : PySem.W.Frag → Bool := fun K => (tupB K (He.ga K "KEPT") [[105, 102], [106, 117, 109, 112], [101, 110, 100], [114, 101, 115, 116], [114, 111, 117, 110, 100], [112, 97, 114, 116], [108, 101, 97, 118, 101], [97, 103, 97, 105, 110], [101, 108, 115, 101], [100, 111, 110, 101]] && (tupB K (He.ga K "SUM_SIGNS") [[43], [45], [47], [114, 101, 115, 116], [38], [94]] && (tupB K (He.ga K "TEST_SIGNS") [[60], [61]] && exOk RLx ctx ktx K)))
abbrev RowR : PySem.W.OpenRow := PySem.W.OpenLaw.row PySem.Challenge.rw_unjump_k54_form_read
abbrev hkR : PySem.W.Hook := He.hookX 6 faD fnD [] [] exD
def obR (s : PySem.W.SharedT) : He.AlX := He.obsX 6 faD fnD [] [] exD (HandSHeadRun.getT s)
theorem obR_eq (s : PySem.W.SharedT) : obR s = hkR.obs s.abs := He.obsX_eq (HandSHeadRun.getT_eq s)
def loose0 : List Str := ["JumpError", "TooGreat", "NoForm", "MOST_NUMBER", "lists_of", "sound_opening", "sound_statement", "sound_list", "sound", "FIGURES", "LETTERS", "KEPT", "SUM_SIGNS", "TEST_SIGNS", "MOST_SIGNS", "MOST_FIGURES", "number_read", "is_name", "operand_read", "sum_read", "test_read", "MOST_FORM_LINES", "MOST_LISTS", "Opened", "numbered", "opening", "plain", "take"]
def loose1 : List Str := ["read_form", "_law_raw", "_law_mix", "_law_kept", "_law_sign", "_law_word", "_law_names", "_law_operand", "_law_begins", "_law_deed", "_law_goes", "_law_first", "_law_close", "_law_step", "_law_lines", "_law_nested", "_law_alike", "_law_depth", "_law_wrapped", "_law_words", "_law_spread"]
def looseR : List Str := loose0 ++ loose1
theorem runR (w : World) : HandSHeadRun.RunEq RowR (PySem.W.view RowR.prog [54]) hkR obR 6000 looseR w := by
  intro os
  kernel_rfl
theorem hdR {w : World} {K : PySem.W.Frag} {h : Heap} {mg : Str → Option Value} (X : K.In h) (G : h.Ns mainGlobals mg) (c : He.SaysX faD fnD [] [] exD w h K) : Hd K mg where
  f_Opened_statement := c.t.d.def_ 0 (d := dd_Opened_statement) rfl
  f_Opened_turned := c.t.d.def_ 1 (d := dd_Opened_turned) rfl
  f_Opened_init := c.t.d.def_ 2 (d := dd_Opened_init) rfl
  f_lists_of := fnAt_of X G (c.t.d.fact 0 (f := .glo "lists_of") rfl) rfl (c.t.d.def_ 3 (d := dd_lists_of) rfl)
  f_sound_opening := fnAt_of X G (c.t.d.fact 1 (f := .glo "sound_opening") rfl) rfl (c.t.d.def_ 4 (d := dd_sound_opening) rfl)
  f_sound_statement := fnAt_of X G (c.t.d.fact 2 (f := .glo "sound_statement") rfl) rfl (c.t.d.def_ 5 (d := dd_sound_statement) rfl)
  f_sound_list := fnAt_of X G (c.t.d.fact 3 (f := .glo "sound_list") rfl) rfl (c.t.d.def_ 6 (d := dd_sound_list) rfl)
  f_sound := fnAt_of X G (c.t.d.fact 4 (f := .glo "sound") rfl) rfl (c.t.d.def_ 7 (d := dd_sound) rfl)
  f_number_read := fnAt_of X G (c.t.d.fact 5 (f := .glo "number_read") rfl) rfl (c.t.d.def_ 8 (d := dd_number_read) rfl)
  f_is_name := fnAt_of X G (c.t.d.fact 6 (f := .glo "is_name") rfl) rfl (c.t.d.def_ 9 (d := dd_is_name) rfl)
  f_operand_read := fnAt_of X G (c.t.d.fact 7 (f := .glo "operand_read") rfl) rfl (c.t.d.def_ 10 (d := dd_operand_read) rfl)
  f_sum_read := fnAt_of X G (c.t.d.fact 8 (f := .glo "sum_read") rfl) rfl (c.t.d.def_ 11 (d := dd_sum_read) rfl)
  f_test_read := fnAt_of X G (c.t.d.fact 9 (f := .glo "test_read") rfl) rfl (c.t.d.def_ 12 (d := dd_test_read) rfl)
  f_numbered := fnAt_of X G (c.t.d.fact 10 (f := .glo "numbered") rfl) rfl (c.t.d.def_ 13 (d := dd_numbered) rfl)
  f_opening := fnAt_of X G (c.t.d.fact 11 (f := .glo "opening") rfl) rfl (c.t.d.def_ 14 (d := dd_opening) rfl)
  f_plain := fnAt_of X G (c.t.d.fact 12 (f := .glo "plain") rfl) rfl (c.t.d.def_ 15 (d := dd_plain) rfl)
  f_take := fnAt_of X G (c.t.d.fact 13 (f := .glo "take") rfl) rfl (c.t.d.def_ 16 (d := dd_take) rfl)
  f_read_form := fnAt_of X G (c.t.d.fact 14 (f := .glo "read_form") rfl) rfl (c.t.d.def_ 17 (d := dd_read_form) rfl)
  f_Lraw := fnAt_of X G (c.t.d.fact 15 (f := .glo "_law_raw") rfl) rfl (c.t.d.def_ 18 (d := dd_Lraw) rfl)
  f_Lmix := fnAt_of X G (c.t.d.fact 16 (f := .glo "_law_mix") rfl) rfl (c.t.d.def_ 19 (d := dd_Lmix) rfl)
  f_Lkept := fnAt_of X G (c.t.d.fact 17 (f := .glo "_law_kept") rfl) rfl (c.t.d.def_ 20 (d := dd_Lkept) rfl)
  f_Lsign := fnAt_of X G (c.t.d.fact 18 (f := .glo "_law_sign") rfl) rfl (c.t.d.def_ 21 (d := dd_Lsign) rfl)
  f_Lword := fnAt_of X G (c.t.d.fact 19 (f := .glo "_law_word") rfl) rfl (c.t.d.def_ 22 (d := dd_Lword) rfl)
  f_Lnames := fnAt_of X G (c.t.d.fact 20 (f := .glo "_law_names") rfl) rfl (c.t.d.def_ 23 (d := dd_Lnames) rfl)
  f_Loperand := fnAt_of X G (c.t.d.fact 21 (f := .glo "_law_operand") rfl) rfl (c.t.d.def_ 24 (d := dd_Loperand) rfl)
  f_Lbegins := fnAt_of X G (c.t.d.fact 22 (f := .glo "_law_begins") rfl) rfl (c.t.d.def_ 25 (d := dd_Lbegins) rfl)
  f_Ldeed := fnAt_of X G (c.t.d.fact 23 (f := .glo "_law_deed") rfl) rfl (c.t.d.def_ 26 (d := dd_Ldeed) rfl)
  f_Lgoes := fnAt_of X G (c.t.d.fact 24 (f := .glo "_law_goes") rfl) rfl (c.t.d.def_ 27 (d := dd_Lgoes) rfl)
  f_Lfirst := fnAt_of X G (c.t.d.fact 25 (f := .glo "_law_first") rfl) rfl (c.t.d.def_ 28 (d := dd_Lfirst) rfl)
  f_Lclose := fnAt_of X G (c.t.d.fact 26 (f := .glo "_law_close") rfl) rfl (c.t.d.def_ 29 (d := dd_Lclose) rfl)
  f_Lstep := fnAt_of X G (c.t.d.fact 27 (f := .glo "_law_step") rfl) rfl (c.t.d.def_ 30 (d := dd_Lstep) rfl)
  f_Llines := fnAt_of X G (c.t.d.fact 28 (f := .glo "_law_lines") rfl) rfl (c.t.d.def_ 31 (d := dd_Llines) rfl)
  f_Lnested := fnAt_of X G (c.t.d.fact 29 (f := .glo "_law_nested") rfl) rfl (c.t.d.def_ 32 (d := dd_Lnested) rfl)
  f_Lalike := fnAt_of X G (c.t.d.fact 30 (f := .glo "_law_alike") rfl) rfl (c.t.d.def_ 33 (d := dd_Lalike) rfl)
  f_Ldepth := fnAt_of X G (c.t.d.fact 31 (f := .glo "_law_depth") rfl) rfl (c.t.d.def_ 34 (d := dd_Ldepth) rfl)
  f_Lwrapped := fnAt_of X G (c.t.d.fact 32 (f := .glo "_law_wrapped") rfl) rfl (c.t.d.def_ 35 (d := dd_Lwrapped) rfl)
  f_Lwords := fnAt_of X G (c.t.d.fact 33 (f := .glo "_law_words") rfl) rfl (c.t.d.def_ 36 (d := dd_Lwords) rfl)
  f_Lspread := fnAt_of X G (c.t.d.fact 34 (f := .glo "_law_spread") rfl) rfl (c.t.d.def_ 37 (d := dd_Lspread) rfl)
  f_law := fnAt_of X G (c.t.d.fact 35 (f := .glo "law") rfl) rfl (c.t.d.def_ 38 (d := dd_law) rfl)
  b_len := He.free_ok X G (c.t.d.fact 36 (f := .free "len") rfl)
  b_int := He.free_ok X G (c.t.d.fact 37 (f := .free "int") rfl)
  b_range := He.free_ok X G (c.t.d.fact 38 (f := .free "range") rfl)
  b_isinstance := He.free_ok X G (c.t.d.fact 39 (f := .free "isinstance") rfl)
  b_bool := He.free_ok X G (c.t.d.fact 40 (f := .free "bool") rfl)
  b_str := He.free_ok X G (c.t.d.fact 41 (f := .free "str") rfl)
  b_list := He.free_ok X G (c.t.d.fact 42 (f := .free "list") rfl)
  b_tuple := He.free_ok X G (c.t.d.fact 43 (f := .free "tuple") rfl)
  b_zip := He.free_ok X G (c.t.d.fact 44 (f := .free "zip") rfl)
  b_max := He.free_ok X G (c.t.d.fact 45 (f := .free "max") rfl)
  b_min := He.free_ok X G (c.t.d.fact 46 (f := .free "min") rfl)
  b_ValueError := He.free_ok X G (c.t.d.fact 47 (f := .free "ValueError") rfl)
  gx_NoForm := He.glo_ok X G (c.t.d.fact 48 (f := .glo "NoForm") rfl)
  gx_TooGreat := He.glo_ok X G (c.t.d.fact 49 (f := .glo "TooGreat") rfl)
  ex := (and_r (and_r (and_r c.more)))
  ini := c.t.d.def_ 39 (d := dd_ini) rfl
  g_MOST_NUMBER := He.int_ok X G (c.t.d.fact 50 (f := .int "MOST_NUMBER" 9999) rfl)
  g_FIGURES := He.str_ok X G (c.t.d.fact 51 (f := .str "FIGURES" "0123456789") rfl)
  g_MOST_SIGNS := He.int_ok X G (c.t.d.fact 52 (f := .int "MOST_SIGNS" 8) rfl)
  g_KEPT := ⟨_, He.glo_ok X G (c.t.d.fact 53 (f := .glo "KEPT") rfl), tupB_ok (and_l c.more)⟩
  g_LETTERS := He.str_ok X G (c.t.d.fact 54 (f := .str "LETTERS" "abcdefghijklmnopqrstuvwxyz") rfl)
  g_MOST_FIGURES := He.int_ok X G (c.t.d.fact 55 (f := .int "MOST_FIGURES" 18) rfl)
  g_SUM_SIGNS := ⟨_, He.glo_ok X G (c.t.d.fact 56 (f := .glo "SUM_SIGNS") rfl), tupB_ok (and_l (and_r c.more))⟩
  g_TEST_SIGNS := ⟨_, He.glo_ok X G (c.t.d.fact 57 (f := .glo "TEST_SIGNS") rfl), tupB_ok (and_l (and_r (and_r c.more)))⟩
  g_MOST_LISTS := He.int_ok X G (c.t.d.fact 58 (f := .int "MOST_LISTS" 90) rfl)
  g_MOST_FORM_LINES := He.int_ok X G (c.t.d.fact 59 (f := .int "MOST_FORM_LINES" 400) rfl)
  kl_Opened := He.cls_ok (c.t.d.fact 60 (f := .cls "Opened") rfl)
  mk_Opened := He.mkr_ok (c.t.d.fact 61 (f := .mkr "Opened") rfl)
  gc_Opened := He.glo_ok X G (c.t.d.fact 62 (f := .glo "Opened") rfl)
  na_Opened_head := He.noat_ok (c.t.d.fact 63 (f := .noat "Opened" "head") rfl)
  na_Opened_now := He.noat_ok (c.t.d.fact 64 (f := .noat "Opened" "now") rfl)
  na_Opened_yes := He.noat_ok (c.t.d.fact 65 (f := .noat "Opened" "yes") rfl)
  me_Opened_turned := He.meth_ok (c.t.d.fact 66 (f := .meth "Opened" "turned") rfl)
  me_Opened_statement := He.meth_ok (c.t.d.fact 67 (f := .meth "Opened" "statement") rfl)
end Pk54
open PySem PySem.W PySem.Calls PyProof.Rows
theorem PySem.Challenge.cw_unjump_k54_form_read_holds : PySem.Challenge.rw_unjump_k54_form_read.Holds := by
  w_on; o_law
  refine HandSHeadRun.head_any (r := OpenLaw.row PySem.Challenge.rw_unjump_k54_form_read) (q := view (OpenLaw.row PySem.Challenge.rw_unjump_k54_form_read).prog [54]) (H := Pk54.hkR) (ob := Pk54.obR) (M := 6000) (loose := Pk54.looseR) (d := HandSHeadRun.topDef (OpenLaw.row PySem.Challenge.rw_unjump_k54_form_read).prog 54) (kwd := []) Pk54.obR_eq
    (by kernel_rfl) (fun s => by kernel_rfl) Pk54.runR (by kernel_rfl) (by kernel_rfl) (by kernel_rfl) (by rfl) (by first | assumption | decide +kernel) (by decide +kernel) ⟨rfl, rfl, rfl, rfl, rfl, by decide +kernel⟩ ?hw ?hc
  case hw => w_witness2
  case hc =>
    refine LamX.walk_ofTsE (l := PySem.Challenge.rw_unjump_k54_form_read) (n := 63) (k := 164) (x := "_law_script") (CX := fun w => VL.CX (PySem.Challenge.rw_unjump_k54_form_read).prog w) rfl (by decide) (by kernel_rfl) ⟨rfl, by decide, by decide⟩ ?F VL.cx_no
    intro w mg fa h Y G hmg0
    obtain ⟨K, KX, c⟩ := Y
    have hmg : mg ("law" : PySem.Str) = some (.ref fa) := by
      have e : (HandSHeadRun.topDef (OpenLaw.row PySem.Challenge.rw_unjump_k54_form_read).prog 54).name = ("law" : PySem.Str) := by kernel_rfl
      rw [← e]
      exact hmg0
    have hd := Pk54.hdR (w := w) KX G c
    exact ⟨K, KX, VL.lawAt hmg hd.f_law Pk54.bd_law (Pk54.ok_law hd) Pk54.mono_law Pk54.law_true⟩
