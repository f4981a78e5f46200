import PyProof.Rows.All
import Wide.All
import OpenK.AllK
import Wide.FinOn
import PySem.Challenge.RW_unjump_k12_graph_by_rows
import HandS.ForMost
import HandS.ForExc
import HandS.HeadHook1
import HandS.ExcCtx
import HandS.TryOnly
import HandS.RevRange
import HandS.Rev
import HandS.CallSlots
import HandS.Defaults
import HandS.IsInst
import HandS.Wide
import HandS.WideBits
import HandS.TupAny
import HandS.WordsDict
import HandS.TupLen
import HandS.Deep
import HandS.More
import HandS.Text
import HandS.RaiseMore
import HandS.Comp
import HandS.Style
import HandS.DictComp
import HandS.HeadHook4
import HandS.HeadWalk
import HandS.Words
import HandS.RevTup
import HandS.Zip
import HandS.SetFor
import HandS.ExcInit
import HandS.ExcIs
import HandS.ExcField
import HandS.TryMany
import HandS.HotCalls
import HandS.TryElse
import KE.KBits
import HandS.Codes
import KE.KDictLaws
import HandS.Iter
import HandS.Zip0
import KE.KItemsList
import KE.KDictList
import HandS.Head0
import HandS.Head1
import HandS.Head2
import HandS.HeadEnd
import Lean
set_option Elab.async false
set_option linter.all false
set_option maxRecDepth 100001
set_option maxHeartbeats 4000001
namespace VL
open PySem PySem.Spec PyProof.Rows L2 VL
abbrev Takes := L2N.Takes
abbrev CX := L2N.CX
theorem passAt {X : Cx} {W : WX} (tk : Takes X W) (σ : L2.St) : PassesAt (CX X.prog X.w) X σ (WE W σ) := L2N.passAt tk σ
theorem takes_of {X : Cx} {E : XK} (hs : X.stack = X.env :: X.outer) (hf : X.env.frame = some X.env.locals) (hex : X.ex = []) {E₁ : Value → Shared → Prop}
    (hx : X.xe = fun e s' => wpAny (model X.prog X.w) X.A (leaving X.env e) (fun _ s'' => CX X.prog X.w X.outer X.H_0 X.s_0 E e s'') E₁ s') : Takes X (fun cls d _ H => E cls d H) := L2N.takes_of hs hf hex hx
/-- a text by its codes -/
abbrev Cs := List Nat
def toS (s : Cs) : Str := ⟨s.toArray⟩
theorem toS_inj {a b : Cs} (h : toS a = toS b) : a = b := by
  have h2 : a.toArray = b.toArray := congrArg Str.cps h
  simpa using congrArg Array.toList h2
theorem toS_cps (x : Str) : toS x.cps.toList = x := by
  show (⟨x.cps.toList.toArray⟩ : Str) = x
  rw [Array.toArray_toList]
/-- a dict's key: an int, a text -/
abbrev Kc := Sum Int Cs
def kc : Kc → Key
  | .inl i => .inl i
  | .inr s => .inr (toS s)
theorem kc_inj {a b : Kc} (h : kc a = kc b) : a = b := by
  cases a <;> cases b <;> simp only [kc, Sum.inl.injEq, Sum.inr.injEq, reduceCtorEq] at h
  · rw [h]
  · rw [toS_inj h]
/-- Python's data as a tree. The flag m of a mutable node: it is ours alone (true), or it stands still (false) -/
inductive D where
  | hole
  | val (v : V)
  | non
  | bl (b : Bool)
  | int (i : Int)
  | str (s : Cs)
  | ty (n : String)
  | tup (xs : List D)
  | lst (m : Bool) (xs : List D)
  | dK (m : Bool) (ks : List Kc) (xs : List D)
  | dT (m : Bool) (ks : List (List Kc)) (xs : List D)
  | ins (m : Bool) (C : Addr) (fs : List Cs) (xs : List D)
  | pin (v : V) (d : D)
  | exn (a dd : Addr) (cls : Value) (row : D)
deriving Inhabited
/-- the value of a class: an own one by its name -/
def clsV (K : PySem.W.Frag) : Value → Value
  | .type s => .ref (He.ga K (Str.ofString s))
  | v => v
/-- an exception's object, kept -/
def exk (cls : Value) (dd a : Addr) : HO := .ext fun h => ∃ (oe : Obj) (vs : Array Value), h.get? a = some oe ∧ Zc cls (some dd) oe ∧ oe.data = .fields vs
/-- the program's own classes, by number -/
def cA (K : PySem.W.Frag) : Nat → Addr
  | 0 => He.ga K "Deeds"
  | 1 => He.ga K "Opened"
  | 2 => He.ga K "Teller"
  | 3 => He.ga K "Versions"
  | 4 => He.ga K "DeedsByVersions"
  | n => n
def kzip (ks : List Kc) (vs : List V) : List (Key × V) := (ks.map kc).zip vs
def tzip (ks : List (List Kc)) (vs : List V) : List (List Key × V) := (ks.map (·.map kc)).zip vs
def fzip (fs : List Cs) (vs : List V) : List (Str × V) := (fs.map toS).zip vs
/-- what G holds stands in H -/
def Sub (G H : Hp) : Prop := ∀ a o, G a = some o → H a = some o
theorem Sub.refl {G : Hp} : Sub G G := fun _ _ e => e
theorem Sub.trans {A B C : Hp} (h : Sub A B) (k : Sub B C) : Sub A C := fun a o e => k a o (h a o e)
theorem Sub.rd {G H : Hp} (h : Sub G H) {a : Addr} {u : HO} (r : Rd G a u) : Rd H a u := by
  rcases r with r | ⟨o, r⟩
  · exact .inl (h _ _ r)
  · exact .inr ⟨o, h _ _ r⟩
theorem Sub.sqL {K : PySem.W.Frag} {G H : Hp} (h : Sub G H) {a : Addr} {xs : List V} (r : SqL K G a xs) : SqL K H a xs := by
  rcases r with r | r
  · exact .inl (h.rd r)
  · exact .inr r
theorem Sub.upd {G H : Hp} {a : Addr} {o : HO} (h : Sub G H) (n : G a = none) : Sub G (upd H a o) := fun b u e => by
  rw [upd_ne (ne_of_none e n)]
  exact h b u e
theorem Sub.upd2 {G H : Hp} {a : Addr} {o : HO} (h : Sub G H) : Sub (L2.upd G a o) (L2.upd H a o) := fun b u e => by
  by_cases hb : b = a
  · subst hb
    rw [upd_same] at e ⊢
    exact e
  · rw [upd_ne hb] at e ⊢
    exact h b u e
theorem Sub.laid {G : Hp} {a : Addr} {o : HO} (n : G a = none) : Sub G (L2.upd G a o) := Sub.refl.upd n
mutual
/-- v is d: what stands still in G, what is ours at the addresses F in H -/
def Rp (K : PySem.W.Frag) (G H : Hp) : D → V → List Addr → Prop
  | .hole, _, F => F = []
  | .val u, v, F => v = u ∧ F = []
  | .non, v, F => v = .non ∧ F = []
  | .bl b, v, F => v = .bl b ∧ F = []
  | .int i, v, F => v = .int i ∧ F = []
  | .str s, v, F => v = .str (toS s) ∧ F = []
  | .ty n, v, F => v = .ty n ∧ F = []
  | .pin u d, v, F => v = u ∧ Rp K G H d v F
  | .exn a dd cls row, v, F => (v = .ref a ∧ G a = some (exk (clsV K cls) dd a)) ∧ ∃ w, G dd = some (.xd [("row", w)]) ∧ Rp K G H row w F
  | .tup ds, v, F => ∃ a vs, v = .ref a ∧ G a = some (.tup vs) ∧ RpL K G H ds vs F
  | .lst false ds, v, F => ∃ a vs, v = .ref a ∧ SqL K G a vs ∧ F = [] ∧ RpL K G H ds vs []
  | .lst true ds, v, F => ∃ a vs F', v = .ref a ∧ H a = some (.lst vs) ∧ F = a :: F' ∧ RpL K G H ds vs F'
  | .dK false ks ds, v, F => ∃ a vs, v = .ref a ∧ Rd G a (.dK (kzip ks vs)) ∧ F = [] ∧ ks.length = ds.length ∧ ks.Nodup ∧ RpL K G H ds vs []
  | .dK true ks ds, v, F => ∃ a vs F', v = .ref a ∧ H a = some (.dK (kzip ks vs)) ∧ F = a :: F' ∧ ks.length = ds.length ∧ ks.Nodup ∧ RpL K G H ds vs F'
  | .dT false ks ds, v, F => ∃ a vs, v = .ref a ∧ G a = some (.dT (tzip ks vs)) ∧ F = [] ∧ ks.length = ds.length ∧ ks.Nodup ∧ RpL K G H ds vs []
  | .dT true ks ds, v, F => ∃ a vs F', v = .ref a ∧ H a = some (.dT (tzip ks vs)) ∧ F = a :: F' ∧ ks.length = ds.length ∧ ks.Nodup ∧ RpL K G H ds vs F'
  | .ins false C fs ds, v, F => ∃ a dx vs, v = .ref a ∧ G a = some (.ins (cA K C) dx (fzip fs vs)) ∧ F = [] ∧ fs.length = ds.length ∧ RpL K G H ds vs []
  | .ins true C fs ds, v, F => ∃ a dx vs F', v = .ref a ∧ H a = some (.ins (cA K C) dx (fzip fs vs)) ∧ F = a :: F' ∧ fs.length = ds.length ∧ RpL K G H ds vs F'
def RpL (K : PySem.W.Frag) (G H : Hp) : List D → List V → List Addr → Prop
  | [], vs, F => vs = [] ∧ F = []
  | d :: ds, vs, F => ∃ v vs' F1 F2, vs = v :: vs' ∧ F = F1 ++ F2 ∧ Rp K G H d v F1 ∧ RpL K G H ds vs' F2
end
section
variable {K : PySem.W.Frag} {G G' H H' : Hp}
mutual
/-- carried over: G grows, our own objects stay -/
theorem Rp.mono (hs : Sub G G') : ∀ {d : D} {v : V} {F : List Addr}, (∀ a ∈ F, H' a = H a) → Rp K G H d v F → Rp K G' H' d v F
  | .hole, _, _, _, h => h
  | .val _, _, _, _, h => h
  | .non, _, _, _, h => h
  | .bl _, _, _, _, h => h
  | .int _, _, _, _, h => h
  | .str _, _, _, _, h => h
  | .ty _, _, _, _, h => h
  | .pin u d, v, F, k, h => ⟨h.1, Rp.mono hs k h.2⟩
  | .exn _ _ _ row, v, F, k, h => by
    obtain ⟨e, w, s, r⟩ := h
    exact ⟨⟨e.1, hs _ _ e.2⟩, w, hs _ _ s, Rp.mono hs k r⟩
  | .tup ds, v, F, k, h => by
    obtain ⟨a, vs, e, s, r⟩ := h
    exact ⟨a, vs, e, hs _ _ s, RpL.mono hs k r⟩
  | .lst false ds, v, F, k, h => by
    obtain ⟨a, vs, e, s, f, r⟩ := h
    exact ⟨a, vs, e, hs.sqL s, f, RpL.mono hs (fun _ z => nomatch z) r⟩
  | .lst true ds, v, F, k, h => by
    obtain ⟨a, vs, F', e, s, rfl, r⟩ := h
    exact ⟨a, vs, F', e, (k a List.mem_cons_self).trans s, rfl, RpL.mono hs (fun b z => k b (List.mem_cons_of_mem _ z)) r⟩
  | .dK false ks ds, v, F, k, h => by
    obtain ⟨a, vs, e, s, f, l, n, r⟩ := h
    exact ⟨a, vs, e, hs.rd s, f, l, n, RpL.mono hs (fun _ z => nomatch z) r⟩
  | .dK true ks ds, v, F, k, h => by
    obtain ⟨a, vs, F', e, s, rfl, l, n, r⟩ := h
    exact ⟨a, vs, F', e, (k a List.mem_cons_self).trans s, rfl, l, n, RpL.mono hs (fun b z => k b (List.mem_cons_of_mem _ z)) r⟩
  | .dT false ks ds, v, F, k, h => by
    obtain ⟨a, vs, e, s, f, l, n, r⟩ := h
    exact ⟨a, vs, e, hs _ _ s, f, l, n, RpL.mono hs (fun _ z => nomatch z) r⟩
  | .dT true ks ds, v, F, k, h => by
    obtain ⟨a, vs, F', e, s, rfl, l, n, r⟩ := h
    exact ⟨a, vs, F', e, (k a List.mem_cons_self).trans s, rfl, l, n, RpL.mono hs (fun b z => k b (List.mem_cons_of_mem _ z)) r⟩
  | .ins false C fs ds, v, F, k, h => by
    obtain ⟨a, dx, vs, e, s, f, l, r⟩ := h
    exact ⟨a, dx, vs, e, hs _ _ s, f, l, RpL.mono hs (fun _ z => nomatch z) r⟩
  | .ins true C fs ds, v, F, k, h => by
    obtain ⟨a, dx, vs, F', e, s, rfl, l, r⟩ := h
    exact ⟨a, dx, vs, F', e, (k a List.mem_cons_self).trans s, rfl, l, RpL.mono hs (fun b z => k b (List.mem_cons_of_mem _ z)) r⟩
theorem RpL.mono (hs : Sub G G') : ∀ {ds : List D} {vs : List V} {F : List Addr}, (∀ a ∈ F, H' a = H a) → RpL K G H ds vs F → RpL K G' H' ds vs F
  | [], _, _, _, h => h
  | d :: ds, vs, F, k, h => by
    obtain ⟨v, vs', F1, F2, rfl, rfl, r, rs⟩ := h
    exact ⟨v, vs', F1, F2, rfl, rfl, Rp.mono hs (fun a z => k a (List.mem_append_left _ z)) r, RpL.mono hs (fun a z => k a (List.mem_append_right _ z)) rs⟩
end
mutual
/-- what is ours stands -/
theorem Rp.there : ∀ {d : D} {v : V} {F : List Addr}, Rp K G H d v F → ∀ a ∈ F, ∃ o, H a = some o ∧ Mut (some o)
  | .hole, _, _, h, a, z => by rw [show _ = [] from h] at z; cases z
  | .val _, _, _, h, a, z => by rw [h.2] at z; cases z
  | .non, _, _, h, a, z => by rw [h.2] at z; cases z
  | .bl _, _, _, h, a, z => by rw [h.2] at z; cases z
  | .int _, _, _, h, a, z => by rw [h.2] at z; cases z
  | .str _, _, _, h, a, z => by rw [h.2] at z; cases z
  | .ty _, _, _, h, a, z => by rw [h.2] at z; cases z
  | .pin u d, v, F, h, a, z => Rp.there h.2 a z
  | .exn _ _ _ row, v, F, h, a, z => by
    obtain ⟨e, w, s, r⟩ := h
    exact Rp.there r a z
  | .tup ds, v, F, h, a, z => by
    obtain ⟨_, vs, e, s, r⟩ := h
    exact RpL.there r a z
  | .lst false ds, v, F, h, a, z => by
    obtain ⟨_, vs, e, s, f, r⟩ := h
    rw [f] at z; cases z
  | .lst true ds, v, F, h, a, z => by
    obtain ⟨b, vs, F', e, s, rfl, r⟩ := h
    rcases List.mem_cons.mp z with rfl | z
    · exact ⟨_, s, trivial⟩
    · exact RpL.there r a z
  | .dK false ks ds, v, F, h, a, z => by
    obtain ⟨_, vs, e, s, f, _, _, r⟩ := h
    rw [f] at z; cases z
  | .dK true ks ds, v, F, h, a, z => by
    obtain ⟨b, vs, F', e, s, rfl, _, _, r⟩ := h
    rcases List.mem_cons.mp z with rfl | z
    · exact ⟨_, s, trivial⟩
    · exact RpL.there r a z
  | .dT false ks ds, v, F, h, a, z => by
    obtain ⟨_, vs, e, s, f, _, _, r⟩ := h
    rw [f] at z; cases z
  | .dT true ks ds, v, F, h, a, z => by
    obtain ⟨b, vs, F', e, s, rfl, _, _, r⟩ := h
    rcases List.mem_cons.mp z with rfl | z
    · exact ⟨_, s, trivial⟩
    · exact RpL.there r a z
  | .ins false C fs ds, v, F, h, a, z => by
    obtain ⟨_, _, vs, e, s, f, _, r⟩ := h
    rw [f] at z; cases z
  | .ins true C fs ds, v, F, h, a, z => by
    obtain ⟨b, dx, vs, F', e, s, rfl, _, r⟩ := h
    rcases List.mem_cons.mp z with rfl | z
    · exact ⟨_, s, trivial⟩
    · exact RpL.there r a z
theorem RpL.there : ∀ {ds : List D} {vs : List V} {F : List Addr}, RpL K G H ds vs F → ∀ a ∈ F, ∃ o, H a = some o ∧ Mut (some o)
  | [], _, _, h, a, z => by rw [h.2] at z; cases z
  | d :: ds, vs, F, h, a, z => by
    obtain ⟨v, vs', F1, F2, rfl, rfl, r, rs⟩ := h
    rcases List.mem_append.mp z with z | z
    · exact Rp.there r a z
    · exact RpL.there rs a z
end
theorem RpL.len : ∀ {ds : List D} {vs : List V} {F : List Addr}, RpL K G H ds vs F → ds.length = vs.length
  | [], _, _, h => by rw [h.1]; rfl
  | d :: ds, vs, F, h => by
    obtain ⟨v, vs', F1, F2, rfl, rfl, r, rs⟩ := h
    rw [List.length_cons, List.length_cons, RpL.len rs]
theorem RpL.append : ∀ {ds es : List D} {vs ws : List V} {F1 F2 : List Addr}, RpL K G H ds vs F1 → RpL K G H es ws F2 → RpL K G H (ds ++ es) (vs ++ ws) (F1 ++ F2)
  | [], es, vs, ws, F1, F2, h, k => by
    obtain ⟨rfl, rfl⟩ := h
    exact k
  | d :: ds, es, vs, ws, F1, F2, h, k => by
    obtain ⟨v, vs', A, B, rfl, rfl, r, rs⟩ := h
    exact ⟨v, vs' ++ ws, A, B ++ F2, rfl, List.append_assoc .., r, RpL.append rs k⟩
theorem RpL.split : ∀ {ds es : List D} {us : List V} {F : List Addr}, RpL K G H (ds ++ es) us F → ∃ vs ws F1 F2, us = vs ++ ws ∧ F = F1 ++ F2 ∧ RpL K G H ds vs F1 ∧ RpL K G H es ws F2
  | [], es, us, F, h => ⟨[], us, [], F, rfl, rfl, ⟨rfl, rfl⟩, h⟩
  | d :: ds, es, us, F, h => by
    obtain ⟨v, vs', A, B, rfl, rfl, r, rs⟩ := h
    obtain ⟨vs, ws, F1, F2, rfl, rfl, r1, r2⟩ := RpL.split rs
    exact ⟨v :: vs, ws, A ++ F1, F2, rfl, (List.append_assoc ..).symm, ⟨v, vs, A, F1, rfl, rfl, r, r1⟩, r2⟩
/-- where the values are told already -/
theorem RpL.split2 {ds es : List D} {vs ws : List V} {F : List Addr} (h : RpL K G H (ds ++ es) (vs ++ ws) F) (hl : ds.length = vs.length) : ∃ F1 F2, F = F1 ++ F2 ∧ RpL K G H ds vs F1 ∧ RpL K G H es ws F2 := by
  obtain ⟨vs', ws', F1, F2, e, f, r1, r2⟩ := RpL.split h
  obtain ⟨rfl, rfl⟩ := List.append_inj e (hl.symm.trans r1.len)
  exact ⟨F1, F2, f, r1, r2⟩
theorem RpL.one {d : D} {v : V} {F : List Addr} : RpL K G H [d] [v] F ↔ Rp K G H d v F := by
  constructor
  · rintro ⟨v', vs', F1, F2, e, rfl, r, rfl, rfl⟩
    cases e
    rw [List.append_nil]
    exact r
  · intro r
    exact ⟨v, [], F, [], rfl, (List.append_nil _).symm, r, rfl, rfl⟩
theorem RpL.get : ∀ {ds : List D} {vs : List V} {i : Nat} {d : D}, RpL K G H ds vs [] → ds[i]? = some d → ∃ v, vs[i]? = some v ∧ Rp K G H d v []
  | [], _, _, _, _, e => by simp at e
  | d :: ds, vs, 0, d', h, e => by
    obtain ⟨v, vs', F1, F2, rfl, f, r, rs⟩ := h
    obtain ⟨rfl, rfl⟩ := List.append_eq_nil_iff.mp f.symm
    simp at e
    subst e
    exact ⟨v, rfl, r⟩
  | d :: ds, vs, i + 1, d', h, e => by
    obtain ⟨v, vs', F1, F2, rfl, f, r, rs⟩ := h
    obtain ⟨rfl, rfl⟩ := List.append_eq_nil_iff.mp f.symm
    obtain ⟨w, hw, q⟩ := RpL.get (i := i) rs (by simpa using e)
    exact ⟨w, by simpa using hw, q⟩
/-- one place of a list, the others around it -/
theorem RpL.focus : ∀ {ds : List D} {vs : List V} {F : List Addr} {i : Nat} {d : D}, RpL K G H ds vs F → ds[i]? = some d →
    ∃ v A B C, vs[i]? = some v ∧ F = A ++ B ++ C ∧ Rp K G H d v B ∧ ∀ (G' H' : Hp) (d' : D) (v' : V) (B' : List Addr), Sub G G' → (∀ a ∈ A ++ C, H' a = H a) → Rp K G' H' d' v' B' → RpL K G' H' (ds.set i d') (vs.set i v') (A ++ B' ++ C)
  | [], _, _, _, _, _, e => by simp at e
  | d :: ds, vs, F, 0, d', h, e => by
    obtain ⟨v, vs', F1, F2, rfl, rfl, r, rs⟩ := h
    simp at e
    subst e
    refine ⟨v, [], F1, F2, rfl, rfl, r, fun G' H' d' v' B' hs k r' => ?_⟩
    exact ⟨v', vs', B', F2, rfl, rfl, r', RpL.mono hs k rs⟩
  | d :: ds, vs, F, i + 1, d', h, e => by
    obtain ⟨v, vs', F1, F2, rfl, rfl, r, rs⟩ := h
    obtain ⟨w, A, B, C, hw, rfl, q, back⟩ := RpL.focus (i := i) rs (by simpa using e)
    refine ⟨w, F1 ++ A, B, C, by simpa using hw, by simp only [List.append_assoc], q, fun G' H' d'' v'' B' hs k r' => ?_⟩
    refine ⟨v, vs'.set i v'', F1, A ++ B' ++ C, rfl, by simp only [List.append_assoc], Rp.mono hs (fun a z => k a ?_) r, back G' H' d'' v'' B' hs (fun a z => k a ?_) r'⟩
    · exact List.mem_append_left _ (List.mem_append_left _ z)
    · rcases List.mem_append.mp z with z | z
      · exact List.mem_append_left _ (List.mem_append_right _ z)
      · exact List.mem_append_right _ z
end
mutual
def frz : D → D
  | .hole => .hole
  | .val v => .val v
  | .non => .non
  | .bl b => .bl b
  | .int i => .int i
  | .str s => .str s
  | .ty n => .ty n
  | .pin u d => .pin u (frz d)
  | .exn a dd c row => .exn a dd c (frz row)
  | .tup xs => .tup (frzL xs)
  | .lst _ xs => .lst false (frzL xs)
  | .dK _ ks xs => .dK false ks (frzL xs)
  | .dT _ ks xs => .dT false ks (frzL xs)
  | .ins _ C fs xs => .ins false C fs (frzL xs)
def frzL : List D → List D
  | [] => []
  | d :: ds => frz d :: frzL ds
end
mutual
/-- nothing in it is ours -/
def isFz : D → Bool
  | .hole => true
  | .val _ => true
  | .non => true
  | .bl _ => true
  | .int _ => true
  | .str _ => true
  | .ty _ => true
  | .pin _ d => isFz d
  | .exn _ _ _ row => isFz row
  | .tup xs => isFzL xs
  | .lst m xs => !m && isFzL xs
  | .dK m _ xs => !m && isFzL xs
  | .dT m _ xs => !m && isFzL xs
  | .ins m _ _ xs => !m && isFzL xs
def isFzL : List D → Bool
  | [] => true
  | d :: ds => isFz d && isFzL ds
end
theorem frzL_map : ∀ ds : List D, frzL ds = ds.map frz
  | [] => rfl
  | d :: ds => by rw [frzL, frzL_map ds, List.map_cons]
theorem isFzL_all : ∀ ds : List D, isFzL ds = ds.all isFz
  | [] => rfl
  | d :: ds => by rw [isFzL, isFzL_all ds, List.all_cons]
section
variable {K : PySem.W.Frag} {G G' H H' : Hp}
mutual
theorem Rp.fz : ∀ {d : D} {v : V} {F : List Addr}, isFz d = true → Rp K G H d v F → F = []
  | .hole, _, _, _, h => h
  | .val _, _, _, _, h => h.2
  | .non, _, _, _, h => h.2
  | .bl _, _, _, _, h => h.2
  | .int _, _, _, _, h => h.2
  | .str _, _, _, _, h => h.2
  | .ty _, _, _, _, h => h.2
  | .pin u d, v, F, q, h => Rp.fz (d := d) q h.2
  | .exn _ _ _ row, v, F, q, h => by
    obtain ⟨e, w, s, r⟩ := h
    exact Rp.fz (d := row) q r
  | .tup ds, v, F, q, h => by
    obtain ⟨_, vs, e, s, r⟩ := h
    exact RpL.fz (by simpa [isFz] using q) r
  | .lst false ds, v, F, q, h => by
    obtain ⟨_, vs, e, s, f, r⟩ := h
    exact f
  | .lst true ds, v, F, q, h => by simp [isFz] at q
  | .dK false ks ds, v, F, q, h => by
    obtain ⟨_, vs, e, s, f, _⟩ := h
    exact f
  | .dK true ks ds, v, F, q, h => by simp [isFz] at q
  | .dT false ks ds, v, F, q, h => by
    obtain ⟨_, vs, e, s, f, _⟩ := h
    exact f
  | .dT true ks ds, v, F, q, h => by simp [isFz] at q
  | .ins false C fs ds, v, F, q, h => by
    obtain ⟨_, _, vs, e, s, f, _⟩ := h
    exact f
  | .ins true C fs ds, v, F, q, h => by simp [isFz] at q
theorem RpL.fz : ∀ {ds : List D} {vs : List V} {F : List Addr}, isFzL ds = true → RpL K G H ds vs F → F = []
  | [], _, _, _, h => h.2
  | d :: ds, vs, F, q, h => by
    obtain ⟨v, vs', F1, F2, rfl, rfl, r, rs⟩ := h
    have q2 : (isFz d && isFzL ds) = true := q
    obtain ⟨q3, q4⟩ := Bool.and_eq_true_iff.mp q2
    rw [Rp.fz q3 r, RpL.fz q4 rs]
    rfl
end
mutual
/-- what is ours is let stand still -/
theorem Rp.freeze (hs : Sub G G') : ∀ {d : D} {v : V} {F : List Addr}, (∀ a ∈ F, G' a = H a) → Rp K G H d v F → Rp K G' H' (frz d) v []
  | .hole, _, _, _, h => rfl
  | .val _, _, _, _, h => ⟨h.1, rfl⟩
  | .non, _, _, _, h => ⟨h.1, rfl⟩
  | .bl _, _, _, _, h => ⟨h.1, rfl⟩
  | .int _, _, _, _, h => ⟨h.1, rfl⟩
  | .str _, _, _, _, h => ⟨h.1, rfl⟩
  | .ty _, _, _, _, h => ⟨h.1, rfl⟩
  | .pin u d, v, F, k, h => ⟨h.1, Rp.freeze hs k h.2⟩
  | .exn _ _ _ row, v, F, k, h => by
    obtain ⟨e, w, s, r⟩ := h
    exact ⟨⟨e.1, hs _ _ e.2⟩, w, hs _ _ s, Rp.freeze hs k r⟩
  | .tup ds, v, F, k, h => by
    obtain ⟨a, vs, e, s, r⟩ := h
    exact ⟨a, vs, e, hs _ _ s, RpL.freeze hs k r⟩
  | .lst false ds, v, F, k, h => by
    obtain ⟨a, vs, e, s, f, r⟩ := h
    exact ⟨a, vs, e, hs.sqL s, rfl, RpL.freeze (F := []) hs (fun _ z => nomatch z) r⟩
  | .lst true ds, v, F, k, h => by
    obtain ⟨a, vs, F', e, s, rfl, r⟩ := h
    exact ⟨a, vs, e, SqL.of ((k a List.mem_cons_self).trans s), rfl, RpL.freeze hs (fun b z => k b (List.mem_cons_of_mem _ z)) r⟩
  | .dK false ks ds, v, F, k, h => by
    obtain ⟨a, vs, e, s, f, l, n, r⟩ := h
    exact ⟨a, vs, e, hs.rd s, rfl, by rw [frzL_map, List.length_map]; exact l, n, RpL.freeze (F := []) hs (fun _ z => nomatch z) r⟩
  | .dK true ks ds, v, F, k, h => by
    obtain ⟨a, vs, F', e, s, rfl, l, n, r⟩ := h
    exact ⟨a, vs, e, .inl ((k a List.mem_cons_self).trans s), rfl, by rw [frzL_map, List.length_map]; exact l, n, RpL.freeze hs (fun b z => k b (List.mem_cons_of_mem _ z)) r⟩
  | .dT false ks ds, v, F, k, h => by
    obtain ⟨a, vs, e, s, f, l, n, r⟩ := h
    exact ⟨a, vs, e, hs _ _ s, rfl, by rw [frzL_map, List.length_map]; exact l, n, RpL.freeze (F := []) hs (fun _ z => nomatch z) r⟩
  | .dT true ks ds, v, F, k, h => by
    obtain ⟨a, vs, F', e, s, rfl, l, n, r⟩ := h
    exact ⟨a, vs, e, (k a List.mem_cons_self).trans s, rfl, by rw [frzL_map, List.length_map]; exact l, n, RpL.freeze hs (fun b z => k b (List.mem_cons_of_mem _ z)) r⟩
  | .ins false C fs ds, v, F, k, h => by
    obtain ⟨a, dx, vs, e, s, f, l, r⟩ := h
    exact ⟨a, dx, vs, e, hs _ _ s, rfl, by rw [frzL_map, List.length_map]; exact l, RpL.freeze (F := []) hs (fun _ z => nomatch z) r⟩
  | .ins true C fs ds, v, F, k, h => by
    obtain ⟨a, dx, vs, F', e, s, rfl, l, r⟩ := h
    exact ⟨a, dx, vs, e, (k a List.mem_cons_self).trans s, rfl, by rw [frzL_map, List.length_map]; exact l, RpL.freeze hs (fun b z => k b (List.mem_cons_of_mem _ z)) r⟩
theorem RpL.freeze (hs : Sub G G') : ∀ {ds : List D} {vs : List V} {F : List Addr}, (∀ a ∈ F, G' a = H a) → RpL K G H ds vs F → RpL K G' H' (frzL ds) vs []
  | [], _, _, _, h => ⟨h.1, rfl⟩
  | d :: ds, vs, F, k, h => by
    obtain ⟨v, vs', F1, F2, rfl, rfl, r, rs⟩ := h
    exact ⟨v, vs', [], [], rfl, rfl, Rp.freeze hs (fun a z => k a (List.mem_append_left _ z)) r, RpL.freeze hs (fun a z => k a (List.mem_append_right _ z)) rs⟩
end
end
mutual
theorem frz_id : ∀ {d : D}, isFz d = true → frz d = d
  | .hole, _ => rfl
  | .val _, _ => rfl
  | .non, _ => rfl
  | .bl _, _ => rfl
  | .int _, _ => rfl
  | .str _, _ => rfl
  | .ty _, _ => rfl
  | .pin u d, q => by rw [frz, frz_id (d := d) q]
  | .exn _ _ _ row, q => by rw [frz, frz_id (d := row) q]
  | .tup xs, q => by rw [frz, frzL_id (by simpa [isFz] using q)]
  | .lst m xs, q => by
    obtain ⟨q1, q2⟩ := Bool.and_eq_true_iff.mp (show (!m && isFzL xs) = true from q)
    rw [frz, frzL_id q2, show m = false by simpa using q1]
  | .dK m ks xs, q => by
    obtain ⟨q1, q2⟩ := Bool.and_eq_true_iff.mp (show (!m && isFzL xs) = true from q)
    rw [frz, frzL_id q2, show m = false by simpa using q1]
  | .dT m ks xs, q => by
    obtain ⟨q1, q2⟩ := Bool.and_eq_true_iff.mp (show (!m && isFzL xs) = true from q)
    rw [frz, frzL_id q2, show m = false by simpa using q1]
  | .ins m C fs xs, q => by
    obtain ⟨q1, q2⟩ := Bool.and_eq_true_iff.mp (show (!m && isFzL xs) = true from q)
    rw [frz, frzL_id q2, show m = false by simpa using q1]
theorem frzL_id : ∀ {ds : List D}, isFzL ds = true → frzL ds = ds
  | [], _ => rfl
  | d :: ds, q => by
    obtain ⟨q1, q2⟩ := Bool.and_eq_true_iff.mp (show (isFz d && isFzL ds) = true from q)
    rw [frzL, frz_id q1, frzL_id q2]
end
mutual
theorem isFz_frz : ∀ d : D, isFz (frz d) = true
  | .hole => rfl
  | .val _ => rfl
  | .non => rfl
  | .bl _ => rfl
  | .int _ => rfl
  | .str _ => rfl
  | .ty _ => rfl
  | .pin u d => by rw [frz, isFz, isFz_frz]
  | .exn _ _ _ row => by rw [frz, isFz, isFz_frz]
  | .tup xs => by rw [frz, isFz, isFzL_frz]
  | .lst m xs => by rw [frz, isFz, isFzL_frz]; rfl
  | .dK m ks xs => by rw [frz, isFz, isFzL_frz]; rfl
  | .dT m ks xs => by rw [frz, isFz, isFzL_frz]; rfl
  | .ins m C fs xs => by rw [frz, isFz, isFzL_frz]; rfl
theorem isFzL_frz : ∀ ds : List D, isFzL (frzL ds) = true
  | [] => rfl
  | d :: ds => by rw [frzL, isFzL, isFz_frz, isFzL_frz]; rfl
end
end VL
namespace VL
open PySem PySem.Spec PyProof.Rows L2 VL
abbrev Ep := List (Option D)
/-- a slot: told, or not told -/
def RpO (K : PySem.W.Frag) (G H : Hp) : Option D → Option V → List Addr → Prop
  | none, _, F => F = []
  | some d, ov, F => ∃ v, ov = some v ∧ Rp K G H d v F
def RpS (K : PySem.W.Frag) (G H : Hp) : Ep → L2.St → List Addr → Prop
  | [], σ, F => σ = [] ∧ F = []
  | od :: ε, σ, F => ∃ ov σ' F1 F2, σ = ov :: σ' ∧ F = F1 ++ F2 ∧ RpO K G H od ov F1 ∧ RpS K G H ε σ' F2
section
variable {K : PySem.W.Frag} {G G' H H' : Hp}
theorem RpO.mono (hs : Sub G G') {od : Option D} {ov : Option V} {F : List Addr} (k : ∀ a ∈ F, H' a = H a) (h : RpO K G H od ov F) : RpO K G' H' od ov F := by
  cases od with
  | none => exact h
  | some d =>
    obtain ⟨v, e, r⟩ := h
    exact ⟨v, e, r.mono hs k⟩
theorem RpS.mono (hs : Sub G G') : ∀ {ε : Ep} {σ : L2.St} {F : List Addr}, (∀ a ∈ F, H' a = H a) → RpS K G H ε σ F → RpS K G' H' ε σ F
  | [], _, _, _, h => h
  | od :: ε, σ, F, k, h => by
    obtain ⟨ov, σ', F1, F2, rfl, rfl, r, rs⟩ := h
    exact ⟨ov, σ', F1, F2, rfl, rfl, r.mono hs (fun a z => k a (List.mem_append_left _ z)), RpS.mono hs (fun a z => k a (List.mem_append_right _ z)) rs⟩
theorem RpS.there : ∀ {ε : Ep} {σ : L2.St} {F : List Addr}, RpS K G H ε σ F → ∀ a ∈ F, ∃ o, H a = some o ∧ Mut (some o)
  | [], _, _, h, a, z => by rw [h.2] at z; cases z
  | od :: ε, σ, F, h, a, z => by
    obtain ⟨ov, σ', F1, F2, rfl, rfl, r, rs⟩ := h
    rcases List.mem_append.mp z with z | z
    · cases od with
      | none => rw [show F1 = [] from r] at z; cases z
      | some d =>
        obtain ⟨v, _, r⟩ := r
        exact r.there a z
    · exact RpS.there rs a z
theorem RpS.focus : ∀ {ε : Ep} {σ : L2.St} {F : List Addr} {i : Nat} {od : Option D}, RpS K G H ε σ F → ε[i]? = some od →
    ∃ ov A B C, σ[i]? = some ov ∧ F = A ++ B ++ C ∧ RpO K G H od ov B ∧ ∀ (G' H' : Hp) (od' : Option D) (ov' : Option V) (B' : List Addr), Sub G G' → (∀ a ∈ A ++ C, H' a = H a) → RpO K G' H' od' ov' B' → RpS K G' H' (ε.set i od') (σ.set i ov') (A ++ B' ++ C)
  | [], _, _, _, _, _, e => by simp at e
  | od :: ε, σ, F, 0, od', h, e => by
    obtain ⟨ov, σ', F1, F2, rfl, rfl, r, rs⟩ := h
    simp at e
    subst e
    refine ⟨ov, [], F1, F2, rfl, rfl, r, fun G' H' od' ov' B' hs k r' => ?_⟩
    exact ⟨ov', σ', B', F2, rfl, rfl, r', RpS.mono hs k rs⟩
  | od :: ε, σ, F, i + 1, od', h, e => by
    obtain ⟨ov, σ', F1, F2, rfl, rfl, r, rs⟩ := h
    obtain ⟨w, A, B, C, hw, rfl, q, back⟩ := RpS.focus (i := i) rs (by simpa using e)
    refine ⟨w, F1 ++ A, B, C, by simpa using hw, by simp only [List.append_assoc], q, fun G' H' od'' ov'' B' hs k r' => ?_⟩
    refine ⟨ov, σ'.set i ov'', F1, A ++ B' ++ C, rfl, by simp only [List.append_assoc], r.mono hs (fun a z => k a ?_), back G' H' od'' ov'' B' hs (fun a z => k a ?_) r'⟩
    · exact List.mem_append_left _ (List.mem_append_left _ z)
    · rcases List.mem_append.mp z with z | z
      · exact List.mem_append_left _ (List.mem_append_right _ z)
      · exact List.mem_append_right _ z
theorem RpS.len : ∀ {ε : Ep} {σ : L2.St} {F : List Addr}, RpS K G H ε σ F → ε.length = σ.length
  | [], _, _, h => by rw [h.1]; rfl
  | od :: ε, σ, F, h => by
    obtain ⟨ov, σ', F1, F2, rfl, rfl, r, rs⟩ := h
    rw [List.length_cons, List.length_cons, RpS.len rs]
end
/-- the ground of a def's run: the heap at the entry, what stands still in it, what was handed in to be changed, the kept parameters' values -/
structure Bs where
  H0 : Hp
  G0 : Hp
  F0 : List Addr
  kv : List (Option V) := []
structure SIx (K : PySem.W.Frag) (b : Bs) (G : Hp) (F Ft : List Addr) (σ : L2.St) (H : Hp) (ε : Ep) (T : List D) (Tv : List V) : Prop where
  s0 : Sub b.G0 G
  sub : Sub G H
  slots : RpS K G H ε σ F
  temps : RpL K G H T Tv Ft
  nd : (F ++ Ft).Nodup
  fr : ∀ a ∈ F ++ Ft, G a = none
  own : ∀ a ∈ F ++ Ft, a ∈ b.F0 ∨ b.H0 a = none
  gn : ∀ a o, G a = some o → b.G0 a = some o ∨ a ∈ b.F0 ∨ b.H0 a = none ∨ ∃ vs, o = .tup vs
  keep : ∀ a o, b.H0 a = some o → a ∉ b.F0 → H a = some o
  kept : ∀ (j : Nat) v, b.kv[j]? = some (some v) → σ[j]? = some (some v)
theorem inl3 {p q r : Prop} (h : p ∨ q) : p ∨ q ∨ r := h.elim .inl fun h => .inr (.inl h)
def SI (K : PySem.W.Frag) (b : Bs) (σ : L2.St) (H : Hp) (ε : Ep) (T : List D) (Tv : List V) : Prop := ∃ G F Ft, SIx K b G F Ft σ H ε T Tv
section
variable {K : PySem.W.Frag} {b : Bs} {σ : L2.St} {H H' : Hp} {ε : Ep} {T : List D} {Tv : List V}
theorem SIx.lenT {G F Ft} (I : SIx K b G F Ft σ H ε T Tv) : T.length = Tv.length := I.temps.len
theorem SI.lenT (I : SI K b σ H ε T Tv) : T.length = Tv.length := let ⟨_, _, _, J⟩ := I; J.lenT
theorem SIx.ne {G F Ft} (I : SIx K b G F Ft σ H ε T Tv) {p : Addr} (n : H p = none) : p ∉ F ++ Ft := fun z => by
  rcases List.mem_append.mp z with z | z
  · obtain ⟨o, e, _⟩ := I.slots.there p z
    rw [n] at e; cases e
  · obtain ⟨o, e, _⟩ := I.temps.there p z
    rw [n] at e; cases e
theorem SIx.gne {G F Ft} (I : SIx K b G F Ft σ H ε T Tv) {p : Addr} (n : H p = none) : G p = none := by
  cases e : G p with
  | none => rfl
  | some o =>
    have := I.sub p o e
    rw [n] at this; cases this
theorem SIx.h0 {G F Ft} (I : SIx K b G F Ft σ H ε T Tv) {p : Addr} (n : H p = none) : p ∈ b.F0 ∨ b.H0 p = none := by
  cases e : b.H0 p with
  | none => exact .inr rfl
  | some o =>
    by_cases h : p ∈ b.F0
    · exact .inl h
    · have := I.keep p o e h
      rw [n] at this; cases this
/-- the heap grows -/
theorem SIx.grow {G F Ft} (I : SIx K b G F Ft σ H ε T Tv) (h : Sub H H') : SIx K b G F Ft σ H' ε T Tv where
  s0 := I.s0
  sub := I.sub.trans h
  slots := I.slots.mono Sub.refl fun a z => by
    obtain ⟨o, e, _⟩ := I.slots.there a z
    rw [e, h a o e]
  temps := I.temps.mono Sub.refl fun a z => by
    obtain ⟨o, e, _⟩ := I.temps.there a z
    rw [e, h a o e]
  nd := I.nd
  fr := I.fr
  own := I.own
  gn := I.gn
  keep := fun a o e n => h a o (I.keep a o e n)
  kept := I.kept
theorem SI.grow (I : SI K b σ H ε T Tv) (h : Sub H H') : SI K b σ H' ε T Tv := let ⟨G, F, Ft, J⟩ := I; ⟨G, F, Ft, J.grow h⟩
/-- the last held things are let go -/
theorem SI.drop {R : List D} {Rv : List V} (I : SI K b σ H ε (T ++ R) (Tv ++ Rv)) (hl : T.length = Tv.length) : SI K b σ H ε T Tv := by
  obtain ⟨G, F, Ft, J⟩ := I
  obtain ⟨F1, F2, rfl, r1, r2⟩ := J.temps.split2 hl
  have sb : ∀ a, a ∈ F ++ F1 → a ∈ F ++ (F1 ++ F2) := fun a z => by
    rcases List.mem_append.mp z with z | z
    · exact List.mem_append_left _ z
    · exact List.mem_append_right _ (List.mem_append_left _ z)
  refine ⟨G, F, F1, J.s0, J.sub, J.slots, r1, ?_, fun a z => J.fr a (sb a z), fun a z => J.own a (sb a z), J.gn, J.keep, J.kept⟩
  have := J.nd
  rw [← List.append_assoc] at this
  exact (List.nodup_append.mp this).1
/-- a thing that stands still is held -/
theorem SIx.push {G F Ft} (I : SIx K b G F Ft σ H ε T Tv) {d : D} {v : V} (r : Rp K G H d v []) : SIx K b G F Ft σ H ε (T ++ [d]) (Tv ++ [v]) := by
  have h := I.temps.append (RpL.one.mpr r)
  rw [List.append_nil] at h
  exact ⟨I.s0, I.sub, I.slots, h, I.nd, I.fr, I.own, I.gn, I.keep, I.kept⟩
theorem SI.push (I : SI K b σ H ε T Tv) {d : D} {v : V} (r : ∀ G, Rp K G H d v []) : SI K b σ H ε (T ++ [d]) (Tv ++ [v]) := let ⟨G, F, Ft, J⟩ := I; ⟨G, F, Ft, J.push (r G)⟩
/-- a slot that stands still -/
theorem SI.var (I : SI K b σ H ε T Tv) {i : Nat} {d : D} (e : ε[i]? = some (some d)) (z : isFz d = true) : ∃ v, σ[i]? = some (some v) ∧ SI K b σ H ε (T ++ [d]) (Tv ++ [v]) := by
  obtain ⟨G, F, Ft, J⟩ := I
  obtain ⟨ov, A, B, C, hs, rfl, r, _⟩ := J.slots.focus e
  obtain ⟨v, rfl, r⟩ := r
  have := r.fz z
  subst this
  exact ⟨v, hs, G, _, Ft, J.push r⟩
/-- a slot is moved out -/
theorem SI.mov (I : SI K b σ H ε T Tv) {i : Nat} {d : D} (e : ε[i]? = some (some d)) : ∃ v, σ[i]? = some (some v) ∧ SI K b σ H (ε.set i none) (T ++ [d]) (Tv ++ [v]) := by
  obtain ⟨G, F, Ft, J⟩ := I
  obtain ⟨ov, A, B, C, hs, rfl, r, back⟩ := J.slots.focus e
  obtain ⟨v, rfl, r⟩ := r
  have s2 := back G H none (some v) [] Sub.refl (fun _ _ => rfl) rfl
  have es : σ.set i (some v) = σ := by
    apply List.ext_getElem?
    intro j
    rw [List.getElem?_set]
    split
    · rename_i h
      subst h
      split
      · exact hs.symm
      · rename_i h
        rw [List.getElem?_eq_none (by omega)] at hs
        cases hs
    · rfl
  rw [es, List.append_nil] at s2
  have pm : (A ++ B ++ C ++ Ft).Perm (A ++ C ++ (Ft ++ B)) := by
    have h1 : (A ++ B ++ C ++ Ft).Perm (A ++ C ++ Ft ++ B) := by
      have : (A ++ B ++ (C ++ Ft)).Perm (A ++ (C ++ Ft) ++ B) := by
        rw [List.append_assoc, List.append_assoc]
        exact List.Perm.append_left A List.perm_append_comm
      simpa only [List.append_assoc] using this
    simpa only [List.append_assoc] using h1
  refine ⟨v, hs, G, A ++ C, Ft ++ B, J.s0, J.sub, s2, J.temps.append (RpL.one.mpr r), pm.nodup_iff.mp J.nd, fun a z => J.fr a (pm.mem_iff.mpr z), fun a z => J.own a (pm.mem_iff.mpr z), J.gn, J.keep, J.kept⟩
/-- the last held thing goes to a slot; what was there is let go -/
theorem SI.store {d : D} {v : V} (I : SI K b σ H ε (T ++ [d]) (Tv ++ [v])) (hl : T.length = Tv.length) {i : Nat} (hi : i < ε.length) (hk : ∀ u, b.kv[i]? ≠ some (some u)) : SI K b (σ.set i (some v)) H (ε.set i (some d)) T Tv := by
  obtain ⟨G, F, Ft, J⟩ := I
  obtain ⟨F1, F2, rfl, r1, r2⟩ := J.temps.split2 hl
  have r2 := RpL.one.mp r2
  obtain ⟨ov, A, B, C, hs, rfl, r, back⟩ := J.slots.focus (i := i) (List.getElem?_eq_getElem hi)
  have s2 := back G H (some d) (some v) F2 Sub.refl (fun _ _ => rfl) ⟨v, rfl, r2⟩
  have sb : ∀ a, a ∈ A ++ F2 ++ C ++ F1 → a ∈ A ++ B ++ C ++ (F1 ++ F2) := fun a z => by
    simp only [List.mem_append] at z ⊢
    rcases z with ((z | z) | z) | z
    · exact .inl (.inl (.inl z))
    · exact .inr (.inr z)
    · exact .inl (.inr z)
    · exact .inr (.inl z)
  have nd : (A ++ F2 ++ C ++ F1).Nodup := by
    have h1 : (A ++ B ++ C ++ (F1 ++ F2)).Perm (B ++ (A ++ F2 ++ C ++ F1)) := by
      apply List.perm_iff_count.mpr
      intro a
      simp only [List.count_append]
      omega
    exact (List.nodup_append.mp (h1.nodup_iff.mp J.nd)).2.1
  refine ⟨G, _, F1, J.s0, J.sub, s2, r1, nd, fun a z => J.fr a (sb a z), fun a z => J.own a (sb a z), J.gn, J.keep, fun j u e => ?_⟩
  have hj : i ≠ j := fun z => by
    subst z
    exact hk u e
  rw [List.getElem?_set_ne hj]
  exact J.kept j u e
/-- a slot is told again that was moved out, its value as it was -/
theorem SI.back {d : D} {v : V} (I : SI K b σ H ε (T ++ [d]) (Tv ++ [v])) (hl : T.length = Tv.length) {i : Nat} (hs : σ[i]? = some (some v)) : SI K b σ H (ε.set i (some d)) T Tv := by
  obtain ⟨G, F, Ft, J⟩ := I
  obtain ⟨F1, F2, rfl, r1, r2⟩ := J.temps.split2 hl
  have r2 := RpL.one.mp r2
  have hi : i < ε.length := by
    rw [J.slots.len]
    exact (List.getElem?_eq_some_iff.mp hs).1
  obtain ⟨ov, A, B, C, hs', rfl, r, back⟩ := J.slots.focus (i := i) (List.getElem?_eq_getElem hi)
  have s2 := back G H (some d) (some v) F2 Sub.refl (fun _ _ => rfl) ⟨v, rfl, r2⟩
  have es : σ.set i (some v) = σ := by
    apply List.ext_getElem?
    intro j
    rw [List.getElem?_set]
    split
    · rename_i h
      subst h
      split
      · exact hs.symm
      · rename_i h
        rw [List.getElem?_eq_none (by omega)] at hs
        cases hs
    · rfl
  rw [es] at s2
  have sb : ∀ a, a ∈ A ++ F2 ++ C ++ F1 → a ∈ A ++ B ++ C ++ (F1 ++ F2) := fun a z => by
    simp only [List.mem_append] at z ⊢
    rcases z with ((z | z) | z) | z
    · exact .inl (.inl (.inl z))
    · exact .inr (.inr z)
    · exact .inl (.inr z)
    · exact .inr (.inl z)
  have nd : (A ++ F2 ++ C ++ F1).Nodup := by
    have h1 : (A ++ B ++ C ++ (F1 ++ F2)).Perm (B ++ (A ++ F2 ++ C ++ F1)) := by
      apply List.perm_iff_count.mpr
      intro a
      simp only [List.count_append]
      omega
    exact (List.nodup_append.mp (h1.nodup_iff.mp J.nd)).2.1
  exact ⟨G, _, F1, J.s0, J.sub, s2, r1, nd, fun a z => J.fr a (sb a z), fun a z => J.own a (sb a z), J.gn, J.keep, J.kept⟩
/-- the last held thing is let stand still -/
theorem SI.freeze {d : D} {v : V} (I : SI K b σ H ε (T ++ [d]) (Tv ++ [v])) (hl : T.length = Tv.length) : SI K b σ H ε (T ++ [frz d]) (Tv ++ [v]) := by
  obtain ⟨G, F, Ft, J⟩ := I
  obtain ⟨F1, F2, rfl, r1, r2⟩ := J.temps.split2 hl
  have r2 := RpL.one.mp r2
  let G' : Hp := fun a => if a ∈ F2 then H a else G a
  have g1 : ∀ a ∈ F2, G' a = H a := fun a z => if_pos z
  have g2 : ∀ a, a ∉ F2 → G' a = G a := fun a z => if_neg z
  have nF : ∀ a ∈ F2, G a = none := fun a z => J.fr a (List.mem_append_right _ (List.mem_append_right _ z))
  have hs : Sub G G' := fun a o e => by
    by_cases h : a ∈ F2
    · rw [nF a h] at e; cases e
    · rw [g2 a h]; exact e
  have dj : ∀ a ∈ F ++ F1, a ∉ F2 := fun a z h => by
    have := J.nd
    rw [← List.append_assoc] at this
    exact (List.nodup_append.mp this).2.2 a z a h rfl
  have sb : ∀ a, a ∈ F ++ F1 → a ∈ F ++ (F1 ++ F2) := fun a z => by
    rcases List.mem_append.mp z with z | z
    · exact List.mem_append_left _ z
    · exact List.mem_append_right _ (List.mem_append_left _ z)
  refine ⟨G', F, F1, J.s0.trans hs, fun a o e => ?_, J.slots.mono hs (fun _ _ => rfl), ?_, ?_, fun a z => ?_, fun a z => J.own a (sb a z), fun a o e => ?_, J.keep, J.kept⟩
  · by_cases h : a ∈ F2
    · rw [g1 a h] at e; exact e
    · rw [g2 a h] at e; exact J.sub a o e
  · have := (r1.mono (H' := H) hs (fun _ _ => rfl)).append (RpL.one.mpr (Rp.freeze (H' := H) hs g1 r2))
    rw [List.append_nil] at this
    exact this
  · have := J.nd
    rw [← List.append_assoc] at this
    exact (List.nodup_append.mp this).1
  · rw [g2 a (dj a z)]
    exact J.fr a (sb a z)
  · by_cases h : a ∈ F2
    · exact .inr (inl3 (J.own a (List.mem_append_right _ (List.mem_append_right _ h))))
    · rw [g2 a h] at e
      exact J.gn a o e
/-- a new object that is ours, out of the last held things -/
theorem SI.laid {ds : List D} {vs : List V} (I : SI K b σ H ε (T ++ ds) (Tv ++ vs)) (hl : T.length = Tv.length) {p : Addr} (n : H p = none) (o : HO) {d : D}
    (r : ∀ (G H' : Hp) (F : List Addr), H' p = some o → RpL K G H' ds vs F → Rp K G H' d (.ref p) (p :: F)) : SI K b σ (upd H p o) ε (T ++ [d]) (Tv ++ [.ref p]) := by
  obtain ⟨G, F, Ft, J⟩ := I
  obtain ⟨F1, F2, rfl, r1, r2⟩ := J.temps.split2 hl
  have np := J.ne n
  have su : Sub H (upd H p o) := Sub.laid n
  have ev : ∀ a ∈ F ++ (F1 ++ F2), upd H p o a = H a := fun a z => upd_ne fun e => np (e ▸ z)
  refine ⟨G, F, F1 ++ (p :: F2), J.s0, J.sub.trans su, J.slots.mono Sub.refl fun a z => ev a (List.mem_append_left _ z), ?_, ?_, fun a z => ?_, fun a z => ?_, J.gn, fun a u e h => su a u (J.keep a u e h), J.kept⟩
  · refine (r1.mono Sub.refl fun a z => ev a (List.mem_append_right _ (List.mem_append_left _ z))).append (RpL.one.mpr ?_)
    exact r G _ F2 upd_same (r2.mono Sub.refl fun a z => ev a (List.mem_append_right _ (List.mem_append_right _ z)))
  · have h1 : (F ++ (F1 ++ (p :: F2))).Perm (p :: (F ++ (F1 ++ F2))) := by
      apply List.perm_iff_count.mpr
      intro a
      simp only [List.count_append, List.count_cons]
      omega
    exact h1.nodup_iff.mpr (List.nodup_cons.mpr ⟨np, J.nd⟩)
  · by_cases h : a = p
    · subst h; exact J.gne n
    · refine J.fr a ?_
      simp only [List.mem_append, List.mem_cons] at z ⊢
      rcases z with z | z | z | z
      · exact .inl z
      · exact .inr (.inl z)
      · exact absurd z h
      · exact .inr (.inr z)
  · by_cases h : a = p
    · subst h; exact J.h0 n
    · refine J.own a ?_
      simp only [List.mem_append, List.mem_cons] at z ⊢
      rcases z with z | z | z | z
      · exact .inl z
      · exact .inr (.inl z)
      · exact absurd z h
      · exact .inr (.inr z)
/-- a new tuple out of the last held things -/
theorem SI.tup {ds : List D} {vs : List V} (I : SI K b σ H ε (T ++ ds) (Tv ++ vs)) (hl : T.length = Tv.length) {p : Addr} (n : H p = none) : SI K b σ (upd H p (.tup vs)) ε (T ++ [.tup ds]) (Tv ++ [.ref p]) := by
  obtain ⟨G, F, Ft, J⟩ := I
  obtain ⟨F1, F2, rfl, r1, r2⟩ := J.temps.split2 hl
  have np := J.ne n
  have gp := J.gne n
  have su : Sub H (upd H p (.tup vs)) := Sub.laid n
  have sg : Sub G (upd G p (.tup vs)) := Sub.laid gp
  have ev : ∀ a ∈ F ++ (F1 ++ F2), upd H p (.tup vs) a = H a := fun a z => upd_ne fun e => np (e ▸ z)
  refine ⟨upd G p (.tup vs), F, F1 ++ F2, J.s0.trans sg, J.sub.upd2, J.slots.mono sg fun a z => ev a (List.mem_append_left _ z), ?_, J.nd, fun a z => ?_, J.own, fun a o e => ?_, fun a u e h => su a u (J.keep a u e h), J.kept⟩
  · refine (r1.mono sg fun a z => ev a (List.mem_append_right _ (List.mem_append_left _ z))).append (RpL.one.mpr ?_)
    exact ⟨p, vs, rfl, upd_same, r2.mono sg fun a z => ev a (List.mem_append_right _ (List.mem_append_right _ z))⟩
  · have ha : a ≠ p := fun e => np (e ▸ z)
    rw [upd_ne ha]
    exact J.fr a z
  · by_cases h : a = p
    · subst h; exact .inr (inl3 (J.h0 n))
    · rw [upd_ne h] at e
      exact J.gn a o e
end
end VL
namespace VL
open PySem PySem.Spec PyProof.Rows L2 VL
section
variable {K : PySem.W.Frag} {b : Bs} {σ : L2.St} {H H' : Hp} {ε : Ep} {T : List D} {Tv : List V}
theorem setSelf {α : Type} {l : List α} {i : Nat} {x : α} (h : l[i]? = some x) : l.set i x = l := by
  apply List.ext_getElem?
  intro j
  rw [List.getElem?_set]
  split
  · rename_i e
    subst e
    split
    · exact h.symm
    · rename_i e
      rw [List.getElem?_eq_none (by omega)] at h
      cases h
  · rfl
/-- a held thing amid others is let go -/
theorem SI.midDrop {d : D} {v : V} {R : List D} {Rv : List V} (I : SI K b σ H ε (T ++ d :: R) (Tv ++ v :: Rv)) (hl : T.length = Tv.length) : SI K b σ H ε (T ++ R) (Tv ++ Rv) := by
  obtain ⟨G, F, Ft, J⟩ := I
  obtain ⟨F1, F2, rfl, r1, r2⟩ := J.temps.split2 hl
  obtain ⟨v', vs', A, B, e, rfl, rd, rs⟩ := r2
  obtain ⟨rfl, rfl⟩ := List.cons.inj e
  have sb : ∀ a, a ∈ F ++ (F1 ++ B) → a ∈ F ++ (F1 ++ (A ++ B)) := fun a z => by
    simp only [List.mem_append] at z ⊢
    rcases z with z | z | z
    · exact .inl z
    · exact .inr (.inl z)
    · exact .inr (.inr (.inr z))
  have nd : (F ++ (F1 ++ B)).Nodup := by
    have h1 : (F ++ (F1 ++ (A ++ B))).Perm (A ++ (F ++ (F1 ++ B))) := by
      apply List.perm_iff_count.mpr
      intro a
      simp only [List.count_append]
      omega
    exact (List.nodup_append.mp (h1.nodup_iff.mp J.nd)).2.1
  exact ⟨G, F, F1 ++ B, J.s0, J.sub, J.slots, r1.append rs, nd, fun a z => J.fr a (sb a z), fun a z => J.own a (sb a z), J.gn, J.keep, J.kept⟩
/-- a held thing amid others goes back to its slot -/
theorem SI.midBack {d : D} {v : V} {R : List D} {Rv : List V} (I : SI K b σ H ε (T ++ d :: R) (Tv ++ v :: Rv)) (hl : T.length = Tv.length) {i : Nat} (hs : σ[i]? = some (some v)) : SI K b σ H (ε.set i (some d)) (T ++ R) (Tv ++ Rv) := by
  obtain ⟨G, F, Ft, J⟩ := I
  obtain ⟨F1, F2, rfl, r1, r2⟩ := J.temps.split2 hl
  obtain ⟨v', vs', A, B, e, rfl, rd, rs⟩ := r2
  obtain ⟨rfl, rfl⟩ := List.cons.inj e
  have hi : i < ε.length := by
    rw [J.slots.len]
    exact (List.getElem?_eq_some_iff.mp hs).1
  obtain ⟨ov, C, E, L, hs', rfl, ro, back⟩ := J.slots.focus (i := i) (List.getElem?_eq_getElem hi)
  have s2 := back G H (some d) (some v) A Sub.refl (fun _ _ => rfl) ⟨v, rfl, rd⟩
  rw [setSelf hs] at s2
  have sb : ∀ a, a ∈ C ++ A ++ L ++ (F1 ++ B) → a ∈ C ++ E ++ L ++ (F1 ++ (A ++ B)) := fun a z => by
    simp only [List.mem_append] at z ⊢
    rcases z with ((z | z) | z) | z | z
    · exact .inl (.inl (.inl z))
    · exact .inr (.inr (.inl z))
    · exact .inl (.inr z)
    · exact .inr (.inl z)
    · exact .inr (.inr (.inr z))
  have nd : (C ++ A ++ L ++ (F1 ++ B)).Nodup := by
    have h1 : (C ++ E ++ L ++ (F1 ++ (A ++ B))).Perm (E ++ (C ++ A ++ L ++ (F1 ++ B))) := by
      apply List.perm_iff_count.mpr
      intro a
      simp only [List.count_append]
      omega
    exact (List.nodup_append.mp (h1.nodup_iff.mp J.nd)).2.1
  exact ⟨G, _, F1 ++ B, J.s0, J.sub, s2, r1.append rs, nd, fun a z => J.fr a (sb a z), fun a z => J.own a (sb a z), J.gn, J.keep, J.kept⟩
end
/-- arguments that were moved out of slots go back, the others are let go -/
def restore : List (Option Nat) → List D → Ep → Ep
  | some i :: rs, d :: ds, ε => restore rs ds (ε.set i (some d))
  | none :: rs, _ :: ds, ε => restore rs ds ε
  | _, _, ε => ε
def Held (σ : L2.St) : List (Option Nat) → List V → Prop
  | [], [] => True
  | some i :: rs, v :: vs => σ[i]? = some (some v) ∧ Held σ rs vs
  | none :: rs, _ :: vs => Held σ rs vs
  | _, _ => False
theorem Held.len {σ : L2.St} : ∀ {rs : List (Option Nat)} {vs : List V}, Held σ rs vs → rs.length = vs.length
  | [], [], _ => rfl
  | some i :: rs, v :: vs, h => by rw [List.length_cons, List.length_cons, Held.len h.2]
  | none :: rs, v :: vs, h => by rw [List.length_cons, List.length_cons, Held.len (rs := rs) (vs := vs) h]
  | [], _ :: _, h => h.elim
  | some _ :: _, [], h => h.elim
  | none :: _, [], h => h.elim
theorem Held.append {σ : L2.St} : ∀ {rs rs' : List (Option Nat)} {vs vs' : List V}, Held σ rs vs → Held σ rs' vs' → Held σ (rs ++ rs') (vs ++ vs')
  | [], _, [], _, _, k => k
  | some i :: rs, _, v :: vs, _, h, k => ⟨h.1, Held.append h.2 k⟩
  | none :: rs, _, v :: vs, _, h, k => Held.append (rs := rs) (vs := vs) h k
  | [], _, _ :: _, _, h, _ => h.elim
  | some _ :: _, _, [], _, h, _ => h.elim
  | none :: _, _, [], _, h, _ => h.elim
theorem SI.restore {K : PySem.W.Frag} {b : Bs} {σ : L2.St} {H : Hp} {T : List D} {Tv : List V} {R : List D} {Rv : List V} (hl : T.length = Tv.length) :
    ∀ {rs : List (Option Nat)} {ds : List D} {vs : List V} {ε : Ep}, Held σ rs vs → ds.length = vs.length → SI K b σ H ε (T ++ (ds ++ R)) (Tv ++ (vs ++ Rv)) → SI K b σ H (VL.restore rs ds ε) (T ++ R) (Tv ++ Rv)
  | [], [], [], ε, _, _, I => I
  | some i :: rs, d :: ds, v :: vs, ε, h, e, I => SI.restore hl (rs := rs) h.2 (Nat.succ.inj e) (SI.midBack I hl h.1)
  | none :: rs, d :: ds, v :: vs, ε, h, e, I => SI.restore hl (rs := rs) (vs := vs) h (Nat.succ.inj e) (SI.midDrop I hl)
  | [], _ :: _, [], _, _, e, _ => by cases e
  | [], _, _ :: _, _, h, _, _ => h.elim
  | some _ :: _, _, [], _, h, _, _ => h.elim
  | none :: _, _, [], _, h, _, _ => h.elim
  | some _ :: _, [], _ :: _, _, _, e, _ => by cases e
  | none :: _, [], _ :: _, _, _, e, _ => by cases e
/-- what is wished of an exception: its class, its row, the slots -/
abbrev WV := Value → D → Ep → Prop
abbrev VTE := WV → Ep → (D → Ep → Prop) → Prop
abbrev VTT := WV → Ep → (Bool → Ep → Prop) → Prop
abbrev VTA := WV → Ep → (List D → Ep → Prop) → Prop
structure VEnds where
  nx : Ep → Prop
  rt : D → Ep → Prop
  bk : Ep → Prop := fun _ => False
  ct : Ep → Prop := fun _ => False
  rx : WV
abbrev VTS := VEnds → Ep → Prop
/-- an exception of ours: it has its dict, with the field row -/
def XL (K : PySem.W.Frag) (b : Bs) (T : List D) (Tv : List V) (W : WX) (N : WV) : Prop := ∀ cls (dd : Addr) σ H ε row v, SI K b σ H ε (T ++ [row]) (Tv ++ [v]) → H dd = some (.xd [("row", v)]) → (dd ∈ b.F0 ∨ b.H0 dd = none) → N cls row ε → W (clsV K cls) (some dd) σ H
theorem XL.more {K : PySem.W.Frag} {b : Bs} {T R : List D} {Tv Rv : List V} {W : WX} {N : WV} (hl : T.length = Tv.length) (hr : R.length = Rv.length) (x : XL K b T Tv W N) : XL K b (T ++ R) (Tv ++ Rv) W N := fun cls dd σ H ε row v I e fr n => by
  refine x cls dd σ H ε row v ?_ e fr n
  have h : Held σ (R.map fun _ => none) Rv := by
    clear I x
    induction R generalizing Rv with
    | nil =>
      cases Rv with
      | nil => exact trivial
      | cons _ _ => cases hr
    | cons r R ih =>
      cases Rv with
      | nil => cases hr
      | cons v Rv => exact ih (Nat.succ.inj hr)
  rw [List.append_assoc, List.append_assoc] at I
  have := SI.restore hl h hr I
  have z : VL.restore (R.map fun _ => none) R ε = ε := by
    clear this h I x hr
    induction R with
    | nil => rfl
    | cons r R ih => exact ih
  rw [z] at this
  exact this
/-- the context of a body, and which of its slots are kept: parameters that the body never stores into -/
structure Cv extends Cx where
  κ : List Bool
instance : Coe Cv Cx := ⟨Cv.toCx⟩
/-- a ground that keeps no other slot -/
abbrev Bx (X : Cv) := { b : Bs // ∀ (i : Nat) u, b.kv[i]? = some (some u) → X.κ[i]? = some true }
structure VE (X : Cv) (e : Expr) (t : VTE) : Prop where
  ex : ∃ t' : WX → TE, (∀ W, Takes X.toCx W → PE X.toCx e (t' W)) ∧ ∀ (b : Bx X) σ H ε T Tv W N Q Q', SI X.K b.1 σ H ε T Tv → t N ε Q →
    (∀ d v ε' H', SI X.K b.1 σ H' ε' (T ++ [d]) (Tv ++ [v]) → Q d ε' → Q' v H') → XL X.K b.1 T Tv W N → t' W σ H Q'
structure VT (X : Cv) (e : Expr) (t : VTT) : Prop where
  ex : ∃ t' : WX → TT, (∀ W, Takes X.toCx W → PT X.toCx e (t' W)) ∧ ∀ (b : Bx X) σ H ε T Tv W N Q Q', SI X.K b.1 σ H ε T Tv → t N ε Q →
    (∀ c ε' H', SI X.K b.1 σ H' ε' T Tv → Q c ε' → Q' c H') → XL X.K b.1 T Tv W N → t' W σ H Q'
/-- a test in a chain of and, or -/
structure VW (X : Cv) (e : Expr) (t : VTT) : Prop where
  ex : ∃ t' : WX → TT, (∀ W, Takes X.toCx W → PW X.toCx e (t' W)) ∧ ∀ (b : Bx X) σ H ε T Tv W N Q Q', SI X.K b.1 σ H ε T Tv → t N ε Q →
    (∀ c ε' H', SI X.K b.1 σ H' ε' T Tv → Q c ε' → Q' c H') → XL X.K b.1 T Tv W N → t' W σ H Q'
/-- one argument; r: the slot from which it is moved -/
structure VG (X : Cv) (e : Expr) (r : Option Nat) (t : VTE) : Prop where
  ex : ∃ t' : WX → TE, (∀ W, Takes X.toCx W → PE X.toCx e (t' W)) ∧ ∀ (b : Bx X) σ H ε T Tv W N Q Q', SI X.K b.1 σ H ε T Tv → t N ε Q →
    (∀ d v ε' H', SI X.K b.1 σ H' ε' (T ++ [d]) (Tv ++ [v]) → Held σ [r] [v] → Q d ε' → Q' v H') → XL X.K b.1 T Tv W N → t' W σ H Q'
structure VA (X : Cv) (es : List Expr) (rs : List (Option Nat)) (t : VTA) : Prop where
  ex : ∃ t' : WX → TA, (∀ W, Takes X.toCx W → PA X.toCx es (t' W)) ∧ ∀ (b : Bx X) σ H ε T Tv W N Q Q', SI X.K b.1 σ H ε T Tv → t N ε Q →
    (∀ ds vs ε' H', SI X.K b.1 σ H' ε' (T ++ ds) (Tv ++ vs) → ds.length = vs.length → Held σ rs vs → Q ds ε' → Q' vs H') → XL X.K b.1 T Tv W N → t' W σ H Q'
/-- the ends of a statement -/
structure EL (K : PySem.W.Frag) (b : Bs) (T : List D) (Tv : List V) (N : VEnds) (E : Ends) : Prop where
  nx : ∀ σ H ε, SI K b σ H ε T Tv → N.nx ε → E.nx σ H
  rt : ∀ σ H ε d v, SI K b σ H ε (T ++ [d]) (Tv ++ [v]) → N.rt d ε → E.rt v H
  bk : ∀ σ H ε, SI K b σ H ε T Tv → N.bk ε → E.bk σ H
  ct : ∀ σ H ε, SI K b σ H ε T Tv → N.ct ε → E.ct σ H
structure VS (X : Cv) (st : Stmt) (t : VTS) : Prop where
  ex : ∃ t' : WX → TS, (∀ W, Takes X.toCx W → PS X.toCx st (t' W)) ∧ ∀ (b : Bx X) σ H ε T Tv W N E, SI X.K b.1 σ H ε T Tv → t N ε → EL X.K b.1 T Tv N E → XL X.K b.1 T Tv W N.rx → t' W E σ H
structure VSs (X : Cv) (st : List Stmt) (t : VTS) : Prop where
  ex : ∃ t' : WX → TS, (∀ W, Takes X.toCx W → PSs X.toCx st (t' W)) ∧ ∀ (b : Bx X) σ H ε T Tv W N E, SI X.K b.1 σ H ε T Tv → t N ε → EL X.K b.1 T Tv N E → XL X.K b.1 T Tv W N.rx → t' W E σ H
section
variable {X : Cv}
def vVar (i : Nat) : VTE := fun _ ε Q => ∃ d, ε[i]? = some (some d) ∧ isFz d = true ∧ Q d ε
def vMov (i : Nat) : VTE := fun _ ε Q => ∃ d, ε[i]? = some (some d) ∧ Q d (ε.set i none)
def vFrz (i : Nat) : VTE := fun _ ε Q => ∃ d, ε[i]? = some (some d) ∧ Q (frz d) (ε.set i (some (frz d)))
def vC (d : D) : VTE := fun _ ε Q => Q d ε
theorem ve_var {i : Nat} {x : Str} {pos : Pos} (hN : X.N[i]? = some x) (hv : Vis X.env.scope x) (hd : (x == ("__debug__" : Str)) = false := by decide) (hcd : (x == ("__classdict__" : Str)) = false := by decide) : VE X (.Name x pos) (vVar i) := by
  refine ⟨fun _ => tVar i, fun _ _ => pe_var hN hv hd hcd, fun b σ H ε T Tv W N Q Q' I h k _ => ?_⟩
  obtain ⟨d, e, z, q⟩ := h
  obtain ⟨v, hs, J⟩ := I.var e z
  exact ⟨v, hs, k d v ε H J q⟩
theorem ve_mov {i : Nat} {x : Str} {pos : Pos} (hN : X.N[i]? = some x) (hv : Vis X.env.scope x) (hd : (x == ("__debug__" : Str)) = false := by decide) (hcd : (x == ("__classdict__" : Str)) = false := by decide) : VE X (.Name x pos) (vMov i) := by
  refine ⟨fun _ => tVar i, fun _ _ => pe_var hN hv hd hcd, fun b σ H ε T Tv W N Q Q' I h k _ => ?_⟩
  obtain ⟨d, e, q⟩ := h
  obtain ⟨v, hs, J⟩ := I.mov e
  exact ⟨v, hs, k d v _ H J q⟩
theorem ve_frz {i : Nat} {x : Str} {pos : Pos} (hN : X.N[i]? = some x) (hv : Vis X.env.scope x) (hd : (x == ("__debug__" : Str)) = false := by decide) (hcd : (x == ("__classdict__" : Str)) = false := by decide) : VE X (.Name x pos) (vFrz i) := by
  refine ⟨fun _ => tVar i, fun _ _ => pe_var hN hv hd hcd, fun b σ H ε T Tv W N Q Q' I h k _ => ?_⟩
  obtain ⟨d, e, q⟩ := h
  obtain ⟨v, hs, J⟩ := I.mov e
  have J2 := (J.freeze I.lenT).back I.lenT hs
  have e2 : (ε.set i none).set i (some (frz d)) = ε.set i (some (frz d)) := by simp
  rw [e2] at J2
  have hi := (List.getElem?_eq_some_iff.mp e).1
  obtain ⟨v', hs', J3⟩ := J2.var (i := i) (d := frz d) (by simp [hi]) (isFz_frz d)
  rw [hs] at hs'
  cases hs'
  exact ⟨v, hs, k (frz d) v _ H J3 q⟩
theorem vc_of {e : Expr} {v : V} {d : D} (h : PE X.toCx e (tC v)) (r : ∀ G H, Rp X.K G H d v []) : VE X e (vC d) :=
  ⟨fun _ => tC v, fun _ _ => h, fun b σ H ε T Tv W N Q Q' I q k _ => k d v ε H (I.push fun G => r G H) q⟩
theorem ve_int {i j pos} : VE X (.Constant (.int i) j pos) (vC (.int i)) := vc_of pe_int fun _ _ => ⟨rfl, rfl⟩
theorem ve_bl {b j pos} : VE X (.Constant (.bool b) j pos) (vC (.bl b)) := vc_of pe_bl fun _ _ => ⟨rfl, rfl⟩
theorem ve_non {j pos} : VE X (.Constant .none j pos) (vC .non) := vc_of pe_non fun _ _ => ⟨rfl, rfl⟩
theorem ve_str {s : Cs} {x : Str} {j pos} (h : x.cps.toList = s) : VE X (.Constant (.str x) j pos) (vC (.str s)) := vc_of pe_str fun _ _ => ⟨by rw [← h, toS_cps], rfl⟩
/-- a module's constant -/
theorem ve_glob {x : Str} {u : Value} {v : V} {d : D} {pos : Pos} (hg : Gl X.toCx x) (hm : X.mg x = some u) (r : RelV v u) (q : ∀ G H, Rp X.K G H d v []) (hd : (x == ("__debug__" : Str)) = false := by decide) : VE X (.Name x pos) (vC d) :=
  vc_of (pe_glob hg hm r hd) q
theorem vg_val {e : Expr} {t : VTE} (h : VE X e t) : VG X e none t := by
  obtain ⟨t', h1, h2⟩ := h.ex
  exact ⟨t', h1, fun b σ H ε T Tv W N Q Q' I q k x => h2 b σ H ε T Tv W N Q Q' I q (fun d v ε' H' J z => k d v ε' H' J trivial z) x⟩
theorem vg_ref {i : Nat} {x : Str} {pos : Pos} (hN : X.N[i]? = some x) (hv : Vis X.env.scope x) (hd : (x == ("__debug__" : Str)) = false := by decide) (hcd : (x == ("__classdict__" : Str)) = false := by decide) : VG X (.Name x pos) (some i) (vMov i) := by
  refine ⟨fun _ => tVar i, fun _ _ => pe_var hN hv hd hcd, fun b σ H ε T Tv W N Q Q' I h k _ => ?_⟩
  obtain ⟨d, e, q⟩ := h
  obtain ⟨v, hs, J⟩ := I.mov e
  exact ⟨v, hs, k d v _ H J ⟨hs, trivial⟩ q⟩
def vaNil : VTA := fun _ ε Q => Q [] ε
def vaCons (t : VTE) (u : VTA) : VTA := fun N ε Q => t N ε fun d ε1 => u N ε1 fun ds ε2 => Q (d :: ds) ε2
theorem va_nil : VA X [] [] vaNil := ⟨fun _ => tNil, fun _ _ => pa_nil, fun b σ H ε T Tv W N Q Q' I h k _ => k [] [] ε H (by simpa using I) rfl trivial h⟩
theorem va_cons {e : Expr} {es : List Expr} {r : Option Nat} {rs : List (Option Nat)} {t : VTE} {u : VTA} (h : VG X e r t) (k : VA X es rs u) (hs : starEach (e :: es) X.env = (false, eval e X.env) :: starEach es X.env := by rfl) : VA X (e :: es) (r :: rs) (vaCons t u) := by
  obtain ⟨t', h1, h2⟩ := h.ex
  obtain ⟨u', k1, k2⟩ := k.ex
  refine ⟨fun W => tCons (t' W) (u' W), fun W tk => pa_cons (h1 W tk) (k1 W tk) hs, fun b σ H ε T Tv W N Q Q' I q z x => ?_⟩
  refine h2 b σ H ε T Tv W N _ _ I q (fun d v ε1 H1 J hd q1 => ?_) x
  refine k2 b σ H1 ε1 (T ++ [d]) (Tv ++ [v]) W N _ _ J q1 (fun ds vs ε2 H2 J2 l hds q2 => ?_) (x.more I.lenT rfl)
  refine z (d :: ds) (v :: vs) ε2 H2 (by simpa only [List.append_assoc, List.cons_append, List.nil_append] using J2) (by simp [l]) ?_ q2
  exact Held.append (rs := [r]) (vs := [v]) hd hds
/-- r of values is op of trees: what is held stays, the answer comes on top -/
def OpN (K : PySem.W.Frag) (r : List V → Hp → VK → Prop) (op : List D → (D → Prop) → Prop) : Prop :=
  ∀ (b : Bs) (σ : L2.St) (H : Hp) (ε : Ep) (T : List D) (Tv : List V) (ds : List D) (vs : List V) (Q : D → Prop) (Q' : VK), T.length = Tv.length → ds.length = vs.length → SI K b σ H ε (T ++ ds) (Tv ++ vs) → op ds Q →
    (∀ d v H', Sub H H' → SI K b σ H' ε (T ++ (ds ++ [d])) (Tv ++ (vs ++ [v])) → Q d → Q' v H') → r vs H Q'
/-- an answer out of values alone -/
theorem OpN.pure {K : PySem.W.Frag} {r : List V → Hp → VK → Prop} {op : List D → (D → Prop) → Prop}
    (h : ∀ (G H : Hp) (ds : List D) (vs : List V) (F : List Addr) (Q : D → Prop) (Q' : VK), Sub G H → RpL K G H ds vs F → op ds Q → (∀ d v, (∀ G' H', Sub G G' → Rp K G' H' d v []) → Q d → Q' v H) → r vs H Q') : OpN K r op :=
  fun b σ H ε T Tv ds vs Q Q' hl hd I q k => by
    obtain ⟨G, F, Ft, J⟩ := I
    obtain ⟨F1, F2, rfl, r1, r2⟩ := J.temps.split2 hl
    refine h G H ds vs F2 Q Q' J.sub r2 q fun d v rd z => k d v H Sub.refl ⟨G, F, F1 ++ F2, ?_⟩ z
    have := J.push (d := d) (v := v) (rd G H Sub.refl)
    simpa only [List.append_assoc] using this
def vOp (op : List D → (D → Prop) → Prop) (rs : List (Option Nat)) (t : VTA) : VTE := fun N ε Q => t N ε fun ds ε1 => op ds fun d => Q d (restore rs ds ε1)
def r2N (r : R2) : List V → Hp → VK → Prop := fun vs H Q => ∃ v w, vs = [v, w] ∧ r v w H Q
def r1N (r : V → Hp → VK → Prop) : List V → Hp → VK → Prop := fun vs H Q => ∃ v, vs = [v] ∧ r v H Q
/-- behind an operation: the arguments go back or are let go -/
theorem OpN.run {K : PySem.W.Frag} {r : List V → Hp → VK → Prop} {op : List D → (D → Prop) → Prop} (h : OpN K r op) {b : Bs} {σ : L2.St} {H : Hp} {ε : Ep} {T : List D} {Tv : List V} {ds : List D} {vs : List V} {rs : List (Option Nat)} {Q : D → Ep → Prop} {Q' : VK}
    (hl : T.length = Tv.length) (hd : ds.length = vs.length) (I : SI K b σ H ε (T ++ ds) (Tv ++ vs)) (hh : Held σ rs vs) (q : op ds fun d => Q d (restore rs ds ε)) (k : ∀ d v ε' H', SI K b σ H' ε' (T ++ [d]) (Tv ++ [v]) → Q d ε' → Q' v H') : r vs H Q' :=
  h b σ H ε T Tv ds vs _ Q' hl hd I q fun d v H' _ J z => k d v _ H' (SI.restore hl hh hd J) z
def va2 (ta tb : VTE) : VTA := vaCons ta (vaCons tb vaNil)
def va1 (ta : VTE) : VTA := vaCons ta vaNil
theorem two_run {K : PySem.W.Frag} {r : R2} {op : List D → (D → Prop) → Prop} (h : OpN K (r2N r) op) {b : Bs} {σ : L2.St} {H : Hp} {ε : Ep} {T : List D} {Tv : List V} {x y : D} {v w : V} {ra rb : Option Nat} {Q : D → Ep → Prop} {Q' : VK}
    (hl : T.length = Tv.length) (I : SI K b σ H ε (T ++ [x, y]) (Tv ++ [v, w])) (h1 : Held σ [ra] [v]) (h2 : Held σ [rb] [w]) (q : op [x, y] fun d => Q d (restore [ra, rb] [x, y] ε)) (k : ∀ d v ε' H', SI K b σ H' ε' (T ++ [d]) (Tv ++ [v]) → Q d ε' → Q' v H') : r v w H Q' := by
  obtain ⟨v', w', e, z⟩ := h.run hl rfl I (Held.append (rs := [ra]) (vs := [v]) h1 h2) q k
  obtain ⟨rfl, e2⟩ := List.cons.inj e
  obtain ⟨rfl, _⟩ := List.cons.inj e2
  exact z
theorem one_run {K : PySem.W.Frag} {r : V → Hp → VK → Prop} {op : List D → (D → Prop) → Prop} (h : OpN K (r1N r) op) {b : Bs} {σ : L2.St} {H : Hp} {ε : Ep} {T : List D} {Tv : List V} {x : D} {v : V} {ra : Option Nat} {Q : D → Ep → Prop} {Q' : VK}
    (hl : T.length = Tv.length) (I : SI K b σ H ε (T ++ [x]) (Tv ++ [v])) (h1 : Held σ [ra] [v]) (q : op [x] fun d => Q d (restore [ra] [x] ε)) (k : ∀ d v ε' H', SI K b σ H' ε' (T ++ [d]) (Tv ++ [v]) → Q d ε' → Q' v H') : r v H Q' := by
  obtain ⟨v', e, z⟩ := h.run hl rfl I h1 q k
  obtain ⟨rfl, _⟩ := List.cons.inj e
  exact z
/-- two operands in a row -/
theorem two_args {e1 e2 : Expr} {ra rb : Option Nat} {ta tb : VTE} (ha : VG X e1 ra ta) (hb : VG X e2 rb tb) : ∃ ta' tb' : WX → TE, (∀ W, Takes X.toCx W → PE X.toCx e1 (ta' W)) ∧ (∀ W, Takes X.toCx W → PE X.toCx e2 (tb' W)) ∧
    ∀ (b : Bx X) σ H ε T Tv W N (Q : D → D → Ep → Prop) (Q' : V → V → Hp → Prop), SI X.K b.1 σ H ε T Tv → (ta N ε fun x ε1 => tb N ε1 fun y ε2 => Q x y ε2) →
      (∀ x y v w ε' H', SI X.K b.1 σ H' ε' (T ++ [x, y]) (Tv ++ [v, w]) → Held σ [ra] [v] → Held σ [rb] [w] → Q x y ε' → Q' v w H') → XL X.K b.1 T Tv W N → ta' W σ H fun v H1 => tb' W σ H1 fun w H2 => Q' v w H2 := by
  obtain ⟨ta', a1, a2⟩ := ha.ex
  obtain ⟨tb', b1, b2⟩ := hb.ex
  refine ⟨ta', tb', a1, b1, fun b σ H ε T Tv W N Q Q' I q k x => ?_⟩
  refine a2 b σ H ε T Tv W N _ _ I q (fun d v ε1 H1 J hd q1 => ?_) x
  refine b2 b σ H1 ε1 (T ++ [d]) (Tv ++ [v]) W N _ _ J q1 (fun d2 w ε2 H2 J2 h2 q2 => ?_) (x.more I.lenT rfl)
  exact k d d2 v w ε2 H2 (by simpa only [List.append_assoc, List.cons_append, List.nil_append] using J2) hd h2 q2
theorem ve_bin {e1 e2 : Expr} {o : Operator} {ra rb : Option Nat} {ta tb : VTE} {r : R2} {op : List D → (D → Prop) → Prop} {pos : Pos} (ho : OpR X.toCx (binaryOp o) r) (hp : OpN X.K (r2N r) op) (ha : VG X e1 ra ta) (hb : VG X e2 rb tb) :
    VE X (.BinOp e1 o e2 pos) (vOp op [ra, rb] (va2 ta tb)) := by
  obtain ⟨ta', tb', h1, h2, h3⟩ := two_args ha hb
  refine ⟨fun W => tOp r (ta' W) (tb' W), fun W tk => pe_op ho (h1 W tk) (h2 W tk), fun b σ H ε T Tv W N Q Q' I q k x => ?_⟩
  exact h3 b σ H ε T Tv W N _ _ I q (fun x y v w ε' H' J hv hw z => two_run hp I.lenT J hv hw z k) x
theorem ve_cmp {e1 e2 : Expr} {o : CmpOp} {ra rb : Option Nat} {ta tb : VTE} {r : R2} {op : List D → (D → Prop) → Prop} {pos : Pos} (ho : OpR X.toCx (compareOp o) r) (hp : OpN X.K (r2N r) op) (ha : VG X e1 ra ta) (hb : VG X e2 rb tb) (hm : behindInMarks o e2 = false) :
    VE X (.Compare e1 [o] [e2] pos) (vOp op [ra, rb] (va2 ta tb)) := by
  obtain ⟨ta', tb', h1, h2, h3⟩ := two_args ha hb
  refine ⟨fun W => tOp r (ta' W) (tb' W), fun W tk => pe_cmpR ho (h1 W tk) (h2 W tk) hm, fun b σ H ε T Tv W N Q Q' I q k x => ?_⟩
  exact h3 b σ H ε T Tv W N _ _ I q (fun x y v w ε' H' J hv hw z => two_run hp I.lenT J hv hw z k) x
theorem ve_un {e1 : Expr} {o : UnaryOp} {ra : Option Nat} {ta : VTE} {r : V → Hp → VK → Prop} {op : List D → (D → Prop) → Prop} {pos : Pos} (ho : UnR X.toCx (unaryOp o) r) (hp : OpN X.K (r1N r) op) (ha : VG X e1 ra ta) : VE X (.UnaryOp o e1 pos) (vOp op [ra] (va1 ta)) := by
  obtain ⟨ta', a1, a2⟩ := ha.ex
  refine ⟨fun W => tUn r (ta' W), fun W tk => pe_un ho (a1 W tk), fun b σ H ε T Tv W N Q Q' I q k x => ?_⟩
  exact a2 b σ H ε T Tv W N _ _ I q (fun d v ε1 H1 J hd z => one_run hp I.lenT J hd z k) x
/-- a built-in function called by its name -/
theorem ve_callB {x : Str} {id : String} {p pos : Pos} {e : Expr} {es : List Expr} {rs : List (Option Nat)} {t : VTA} {r : List V → Hp → VK → Prop} {op : List D → (D → Prop) → Prop} (hc : CallR X.toCx (.builtin id) r) (hp : OpN X.K r op) (hg : Gl X.toCx x) (hm : X.mg x = none) (hv : bootBuiltins x = some (.builtin id)) (ha : VA X (e :: es) rs t)
    (hn : x ≠ "__name__" := by decide) (hdb : (x == ("__debug__" : Str)) = false := by decide) (he : starEach (e :: es) X.env = (false, eval e X.env) :: starEach es X.env := by rfl) (hpl : (backTo pos (starEach es X.env)).any (·.1) = false := by rfl) :
    VE X (.Call (.Name x p) (e :: es) [] pos) (vOp op rs t) := by
  obtain ⟨t', a1, a2⟩ := ha.ex
  refine ⟨fun W => tCB r (t' W), fun W tk => pe_callB hc hg hm hv (a1 W tk) hn hdb he hpl, fun b σ H ε T Tv W N Q Q' I q k x => ?_⟩
  exact a2 b σ H ε T Tv W N _ _ I q (fun ds vs ε1 H1 J l hd z => hp.run I.lenT l J hd z k) x
theorem ve_callTy {x : Str} {ty : String} {p pos : Pos} {e : Expr} {es : List Expr} {rs : List (Option Nat)} {t : VTA} {r : List V → Hp → VK → Prop} {op : List D → (D → Prop) → Prop} (hc : CallR X.toCx (.type ty) r) (hp : OpN X.K r op) (hg : Gl X.toCx x) (hm : X.mg x = none) (hv : bootBuiltins x = some (.type ty)) (ha : VA X (e :: es) rs t)
    (hn : x ≠ "__name__" := by decide) (hdb : (x == ("__debug__" : Str)) = false := by decide) (he : starEach (e :: es) X.env = (false, eval e X.env) :: starEach es X.env := by rfl) (hpl : (backTo pos (starEach es X.env)).any (·.1) = false := by rfl) :
    VE X (.Call (.Name x p) (e :: es) [] pos) (vOp op rs t) := by
  obtain ⟨t', a1, a2⟩ := ha.ex
  refine ⟨fun W => tCB r (t' W), fun W tk => pe_callTy hc hg hm hv (a1 W tk) hn hdb he hpl, fun b σ H ε T Tv W N Q Q' I q k x => ?_⟩
  exact a2 b σ H ε T Tv W N _ _ I q (fun ds vs ε1 H1 J l hd z => hp.run I.lenT l J hd z k) x
end
end VL
namespace VL
open PySem PySem.Spec PyProof.Rows L2 VL
section
variable {K : PySem.W.Frag} {b : Bs} {σ : L2.St} {H H' : Hp} {ε : Ep} {T : List D} {Tv : List V}
theorem SI.last {d : D} {v : V} (I : SI K b σ H ε (T ++ [d]) (Tv ++ [v])) (hl : T.length = Tv.length) : ∃ G F, Sub G H ∧ Rp K G H d v F := by
  obtain ⟨G, F, Ft, J⟩ := I
  obtain ⟨F1, F2, rfl, r1, r2⟩ := J.temps.split2 hl
  exact ⟨G, F2, J.sub, RpL.one.mp r2⟩
theorem SI.pop {d : D} {v : V} (I : SI K b σ H ε (T ++ [d]) (Tv ++ [v])) (hl : T.length = Tv.length) : SI K b σ H ε T Tv := I.drop hl
end
section
variable {X : Cv}
def vB (t : VTE) : VTT := fun N ε Q => t N ε fun d ε1 => ∃ c, d = .bl c ∧ Q c ε1
theorem vt_val {e : Expr} {t : VTE} (h : VE X e t) (he : ∀ whole, isTrue e X.env whole = (do let v ← whole; standAt e.pos; holding [v] (truthy v)) := by intro _; rfl) : VT X e (vB t) := by
  obtain ⟨t', h1, h2⟩ := h.ex
  refine ⟨fun W => tB (t' W), fun W tk => pt_val (h1 W tk) he, fun b σ H ε T Tv W N Q Q' I q k x => ?_⟩
  refine h2 b σ H ε T Tv W N _ _ I q (fun d v ε1 H1 J z => ?_) x
  obtain ⟨c, rfl, z⟩ := z
  obtain ⟨G, F, _, rv, _⟩ := J.last I.lenT
  exact ⟨c, rv, k c ε1 H1 (J.pop I.lenT) z⟩
theorem vt_cmp {e1 e2 : Expr} {o : CmpOp} {ra rb : Option Nat} {ta tb : VTE} {r : R2} {op : List D → (D → Prop) → Prop} {pos : Pos} (ho : OpR X.toCx (compareOp o) r) (hp : OpN X.K (r2N r) op) (ha : VG X e1 ra ta) (hb : VG X e2 rb tb) (hm : behindInMarks o e2 = false) :
    VT X (.Compare e1 [o] [e2] pos) (vB (vOp op [ra, rb] (va2 ta tb))) := by
  obtain ⟨ta', tb', h1, h2, h3⟩ := two_args ha hb
  refine ⟨fun W => tTest (tOp r (ta' W) (tb' W)), fun W tk => pt_cmpR ho (h1 W tk) (h2 W tk) hm, fun b σ H ε T Tv W N Q Q' I q k x => ?_⟩
  refine h3 b σ H ε T Tv W N _ _ I q (fun x y v w ε' H' J hv hw z => two_run (Q := fun d ε1 => ∃ c, d = .bl c ∧ Q c ε1) hp I.lenT J hv hw z fun d u ε1 H1 J1 z1 => ?_) x
  obtain ⟨c, rfl, z1⟩ := z1
  obtain ⟨G, F, _, rv, _⟩ := J1.last I.lenT
  exact ⟨c, rv, k c ε1 H1 (J1.pop I.lenT) z1⟩
def vAnd (t u : VTT) : VTT := fun N ε Q => t N ε fun c ε1 => if c = true then u N ε1 Q else Q false ε1
def vOr (t u : VTT) : VTT := fun N ε Q => t N ε fun c ε1 => if c = true then Q true ε1 else u N ε1 Q
def vNot (t : VTT) : VTT := fun N ε Q => t N ε fun c ε1 => Q (!c) ε1
theorem vw_and1 {a : Expr} {t : VTT} {pos : Pos} (h : VT X a t) : VW X (.BoolOp .And [a] pos) t := let ⟨t', h1, h2⟩ := h.ex; ⟨t', fun W tk => pw_and1 (h1 W tk), h2⟩
theorem vw_or1 {a : Expr} {t : VTT} {pos : Pos} (h : VT X a t) : VW X (.BoolOp .Or [a] pos) t := let ⟨t', h1, h2⟩ := h.ex; ⟨t', fun W tk => pw_or1 (h1 W tk), h2⟩
theorem vw_and {a c : Expr} {rest : List Expr} {t u : VTT} {pos : Pos} (h : VT X a t) (g : VW X (.BoolOp .And (c :: rest) pos) u) : VW X (.BoolOp .And (a :: c :: rest) pos) (vAnd t u) := by
  obtain ⟨t', h1, h2⟩ := h.ex
  obtain ⟨u', g1, g2⟩ := g.ex
  refine ⟨fun W => tAnd (t' W) (u' W), fun W tk => pw_and (h1 W tk) (g1 W tk), fun b σ H ε T Tv W N Q Q' I q k x => ?_⟩
  refine h2 b σ H ε T Tv W N _ _ I q (fun c ε1 H1 J z => ?_) x
  cases c with
  | true => exact g2 b σ H1 ε1 T Tv W N _ _ J z k x
  | false => exact k false ε1 H1 J z
theorem vw_or {a c : Expr} {rest : List Expr} {t u : VTT} {pos : Pos} (h : VT X a t) (g : VW X (.BoolOp .Or (c :: rest) pos) u) : VW X (.BoolOp .Or (a :: c :: rest) pos) (vOr t u) := by
  obtain ⟨t', h1, h2⟩ := h.ex
  obtain ⟨u', g1, g2⟩ := g.ex
  refine ⟨fun W => tOr (t' W) (u' W), fun W tk => pw_or (h1 W tk) (g1 W tk), fun b σ H ε T Tv W N Q Q' I q k x => ?_⟩
  refine h2 b σ H ε T Tv W N _ _ I q (fun c ε1 H1 J z => ?_) x
  cases c with
  | true => exact k true ε1 H1 J z
  | false => exact g2 b σ H1 ε1 T Tv W N _ _ J z k x
theorem vt_w {e : Expr} {t : VTT} (h : VW X e t) : VT X e t := let ⟨t', h1, h2⟩ := h.ex; ⟨t', fun W tk => (h1 W tk).pt, h2⟩
theorem vt_not {a : Expr} {t : VTT} {pos : Pos} (h : VT X a t) : VT X (.UnaryOp .Not a pos) (vNot t) := by
  obtain ⟨t', h1, h2⟩ := h.ex
  refine ⟨fun W => tNot (t' W), fun W tk => pt_not (h1 W tk), fun b σ H ε T Tv W N Q Q' I q k x => ?_⟩
  exact h2 b σ H ε T Tv W N _ _ I q (fun c ε1 H1 J z => k (!c) ε1 H1 J z) x
def vAndV (t u : VTE) : VTE := fun N ε Q => t N ε fun d ε1 => ∃ c, d = .bl c ∧ if c = true then u N ε1 Q else Q (.bl false) ε1
def vOrV (t u : VTE) : VTE := fun N ε Q => t N ε fun d ε1 => ∃ c, d = .bl c ∧ if c = true then Q (.bl true) ε1 else u N ε1 Q
def vNotV (t : VTE) : VTE := fun N ε Q => t N ε fun d ε1 => ∃ c, d = .bl c ∧ Q (.bl (!c)) ε1
def vIf (c : VTT) (t u : VTE) : VTE := fun N ε Q => c N ε fun c ε1 => if c = true then t N ε1 Q else u N ε1 Q
theorem ve_one {a : Expr} {o : BoolOp} {t : VTE} {pos : Pos} (h : VE X a t) : VE X (.BoolOp o [a] pos) t := let ⟨t', h1, h2⟩ := h.ex; ⟨t', fun W tk => pe_one (h1 W tk), h2⟩
theorem ve_and {a c : Expr} {rest : List Expr} {t u : VTE} {pos : Pos} (h : VE X a t) (g : VE X (.BoolOp .And (c :: rest) pos) u) : VE X (.BoolOp .And (a :: c :: rest) pos) (vAndV t u) := by
  obtain ⟨t', h1, h2⟩ := h.ex
  obtain ⟨u', g1, g2⟩ := g.ex
  refine ⟨fun W => tAndV (t' W) (u' W), fun W tk => pe_and (h1 W tk) (g1 W tk), fun b σ H ε T Tv W N Q Q' I q k x => ?_⟩
  refine h2 b σ H ε T Tv W N _ _ I q (fun d v ε1 H1 J z => ?_) x
  obtain ⟨c, rfl, z⟩ := z
  obtain ⟨G, F, _, rv, _⟩ := J.last I.lenT
  refine ⟨c, rv, ?_⟩
  cases c with
  | true => exact g2 b σ H1 ε1 T Tv W N _ _ (J.pop I.lenT) z k x
  | false => exact k (.bl false) _ ε1 H1 ((J.pop I.lenT).push fun _ => ⟨rfl, rfl⟩) z
theorem ve_not {a : Expr} {t : VTE} {pos : Pos} (h : VE X a t) : VE X (.UnaryOp .Not a pos) (vNotV t) := by
  obtain ⟨t', h1, h2⟩ := h.ex
  refine ⟨fun W => tNotV (t' W), fun W tk => pe_not (h1 W tk), fun b σ H ε T Tv W N Q Q' I q k x => ?_⟩
  refine h2 b σ H ε T Tv W N _ _ I q (fun d v ε1 H1 J z => ?_) x
  obtain ⟨c, rfl, z⟩ := z
  obtain ⟨G, F, _, rv, _⟩ := J.last I.lenT
  exact ⟨c, rv, k (.bl (!c)) _ ε1 H1 ((J.pop I.lenT).push fun _ => ⟨rfl, rfl⟩) z⟩
def vTup (t : VTA) : VTE := fun N ε Q => t N ε fun ds ε1 => ds.length ≤ 1000 ∧ Q (.tup ds) ε1
def vLst (t : VTA) : VTE := fun N ε Q => t N ε fun ds ε1 => ds.length ≤ 1000 ∧ Q (.lst true ds) ε1
theorem k1000 {n : Nat} (h : n ≤ 1000) : n ≤ sizeLine := Nat.le_trans h (by decide)
theorem ve_tup {es : List Expr} {rs : List (Option Nat)} {t : VTA} {x1 : Nat} {pos : Pos} (h : VA X es rs t) : VE X (.Tuple es x1 pos) (vTup t) := by
  obtain ⟨t', h1, h2⟩ := h.ex
  refine ⟨fun W => tTup (t' W), fun W tk => pe_tup (h1 W tk), fun b σ H ε T Tv W N Q Q' I q k x => ?_⟩
  refine h2 b σ H ε T Tv W N _ _ I q (fun ds vs ε1 H1 J l _ z => ?_) x
  obtain ⟨z1, z⟩ := z
  exact ⟨k1000 (by rw [← l]; exact z1), fun p hp => k _ _ ε1 _ (J.tup I.lenT hp) z⟩
theorem ve_lst {es : List Expr} {rs : List (Option Nat)} {t : VTA} {pos : Pos} (h : VA X es rs t) : VE X (.List es pos) (vLst t) := by
  obtain ⟨t', h1, h2⟩ := h.ex
  refine ⟨fun W => tLst (t' W), fun W tk => pe_lst (h1 W tk), fun b σ H ε T Tv W N Q Q' I q k x => ?_⟩
  refine h2 b σ H ε T Tv W N _ _ I q (fun ds vs ε1 H1 J l _ z => ?_) x
  obtain ⟨z1, z⟩ := z
  exact ⟨k1000 (by rw [← l]; exact z1), fun p hp => k (.lst true ds) _ ε1 _ (J.laid I.lenT hp (.lst vs) fun G H' F e r => ⟨p, vs, F, rfl, e, rfl, r⟩) z⟩
/-- an empty dict: keys ints and texts | keys tuples of these -/
theorem ve_dK {pos : Pos} : VE X (.Dict [] [] pos) (vC (.dK true [] [])) := by
  refine ⟨fun _ => tDNewK, fun _ _ => pe_dnewK, fun b σ H ε T Tv W N Q Q' I q k _ => fun p hp => ?_⟩
  refine k (.dK true [] []) _ ε _ ((SI.laid (ds := []) (vs := []) (by simpa using I) I.lenT hp (.dK []) fun G H' F e r => ?_)) q
  obtain ⟨_, rfl⟩ := r
  exact ⟨p, [], [], rfl, e, rfl, rfl, List.nodup_nil, rfl, rfl⟩
/-- what an expression gives is let stand still -/
def vStill (t : VTE) : VTE := fun N ε Q => t N ε fun d ε1 => Q (frz d) ε1
theorem ve_still {e : Expr} {t : VTE} (h : VE X e t) : VE X e (vStill t) := by
  obtain ⟨t', h1, h2⟩ := h.ex
  refine ⟨t', h1, fun b σ H ε T Tv W N Q Q' I q k x => ?_⟩
  exact h2 b σ H ε T Tv W N _ _ I q (fun d v ε1 H1 J z => k (frz d) v ε1 H1 (J.freeze I.lenT) z) x
/-- κ: the slots of kept parameters, which nobody stores into: told by the number of them at the begin that are not stored -/
def vSkip : VTS := fun N ε => N.nx ε
def vSeq (t u : VTS) : VTS := fun N ε => t { N with nx := u N } ε
theorem vss_nil : VSs X [] vSkip := ⟨fun _ => tNext, fun _ _ => pss_nil, fun b σ H ε T Tv W N E I q l _ => l.nx σ H ε I q⟩
theorem vss_one {st : Stmt} {t : VTS} (h : VS X st t) : VSs X [st] t := let ⟨t', h1, h2⟩ := h.ex; ⟨t', fun W tk => pss_one (h1 W tk), h2⟩
theorem vss_cons {st : Stmt} {rest : List Stmt} {t u : VTS} (h : VS X st t) (g : VSs X rest u) : VSs X (st :: rest) (vSeq t u) := by
  obtain ⟨t', h1, h2⟩ := h.ex
  obtain ⟨u', g1, g2⟩ := g.ex
  refine ⟨fun W => tSeq (t' W) (u' W), fun W tk => pss_cons (h1 W tk) (g1 W tk), fun b σ H ε T Tv W N E I q l x => ?_⟩
  exact h2 b σ H ε T Tv W { N with nx := u N } { E with nx := u' W E } I q ⟨fun σ1 H1 ε1 J z => g2 b σ1 H1 ε1 T Tv W N E J z l x, l.rt, l.bk, l.ct⟩ x
def vBrk : VTS := fun N ε => N.bk ε
def vCnt : VTS := fun N ε => N.ct ε
theorem vs_cnt {pos : Pos} : VS X (.Continue pos) vCnt := ⟨fun _ => tCont, fun _ _ => ps_continue, fun b σ H ε T Tv W N E I q l _ => l.ct σ H ε I q⟩
def vDrop (t : VTE) : VTS := fun N ε => t N.rx ε fun _ ε1 => N.nx ε1
theorem vs_expr {e : Expr} {t : VTE} {pos : Pos} (h : VE X e t) (hs : swapsWith e none pos.line X.env = pure false := by rfl) : VS X (.Expr e pos) (vDrop t) := by
  obtain ⟨t', h1, h2⟩ := h.ex
  refine ⟨fun W => tDrop (t' W), fun W tk => ps_expr (h1 W tk) hs, fun b σ H ε T Tv W N E I q l x => ?_⟩
  exact h2 b σ H ε T Tv W N.rx _ _ I q (fun d v ε1 H1 J z => l.nx σ H1 ε1 (J.pop I.lenT) z) x
def vRet (t : VTE) : VTS := fun N ε => t N.rx ε N.rt
theorem vs_ret {e : Expr} {t : VTE} {pos : Pos} (h : VE X e t) : VS X (.Return (some e) pos) (vRet t) := by
  obtain ⟨t', h1, h2⟩ := h.ex
  refine ⟨fun W => tRet (t' W), fun W tk => ps_ret (h1 W tk), fun b σ H ε T Tv W N E I q l x => ?_⟩
  exact h2 b σ H ε T Tv W N.rx _ _ I q (fun d v ε1 H1 J z => l.rt σ H1 ε1 d v J z) x
def vRetN : VTS := fun N ε => N.rt .non ε
def vIfS (c : VTT) (t u : VTS) : VTS := fun N ε => c N.rx ε fun c ε1 => if c = true then t N ε1 else u N ε1
theorem vs_if {c : Expr} {a e : List Stmt} {tc : VTT} {t u : VTS} {pos : Pos} (hc : VT X c tc) (h : VSs X a t) (g : VSs X e u) : VS X (.If c a e pos) (vIfS tc t u) := by
  obtain ⟨tc', c1, c2⟩ := hc.ex
  obtain ⟨t', h1, h2⟩ := h.ex
  obtain ⟨u', g1, g2⟩ := g.ex
  refine ⟨fun W => tIfS (tc' W) (t' W) (u' W), fun W tk => ps_if (c1 W tk) (h1 W tk) (g1 W tk), fun b σ H ε T Tv W N E I q l x => ?_⟩
  refine c2 b σ H ε T Tv W N.rx _ _ I q (fun c ε1 H1 J z => ?_) x
  cases c with
  | true => exact h2 b σ H1 ε1 T Tv W N E J z l x
  | false => exact g2 b σ H1 ε1 T Tv W N E J z l x
/-- x = e -/
def vAsg (i : Nat) (t : VTE) : VTS := fun N ε => t N.rx ε fun d ε1 => i < ε1.length ∧ N.nx (ε1.set i (some d))
theorem Bx.free (b : Bx X) {i : Nat} (h : X.κ[i]? ≠ some true) : ∀ u, b.1.kv[i]? ≠ some (some u) := fun u e => h (b.2 i u e)
theorem vs_asg {i : Nat} {x : Str} {e : Expr} {t : VTE} {pos pos' : Pos} (hN : X.N.Nodup) (hi : X.N[i]? = some x) (hx : Loc X.env.scope x) (hk : X.κ[i]? ≠ some true) (h : VE X e t) (hs : swapsWith e (some (.Name x pos')) pos.line X.env = pure false := by rfl)
    (hf : X.fn x = true ∨ X.env.scope.names.lookup x = some .local := by first | exact .inl rfl | exact .inr rfl | assumption) : VS X (.Assign [.Name x pos'] e pos) (vAsg i t) := by
  obtain ⟨t', h1, h2⟩ := h.ex
  refine ⟨fun W => tAsg (t' W) (gName i), fun W tk => ps_set hN hi hx (h1 W tk) hs hf, fun b σ H ε T Tv W N E I q l x => ?_⟩
  exact h2 b σ H ε T Tv W N.rx _ _ I q (fun d v ε1 H1 J z => l.nx _ H1 _ (J.store I.lenT z.1 (b.free hk)) z.2) x
/-- what a target does with what it is given, which is held on top -/
abbrev VTG := D → Ep → (Ep → Prop) → Prop
structure VTa (X : Cv) (tg : Expr) (t : VTG) : Prop where
  ex : ∃ g : TG, PG X.toCx tg g ∧ ∀ (b : Bx X) σ H ε T Tv d v Q Q', SI X.K b.1 σ H ε (T ++ [d]) (Tv ++ [v]) → T.length = Tv.length → t d ε Q →
    (∀ ε' σ' H', SI X.K b.1 σ' H' ε' T Tv → Q ε' → Q' σ' H') → g v σ H Q'
def vName (i : Nat) : VTG := fun d ε Q => i < ε.length ∧ Q (ε.set i (some d))
theorem vt_name {i : Nat} {x : Str} {pos : Pos} (hN : X.N.Nodup) (hi : X.N[i]? = some x) (hx : Loc X.env.scope x) (hk : X.κ[i]? ≠ some true)
    (hf : X.fn x = true ∨ X.env.scope.names.lookup x = some .local := by first | exact .inl rfl | exact .inr rfl | assumption) : VTa X (.Name x pos) (vName i) :=
  ⟨gName i, pg_name hN hi hx hf, fun b σ H ε T Tv d v Q Q' I l q k => k _ _ _ (I.store l q.1 (b.free hk)) q.2⟩
end
end VL
namespace VL
open PySem PySem.Spec PyProof.Rows L2 VL
section
variable {K : PySem.W.Frag} {b : Bs} {σ : L2.St} {H H' : Hp} {ε : Ep} {T : List D} {Tv : List V}
theorem heldNone {σ : L2.St} : ∀ {R : List D} {Rv : List V}, R.length = Rv.length → Held σ (R.map fun _ => none) Rv
  | [], [], _ => trivial
  | _ :: R, _ :: Rv, h => heldNone (R := R) (Nat.succ.inj h)
  | [], _ :: _, h => by cases h
  | _ :: _, [], h => by cases h
theorem restoreNone : ∀ {R : List D} {ε : Ep}, restore (R.map fun _ => none) R ε = ε
  | [], _ => rfl
  | _ :: R, _ => restoreNone (R := R)
theorem SI.midDrops {R S : List D} {Rv Sv : List V} (I : SI K b σ H ε (T ++ (R ++ S)) (Tv ++ (Rv ++ Sv))) (hl : T.length = Tv.length) (hr : R.length = Rv.length) : SI K b σ H ε (T ++ S) (Tv ++ Sv) := by
  have := SI.restore hl (heldNone hr) hr I
  rw [restoreNone] at this
  exact this
/-- a held thing amid others goes to a slot -/
theorem SI.midStore {d : D} {v : V} {R : List D} {Rv : List V} (I : SI K b σ H ε (T ++ d :: R) (Tv ++ v :: Rv)) (hl : T.length = Tv.length) {i : Nat} (hi : i < ε.length) (hk : ∀ u, b.kv[i]? ≠ some (some u)) : SI K b (σ.set i (some v)) H (ε.set i (some d)) (T ++ R) (Tv ++ Rv) := by
  obtain ⟨G, F, Ft, J⟩ := I
  obtain ⟨F1, F2, rfl, r1, r2⟩ := J.temps.split2 hl
  obtain ⟨v', vs', A, B, e, rfl, rd, rs⟩ := r2
  obtain ⟨rfl, rfl⟩ := List.cons.inj e
  obtain ⟨ov, C, E, L, hs', rfl, ro, back⟩ := J.slots.focus (i := i) (List.getElem?_eq_getElem hi)
  have s2 := back G H (some d) (some v) A Sub.refl (fun _ _ => rfl) ⟨v, rfl, rd⟩
  have sb : ∀ a, a ∈ C ++ A ++ L ++ (F1 ++ B) → a ∈ C ++ E ++ L ++ (F1 ++ (A ++ B)) := fun a z => by
    simp only [List.mem_append] at z ⊢
    rcases z with ((z | z) | z) | z | z
    · exact .inl (.inl (.inl z))
    · exact .inr (.inr (.inl z))
    · exact .inl (.inr z)
    · exact .inr (.inl z)
    · exact .inr (.inr (.inr z))
  have nd : (C ++ A ++ L ++ (F1 ++ B)).Nodup := by
    have h1 : (C ++ E ++ L ++ (F1 ++ (A ++ B))).Perm (E ++ (C ++ A ++ L ++ (F1 ++ B))) := by
      apply List.perm_iff_count.mpr
      intro a
      simp only [List.count_append]
      omega
    exact (List.nodup_append.mp (h1.nodup_iff.mp J.nd)).2.1
  refine ⟨G, _, F1 ++ B, J.s0, J.sub, s2, r1.append rs, nd, fun a z => J.fr a (sb a z), fun a z => J.own a (sb a z), J.gn, J.keep, fun j u e => ?_⟩
  have hj : i ≠ j := fun z => by
    subst z
    exact hk u e
  rw [List.getElem?_set_ne hj]
  exact J.kept j u e
/-- a held tuple is opened -/
theorem SI.openT {ds : List D} {v : V} (I : SI K b σ H ε (T ++ [.tup ds]) (Tv ++ [v])) (hl : T.length = Tv.length) : ∃ a vs, v = .ref a ∧ SqT K H a vs ∧ ds.length = vs.length ∧ SI K b σ H ε (T ++ ds) (Tv ++ vs) := by
  obtain ⟨G, F, Ft, J⟩ := I
  obtain ⟨F1, F2, rfl, r1, r2⟩ := J.temps.split2 hl
  obtain ⟨a, vs, rfl, s, r⟩ := RpL.one.mp r2
  exact ⟨a, vs, rfl, SqT.of (J.sub _ _ s), r.len, G, F, F1 ++ F2, J.s0, J.sub, J.slots, r1.append r, J.nd, J.fr, J.own, J.gn, J.keep, J.kept⟩
theorem SI.openL {m : Bool} {ds : List D} {v : V} (I : SI K b σ H ε (T ++ [.lst m ds]) (Tv ++ [v])) (hl : T.length = Tv.length) : ∃ a vs, v = .ref a ∧ SqL K H a vs ∧ ds.length = vs.length ∧ SI K b σ H ε (T ++ ds) (Tv ++ vs) := by
  obtain ⟨G, F, Ft, J⟩ := I
  obtain ⟨F1, F2, rfl, r1, r2⟩ := J.temps.split2 hl
  have r2 := RpL.one.mp r2
  cases m with
  | false =>
    obtain ⟨a, vs, rfl, s, rfl, r⟩ := r2
    exact ⟨a, vs, rfl, J.sub.sqL s, r.len, G, F, F1 ++ [], J.s0, J.sub, J.slots, r1.append r, J.nd, J.fr, J.own, J.gn, J.keep, J.kept⟩
  | true =>
    obtain ⟨a, vs, F', rfl, s, rfl, r⟩ := r2
    have sb : ∀ c, c ∈ F ++ (F1 ++ F') → c ∈ F ++ (F1 ++ a :: F') := fun c z => by
      simp only [List.mem_append, List.mem_cons] at z ⊢
      rcases z with z | z | z
      · exact .inl z
      · exact .inr (.inl z)
      · exact .inr (.inr (.inr z))
    have nd : (F ++ (F1 ++ F')).Nodup := by
      have h1 : (F ++ (F1 ++ a :: F')).Perm ([a] ++ (F ++ (F1 ++ F'))) := by
        apply List.perm_iff_count.mpr
        intro c
        simp only [List.count_append, List.count_cons]
        simp
        omega
      exact (List.nodup_append.mp (h1.nodup_iff.mp J.nd)).2.1
    exact ⟨a, vs, rfl, SqL.of s, r.len, G, F, F1 ++ F', J.s0, J.sub, J.slots, r1.append r, nd, fun c z => J.fr c (sb c z), fun c z => J.own c (sb c z), J.gn, J.keep, J.kept⟩
end
section
variable {X : Cv}
def setAll : List Nat → List D → Ep → Ep
  | i :: is, d :: ds, ε => setAll is ds (ε.set i (some d))
  | _, _, ε => ε
structure VNs (X : Cv) (ts : List Expr) (is : List Nat) : Prop where
  ex : ∃ g : TGs, PGs X.toCx ts g ∧ ∀ (b : Bx X) σ H ε T Tv ds vs (Q : Ep → Prop) (Q' : L2.St → Hp → Prop), SI X.K b.1 σ H ε (T ++ ds) (Tv ++ vs) → T.length = Tv.length → ds.length = vs.length → is.length = ds.length → (∀ i ∈ is, i < ε.length) → Q (setAll is ds ε) →
    (∀ ε' σ' H', SI X.K b.1 σ' H' ε' T Tv → Q ε' → Q' σ' H') → g vs σ H Q'
theorem vns_nil : VNs X [] [] := ⟨gNil, pgs_nil, fun b σ H ε T Tv ds vs Q Q' I l hd hi _ q k => by
  cases ds with
  | cons _ _ => cases hi
  | nil =>
    cases vs with
    | cons _ _ => cases hd
    | nil => exact ⟨rfl, k ε σ H (by simpa using I) q⟩⟩
theorem vns_cons {x : Str} {pos : Pos} {es : List Expr} {i : Nat} {is : List Nat} (hN : X.N.Nodup) (hi : X.N[i]? = some x) (hx : Loc X.env.scope x) (hk : X.κ[i]? ≠ some true) (h : VNs X es is)
    (hs : (assignEach (.Name x pos :: es) X.env).map (·.2) = assign (.Name x pos) X.env :: (assignEach es X.env).map (·.2) := by rfl)
    (hf : X.fn x = true ∨ X.env.scope.names.lookup x = some .local := by first | exact .inl rfl | exact .inr rfl | assumption) : VNs X (.Name x pos :: es) (i :: is) := by
  obtain ⟨g, h1, h2⟩ := h.ex
  refine ⟨gCons (gName i) g, pgs_cons (pg_name hN hi hx hf) h1 hs, fun b σ H ε T Tv ds vs Q Q' I l hd hn hb q k => ?_⟩
  cases ds with
  | nil => cases hn
  | cons d ds =>
    cases vs with
    | nil => cases hd
    | cons v vs =>
      refine ⟨v, vs, rfl, ?_⟩
      exact h2 b _ H _ T Tv ds vs Q Q' (SI.midStore I l (hb i List.mem_cons_self) (b.free hk)) l (Nat.succ.inj hd) (Nat.succ.inj hn) (fun j z => by rw [List.length_set]; exact hb j (List.mem_cons_of_mem _ z)) q k
/-- the things that a tuple, a list holds -/
def items : D → Option (List D)
  | .tup ds => some ds
  | .lst _ ds => some ds
  | _ => none
def vNames (is : List Nat) : VTG := fun d ε Q => ∃ ds, items d = some ds ∧ is.length = ds.length ∧ (∀ i ∈ is, i < ε.length) ∧ Q (setAll is ds ε)
theorem vt_names {es : List Expr} {is : List Nat} {k : Nat} {pos : Pos} {n : Nat} (hc : X.calm = true) (h : VNs X es is)
    (hn : (assignEach es X.env).length = is.length := by rfl) (hst : (assignEach es X.env).findIdx? (·.1) = none := by rfl) : VTa X (.Tuple es k pos) (vNames is) := by
  obtain ⟨g, h1, h2⟩ := h.ex
  refine ⟨fun v σ H Q => gTup X.K is.length g v σ H Q ∨ gLst X.K is.length g v σ H Q, ⟨fun pins s σ H v u Q I r w => ?_⟩, fun b σ H ε T Tv d v Q Q' I l q z => ?_⟩
  · rcases w with w | w
    · exact (pg_tup hc h1 hn hst).run pins s σ H v u Q I r w
    · exact (pg_lst hc h1 hn hst).run pins s σ H v u Q I r w
  · obtain ⟨ds, hd, hl, hb, q⟩ := q
    cases d with
    | tup es =>
      cases hd
      obtain ⟨a, vs, rfl, s, l2, J⟩ := I.openT l
      exact .inl ⟨a, vs, rfl, s, by rw [← l2, hl], h2 b σ H ε T Tv ds vs Q Q' J l l2 hl hb q z⟩
    | lst m es =>
      cases hd
      obtain ⟨a, vs, rfl, s, l2, J⟩ := I.openL l
      exact .inr ⟨a, vs, rfl, s, by rw [← l2, hl], h2 b σ H ε T Tv ds vs Q Q' J l l2 hl hb q z⟩
    | _ => cases hd
def vAsgT (t : VTE) (g : VTG) : VTS := fun N ε => t N.rx ε fun d ε1 => g d ε1 N.nx
/-- the walk J gives ds one by one while R is held -/
def Wk (K : PySem.W.Frag) (J : It) (ds R : List D) (Rv : List V) : Prop := ∀ (b : Bs) σ H ε T Tv i, T.length = Tv.length → SI K b σ H ε (T ++ R) (Tv ++ Rv) →
  (∀ d, ds[i]? = some d → J.go i H ∧ ∀ x H', J.yld i H x H' → SI K b σ H' ε (T ++ (R ++ [d])) (Tv ++ (Rv ++ [x]))) ∧ (ds.length ≤ i → J.stop i H)
structure VI (X : Cv) (tg iter : Expr) (t : VTA) : Prop where
  ex : ∃ t' : WX → TI, (∀ W, Takes X.toCx W → PI X.toCx tg iter (t' W)) ∧ ∀ (b : Bx X) σ H ε T Tv W N Q Q', SI X.K b.1 σ H ε T Tv → t N ε Q →
    (∀ ds R Rv J ε' H', SI X.K b.1 σ H' ε' (T ++ R) (Tv ++ Rv) → R.length = Rv.length → Wk X.K J ds R Rv → Q ds ε' → Q' J H') → XL X.K b.1 T Tv W N → t' W σ H Q'
def vForL (g : VTG) (body : VTS) : List D → VTS
  | [], N, ε => N.nx ε
  | d :: ds, N, ε => g d ε fun ε1 => body { N with nx := fun ε' => vForL g body ds N ε', ct := fun ε' => vForL g body ds N ε', bk := N.nx } ε1
def vFor (wi : VTA) (g : VTG) (body : VTS) : VTS := fun N ε => wi N.rx ε fun ds ε1 => vForL g body ds N ε1
theorem vs_for {tg iter : Expr} {body : List Stmt} {wi : VTA} {g : VTG} {t : VTS} {pos : Pos} (hp : PassesOwn (model X.prog X.w) X.A X.env X.xe) (hc : X.calm = true) (hi : VI X tg iter wi) (hg : VTa X tg g) (hb : VSs X body t)
    (hs : ∀ x, foldedSetIterable iter X.env x = pure x := by intro _; rfl) : VS X (.For tg iter body [] pos) (vFor wi g t) := by
  obtain ⟨wi', w1, w2⟩ := hi.ex
  obtain ⟨g', g1, g2⟩ := hg.ex
  obtain ⟨t', t1, t2⟩ := hb.ex
  refine ⟨fun W => tFor (wi' W) g' (t' W), fun W tk => ps_for hp hc (w1 W tk) g1 (t1 W tk) hs, fun b σ H ε T Tv W N E I q l x => ?_⟩
  refine w2 b σ H ε T Tv W N.rx _ _ I q (fun ds R Rv J ε1 H1 I1 hr wk z => ?_) x
  have hl := I.lenT
  refine ⟨fun i m σ H => m = ds.length - i ∧ i ≤ ds.length ∧ ∃ ε, SI X.K b.1 σ H ε (T ++ R) (Tv ++ Rv) ∧ vForL g t (ds.drop i) N ε, ⟨ds.length, rfl, Nat.zero_le _, ε1, I1, z⟩, ?_⟩
  rintro i m σ2 H2 ⟨rfl, hi, ε2, I2, z2⟩
  obtain ⟨go, stop⟩ := wk b.1 σ2 H2 ε2 T Tv i hl I2
  by_cases hlt : i < ds.length
  · right
    rw [List.drop_eq_getElem_cons hlt] at z2
    obtain ⟨g0, gy⟩ := go ds[i] (List.getElem?_eq_getElem hlt)
    refine ⟨g0, fun σ' H' => ∃ ε, SI X.K b.1 σ' H' ε (T ++ R) (Tv ++ Rv) ∧ vForL g t (ds.drop (i + 1)) N ε, fun σ' H' y => ⟨ds.length - (i + 1), by omega, rfl, hlt, y⟩, fun v H' y => ?_⟩
    have I3 := gy v H' y
    have hl2 : (T ++ R).length = (Tv ++ Rv).length := by rw [List.length_append, List.length_append, hl, hr]
    refine g2 b σ2 H' ε2 (T ++ R) (Tv ++ Rv) ds[i] v _ _ (by simpa only [List.append_assoc] using I3) hl2 z2 fun ε4 σ4 H4 I4 z4 => ?_
    refine t2 b σ4 H4 ε4 (T ++ R) (Tv ++ Rv) W _ _ I4 z4 ⟨fun σ5 H5 ε5 I5 z5 => ⟨ε5, I5, z5⟩, fun σ5 H5 ε5 d5 v5 I5 z5 => l.rt σ5 H5 ε5 d5 v5 ?_ z5, fun σ5 H5 ε5 I5 z5 => l.nx σ5 H5 ε5 (I5.drop hl) z5, fun σ5 H5 ε5 I5 z5 => ⟨ε5, I5, z5⟩⟩ (x.more hl hr)
    exact SI.midDrops (by simpa only [List.append_assoc] using I5) hl hr
  · left
    have e : i = ds.length := by omega
    subst e
    rw [List.drop_length] at z2
    exact ⟨stop (Nat.le_refl _), l.nx σ2 H2 ε2 (I2.drop hl) z2⟩
theorem wk_lst {K : PySem.W.Frag} {ds : List D} {a : Addr} : Wk K (Itl K a) ds [.lst false ds] [.ref a] := fun b σ H ε T Tv i hl I => by
  obtain ⟨G, F, Ft, J⟩ := id I
  obtain ⟨F1, F2, rfl, r1, r2⟩ := J.temps.split2 hl
  obtain ⟨a', vs, e, s, rfl, r⟩ := RpL.one.mp r2
  cases e
  have s2 := J.sub.sqL s
  refine ⟨fun d hd => ?_, fun h => ⟨vs, s2, by rw [← r.len]; exact h⟩⟩
  obtain ⟨v, hv, rv⟩ := r.get hd
  refine ⟨⟨vs, v, s2, hv⟩, fun x H' y => ?_⟩
  obtain ⟨rfl, y⟩ := y
  have := y vs s2
  rw [hv] at this
  cases this
  have J2 := J.push (rv.mono (H' := H') Sub.refl fun _ z => nomatch z)
  exact ⟨G, F, _, by simpa only [List.append_assoc] using J2⟩
theorem wk_tup {K : PySem.W.Frag} {ds : List D} {a : Addr} (hz : isFzL ds = true) : Wk K (Itt K a) ds [.tup ds] [.ref a] := fun b σ H ε T Tv i hl I => by
  obtain ⟨G, F, Ft, J⟩ := id I
  obtain ⟨F1, F2, rfl, r1, r2⟩ := J.temps.split2 hl
  obtain ⟨a', vs, e, s, r⟩ := RpL.one.mp r2
  cases e
  have := r.fz hz
  subst this
  have s2 : SqT K H a vs := SqT.of (J.sub _ _ s)
  refine ⟨fun d hd => ?_, fun h => ⟨vs, s2, by rw [← r.len]; exact h⟩⟩
  obtain ⟨v, hv, rv⟩ := r.get hd
  refine ⟨⟨vs, v, s2, hv⟩, fun x H' y => ?_⟩
  obtain ⟨rfl, y⟩ := y
  have := y vs s2
  rw [hv] at this
  cases this
  have J2 := J.push (rv.mono (H' := H') Sub.refl fun _ z => nomatch z)
  exact ⟨G, F, _, by simpa only [List.append_assoc] using J2⟩
end
end VL
namespace VL
open PySem PySem.Spec PyProof.Rows L2 VL
section
variable {X : Cv} {tg : Expr}
theorem lenApp {α β : Type} {A B : List α} {C D : List β} (h : A.length = C.length) (k : B.length = D.length) : (A ++ B).length = (C ++ D).length := by
  rw [List.length_append, List.length_append, h, k]
/-- for .. in a list that stands still -/
def viLst (t : VTE) : VTA := fun N ε Q => t N ε fun d ε1 => ∃ ds, d = .lst false ds ∧ Q ds ε1
def viTup (t : VTE) : VTA := fun N ε Q => t N ε fun d ε1 => ∃ ds, d = .tup ds ∧ isFzL ds = true ∧ Q ds ε1
theorem vi_lst {e : Expr} {t : VTE} (h : VE X e t) : VI X tg e (viLst t) := by
  obtain ⟨t', a1, a2⟩ := h.ex
  refine ⟨fun W => iList X.K (t' W), fun W tk => pi_list (a1 W tk), fun b σ H ε T Tv W N Q Q' I q k x => ?_⟩
  refine a2 b σ H ε T Tv W N _ _ I q (fun d v ε1 H1 J z => ?_) x
  obtain ⟨ds, rfl, z⟩ := z
  obtain ⟨G, F, su, r⟩ := J.last I.lenT
  obtain ⟨a, vs, rfl, s, _, _⟩ := r
  exact ⟨a, rfl, ⟨vs, su.sqL s⟩, k ds [.lst false ds] [.ref a] _ ε1 H1 J rfl wk_lst z⟩
theorem vi_tup {e : Expr} {t : VTE} (h : VE X e t) : VI X tg e (viTup t) := by
  obtain ⟨t', a1, a2⟩ := h.ex
  refine ⟨fun W => iTup X.K (t' W), fun W tk => pi_tup (a1 W tk), fun b σ H ε T Tv W N Q Q' I q k x => ?_⟩
  refine a2 b σ H ε T Tv W N _ _ I q (fun d v ε1 H1 J z => ?_) x
  obtain ⟨ds, rfl, hz, z⟩ := z
  obtain ⟨G, F, su, r⟩ := J.last I.lenT
  obtain ⟨a, vs, rfl, s, _⟩ := r
  exact ⟨a, rfl, ⟨vs, SqT.of (su _ _ s)⟩, k ds [.tup ds] [.ref a] _ ε1 H1 J rfl (wk_tup hz) z⟩
/-- lo, lo + 1, .. -/
def rng (lo : Int) (n : Nat) : List D := (List.range n).map fun (i : Nat) => D.int (lo + (i : Int))
theorem rng_get {lo : Int} {n i : Nat} {d : D} (h : (rng lo n)[i]? = some d) : i < n ∧ d = .int (lo + i) := by
  unfold rng at h
  rw [List.getElem?_map] at h
  cases e : (List.range n)[i]? with
  | none => rw [e] at h; cases h
  | some j =>
    rw [e] at h
    have := List.getElem?_eq_some_iff.mp e
    obtain ⟨h1, h2⟩ := this
    rw [List.getElem_range] at h2
    subst h2
    simp at h
    exact ⟨by simpa using h1, h.symm⟩
theorem rng_len (lo : Int) (n : Nat) : (rng lo n).length = n := by simp [rng]
theorem wk_rng {K : PySem.W.Frag} {lo : Int} {n : Nat} : Wk K (Itr lo n) (rng lo n) [] [] := fun b σ H ε T Tv i hl I => by
  refine ⟨fun d hd => ?_, fun h => by rw [rng_len] at h; exact h⟩
  obtain ⟨hi, rfl⟩ := rng_get hd
  refine ⟨hi, fun x H' y => ?_⟩
  obtain ⟨rfl, rfl⟩ := y
  have I2 : SI K b σ H' ε T Tv := by simpa using I
  exact I2.push fun G => ⟨rfl, rfl⟩
def viR1 (t : VTA) : VTA := fun N ε Q => t N ε fun ds ε1 => ∃ j : Int, ds = [.int j] ∧ -(2 ^ 62) ≤ j ∧ j < 2 ^ 62 ∧ Q (rng 0 j.toNat) ε1
def viR2 (t : VTA) : VTA := fun N ε Q => t N ε fun ds ε1 => ∃ i j : Int, ds = [.int i, .int j] ∧ (-(2 ^ 62) ≤ i ∧ i < 2 ^ 62 ∧ -(2 ^ 62) ≤ j ∧ j < 2 ^ 62) ∧ Q (rng i (j - i).toNat) ε1
theorem vi_range1 {a : Expr} {t : VTA} {p pos : Pos} (hg : Gl X.toCx "range") (hm : X.mg "range" = none) (ha : VA X [a] [none] t) (hs : starEach [a] X.env = [(false, eval a X.env)] := by rfl) : VI X tg (.Call (.Name "range" p) [a] [] pos) (viR1 t) := by
  obtain ⟨t', a1, a2⟩ := ha.ex
  refine ⟨fun W => iRng1 (t' W), fun W tk => pi_range1 hg hm (a1 W tk) hs, fun b σ H ε T Tv W N Q Q' I q k x => ?_⟩
  refine a2 b σ H ε T Tv W N _ _ I q (fun ds vs ε1 H1 J l hh z => ?_) x
  obtain ⟨j, rfl, h1, h2, z⟩ := z
  obtain ⟨v, rfl⟩ := List.length_eq_one_iff.mp l.symm
  obtain ⟨G, F, su, rfl, _⟩ := J.last I.lenT
  exact ⟨j, rfl, h1, h2, k _ [] [] _ ε1 H1 (by simpa using J.pop I.lenT) rfl wk_rng z⟩
theorem SI.last2 {K : PySem.W.Frag} {b : Bs} {σ : L2.St} {H : Hp} {ε : Ep} {T : List D} {Tv : List V} {d e : D} {v w : V} (I : SI K b σ H ε (T ++ [d, e]) (Tv ++ [v, w])) (hl : T.length = Tv.length) : ∃ G F1 F2, Sub G H ∧ Rp K G H d v F1 ∧ Rp K G H e w F2 := by
  obtain ⟨G, F, Ft, J⟩ := I
  obtain ⟨F1, F2, rfl, r1, r2⟩ := J.temps.split2 hl
  obtain ⟨v', vs', A, B, e1, rfl, ra, v2, vs2, A2, B2, e2, rfl, rb, _⟩ := r2
  cases e1
  cases e2
  exact ⟨G, A, A2, J.sub, ra, rb⟩
theorem len2 {α : Type} {l : List α} (h : 2 = l.length) : ∃ a b, l = [a, b] := by
  match l, h with
  | [a, b], _ => exact ⟨a, b, rfl⟩
/-- with their places, with one another -/
def enumD (ds : List D) : List D := ds.zipIdx.map fun p => D.tup [.int (p.2 : Nat), p.1]
def zipD (ds es : List D) : List D := (ds.zip es).map fun p => D.tup [p.1, p.2]
theorem enumD_get {ds : List D} {i : Nat} {d : D} (h : (enumD ds)[i]? = some d) : ∃ x, ds[i]? = some x ∧ d = .tup [.int (i : Nat), x] := by
  unfold enumD at h
  rw [List.getElem?_map, List.getElem?_zipIdx] at h
  cases e : ds[i]? with
  | none => rw [e] at h; cases h
  | some x =>
    rw [e] at h
    simp at h
    exact ⟨x, rfl, h.symm⟩
theorem enumD_len (ds : List D) : (enumD ds).length = ds.length := by simp [enumD]
theorem zipD_get {ds es : List D} {i : Nat} {d : D} (h : (zipD ds es)[i]? = some d) : ∃ x y, ds[i]? = some x ∧ es[i]? = some y ∧ d = .tup [x, y] := by
  unfold zipD at h
  rw [List.getElem?_map] at h
  cases e : (ds.zip es)[i]? with
  | none => rw [e] at h; cases h
  | some p =>
    rw [e] at h
    obtain ⟨h1, h2⟩ := List.getElem?_zip_eq_some.mp e
    simp at h
    exact ⟨p.1, p.2, h1, h2, h.symm⟩
theorem zipD_len (ds es : List D) : (zipD ds es).length = min ds.length es.length := by simp [zipD]
/-- a new tuple of things that stand still -/
theorem SI.newTup {K : PySem.W.Frag} {b : Bs} {σ : L2.St} {H : Hp} {ε : Ep} {T : List D} {Tv : List V} {ds : List D} {vs : List V} (I : SI K b σ H ε (T ++ ds) (Tv ++ vs)) (hl : T.length = Tv.length) {p : Addr} (n : H p = none) : SI K b σ (upd H p (.tup vs)) ε (T ++ [.tup ds]) (Tv ++ [.ref p]) := I.tup hl n
theorem wk_enum {K : PySem.W.Frag} {ds : List D} {a : Addr} : Wk K (Ite K a) (enumD ds) [.lst false ds] [.ref a] := fun b σ H ε T Tv i hl I => by
  obtain ⟨G, F, Ft, J⟩ := id I
  obtain ⟨F1, F2, rfl, r1, r2⟩ := J.temps.split2 hl
  obtain ⟨a', vs, e, s, rfl, r⟩ := RpL.one.mp r2
  cases e
  have s2 := J.sub.sqL s
  refine ⟨fun d hd => ?_, fun h => ⟨vs, s2, by rw [← r.len, ← enumD_len]; exact h⟩⟩
  obtain ⟨c, hc, rfl⟩ := enumD_get hd
  obtain ⟨v, hv, rv⟩ := r.get hc
  refine ⟨⟨vs, v, s2, hv⟩, fun x H' y => ?_⟩
  obtain ⟨p, w, rfl, hp, rfl, y⟩ := y
  have := y vs s2
  rw [hv] at this
  cases this
  have J1 := J.push (d := .int (i : Nat)) (v := .int (i : Nat)) ⟨rfl, rfl⟩
  have J2 := J1.push (rv.mono (H' := H) Sub.refl fun _ z => nomatch z)
  have I2 : SI K b σ H ε ((T ++ [.lst false ds]) ++ [.int (i : Nat), c]) ((Tv ++ [.ref a]) ++ [.int (i : Nat), v]) := ⟨G, F, _, by simpa only [List.append_assoc, List.cons_append, List.nil_append] using J2⟩
  have I3 := I2.newTup (lenApp hl rfl) hp
  simpa only [List.append_assoc] using I3
def viEnum (t : VTA) : VTA := fun N ε Q => t N ε fun ds ε1 => ∃ xs, ds = [.lst false xs] ∧ Q (enumD xs) ε1
theorem vi_enum {e : Expr} {t : VTA} {p pos tpos : Pos} {elts : List Expr} {kk : Nat} (hg : Gl X.toCx "enumerate") (hm : X.mg "enumerate" = none) (ha : VA X [e] [none] t) (hs : starEach [e] X.env = [(false, eval e X.env)] := by rfl) : VI X (.Tuple elts kk tpos) (.Call (.Name "enumerate" p) [e] [] pos) (viEnum t) := by
  obtain ⟨t', a1, a2⟩ := ha.ex
  refine ⟨fun W => iEnum X.K (t' W), fun W tk => pi_enum hg hm (a1 W tk) hs, fun b σ H ε T Tv W N Q Q' I q k x => ?_⟩
  refine a2 b σ H ε T Tv W N _ _ I q (fun ds vs ε1 H1 J l hh z => ?_) x
  obtain ⟨xs, rfl, z⟩ := z
  obtain ⟨v, rfl⟩ := List.length_eq_one_iff.mp l.symm
  obtain ⟨G, F, su, r⟩ := J.last I.lenT
  obtain ⟨a, us, rfl, s, _, _⟩ := r
  exact ⟨a, us, rfl, su.sqL s, k _ [.lst false xs] [.ref a] _ ε1 H1 J rfl wk_enum z⟩
def viZip (t : VTA) : VTA := fun N ε Q => t N ε fun ds ε1 => ∃ xs ys, ds = [.lst false xs, .lst false ys] ∧ Q (zipD xs ys) ε1
def viRev (t : VTA) : VTA := fun N ε Q => t N ε fun ds ε1 => ∃ xs, ds = [.lst false xs] ∧ Q xs.reverse ε1
def viStr (t : VTE) : VTA := fun N ε Q => t N ε fun d ε1 => ∃ s : Cs, d = .str s ∧ Q (s.map fun c => D.str [c]) ε1
def vWhile (c : VTT) (t : VTS) : VTS := fun N ε => ∃ J : Nat → Ep → Prop, (∃ m, J m ε) ∧ ∀ m ε, J m ε → c N.rx ε fun k ε1 =>
  if k = true then t { N with nx := fun ε' => ∃ m', m' < m ∧ J m' ε', ct := fun ε' => ∃ m', m' < m ∧ J m' ε', bk := N.nx } ε1 else N.nx ε1
theorem vs_while {c : Expr} {body : List Stmt} {tc : VTT} {t : VTS} {pos : Pos} (hp : PassesOwn (model X.prog X.w) X.A X.env X.xe) (hc : VT X c tc) (hb : VSs X body t) : VS X (.While c body [] pos) (vWhile tc t) := by
  obtain ⟨c', c1, c2⟩ := hc.ex
  obtain ⟨t', t1, t2⟩ := hb.ex
  refine ⟨fun W => tWhile (c' W) (t' W), fun W tk => ps_while hp (c1 W tk) (t1 W tk), fun b σ H ε T Tv W N E I q l x => ?_⟩
  obtain ⟨J, ⟨m0, j0⟩, turn⟩ := q
  refine ⟨fun m σ H => ∃ ε, SI X.K b.1 σ H ε T Tv ∧ J m ε, ⟨m0, ε, I, j0⟩, ?_⟩
  rintro m σ2 H2 ⟨ε2, I2, j2⟩
  refine c2 b σ2 H2 ε2 T Tv W N.rx _ _ I2 (turn m ε2 j2) (fun k ε3 H3 I3 z => ?_) x
  cases k with
  | true =>
    refine ⟨fun σ' H' => ∃ ε', SI X.K b.1 σ' H' ε' T Tv ∧ ∃ m', m' < m ∧ J m' ε', fun σ' H' ⟨ε', I', m', hm, j'⟩ => ⟨m', hm, ε', I', j'⟩, ?_⟩
    exact t2 b σ2 H3 ε3 T Tv W _ _ I3 z ⟨fun σ5 H5 ε5 I5 z5 => ⟨ε5, I5, z5⟩, l.rt, l.nx, fun σ5 H5 ε5 I5 z5 => ⟨ε5, I5, z5⟩⟩ x
  | false => exact l.nx σ2 H3 ε3 I3 z
end
end VL
namespace VL
open PySem PySem.Spec PyProof.Rows L2 VL
/-- a promise over trees: the arguments; what is wanted of the answer and of the arguments behind; of an exception's class and row -/
abbrev VSp := List D → (D → List D → Prop) → (Value → D → List D → Prop) → Prop
/-- the ground of a call -/
def callB (H G : Hp) (F : List Addr) : Bs := { H0 := H, G0 := G, F0 := F, kv := [] }
def Lift (K : PySem.W.Frag) (n : Nat) (vsp : VSp) : Sp := fun vs H Q E => ∃ G F ds, SIx K (callB H G F) G [] F [] H [] ds vs ∧ ds.length = n ∧
  vsp ds (fun r ds' => ∀ v H', SI K (callB H G F) [] H' [] (ds' ++ [r]) (vs ++ [v]) → Q v H')
    (fun cls row ds' => ∀ dd v H', SI K (callB H G F) [] H' [] (ds' ++ [row]) (vs ++ [v]) → H' dd = some (.xd [("row", v)]) → (dd ∈ F ∨ H dd = none) → E (clsV K cls) (some dd) H')
theorem Lift.len {K : PySem.W.Frag} {n : Nat} {vsp : VSp} {vs : List V} {H : Hp} {Q : VK} {E : XK} (h : Lift K n vsp vs H Q E) : vs.length = n := by
  obtain ⟨G, F, ds, I, l, _⟩ := h
  rw [← I.lenT, l]
section
variable {K : PySem.W.Frag} {b : Bs} {σ : L2.St} {H H' : Hp} {ε : Ep} {T : List D} {Tv : List V}
/-- what a callee is handed -/
theorem SI.enter {ds : List D} {vs : List V} (I : SI K b σ H ε (T ++ ds) (Tv ++ vs)) (hl : T.length = Tv.length) : ∃ G F, SIx K (callB H G F) G [] F [] H [] ds vs ∧
    (∀ H' (R : List D) (Rv : List V), SI K (callB H G F) [] H' [] R Rv → SI K b σ H' ε (T ++ R) (Tv ++ Rv)) ∧ ∀ a, (a ∈ F ∨ H a = none) → (a ∈ b.F0 ∨ b.H0 a = none) := by
  obtain ⟨G, F, Ft, J⟩ := I
  obtain ⟨F1, F2, rfl, r1, r2⟩ := J.temps.split2 hl
  have i2 : ∀ a ∈ F2, a ∈ F ++ (F1 ++ F2) := fun a z => List.mem_append_right _ (List.mem_append_right _ z)
  have nd := J.nd
  rw [← List.append_assoc] at nd
  obtain ⟨nd1, nd2, dj⟩ := List.nodup_append.mp nd
  refine ⟨G, F2, ⟨Sub.refl, J.sub, ⟨rfl, rfl⟩, r2, by simpa using nd2, fun a z => J.fr a (i2 a (by simpa using z)), fun a z => .inl (show a ∈ F2 by simpa using z), fun a o e => .inl e, fun a o e _ => e, fun j v e => by simp [callB] at e⟩, ?_, fun a z => z.elim (fun z => J.own a (i2 a z)) fun z => J.h0 z⟩
  rintro H' R Rv ⟨G', Fs, F', J'⟩
  obtain ⟨_, rfl⟩ := J'.slots
  have out : ∀ a ∈ F ++ F1, a ∉ F2 ∧ ∃ o, H a = some o := fun a z => by
    refine ⟨fun h => dj a z a h rfl, ?_⟩
    rcases List.mem_append.mp z with z | z
    · obtain ⟨o, e, _⟩ := J.slots.there a z
      exact ⟨o, e⟩
    · obtain ⟨o, e, _⟩ := r1.there a z
      exact ⟨o, e⟩
  have kp : ∀ a ∈ F ++ F1, H' a = H a := fun a z => by
    obtain ⟨n, o, e⟩ := out a z
    rw [e]
    exact J'.keep a o e n
  have own' : ∀ a ∈ F', a ∈ F2 ∨ H a = none := fun a z => J'.own a (by simpa using z)
  refine ⟨G', F, F1 ++ F', J.s0.trans J'.s0, J'.sub, J.slots.mono J'.s0 fun a z => kp a (List.mem_append_left _ z), (r1.mono J'.s0 fun a z => kp a (List.mem_append_right _ z)).append J'.temps, ?_, ?_, ?_, ?_, ?_, J.kept⟩
  · rw [← List.append_assoc]
    refine List.nodup_append.mpr ⟨nd1, by simpa using J'.nd, fun a z c hc e => ?_⟩
    subst e
    obtain ⟨n, o, e⟩ := out a z
    rcases own' a hc with h | h
    · exact n h
    · rw [e] at h; cases h
  · intro a z
    rw [← List.append_assoc] at z
    rcases List.mem_append.mp z with z | z
    · obtain ⟨n, o, e⟩ := out a z
      cases q : G' a with
      | none => rfl
      | some u =>
        rcases J'.gn a u q with h | h | h | ⟨vs, h⟩
        · have := J.fr a (by rw [← List.append_assoc]; exact List.mem_append_left _ z)
          rw [show G a = some u from h] at this
          cases this
        · exact absurd h n
        · rw [show H a = none from h] at e; cases e
        · subst h
          have h1 := J'.sub a _ q
          rw [kp a z] at h1
          have h2 : ∃ o, H a = some o ∧ Mut (some o) := by
            rcases List.mem_append.mp z with z | z
            · exact J.slots.there a z
            · exact r1.there a z
          obtain ⟨o2, e2, m2⟩ := h2
          rw [h1] at e2
          cases e2
          exact m2.elim
    · exact J'.fr a (by simpa using z)
  · intro a z
    rw [← List.append_assoc] at z
    rcases List.mem_append.mp z with z | z
    · exact J.own a (by rw [← List.append_assoc]; exact List.mem_append_left _ z)
    · rcases own' a z with h | h
      · exact J.own a (i2 a h)
      · cases e : b.H0 a with
        | none => exact .inr rfl
        | some o =>
          by_cases h0 : a ∈ b.F0
          · exact .inl h0
          · rw [J.keep a o e h0] at h; cases h
  · intro a o e
    rcases J'.gn a o e with h | h | h | h
    · exact J.gn a o h
    · exact .inr (inl3 (J.own a (i2 a h)))
    · right
      cases e : b.H0 a with
      | none => exact .inr (.inl rfl)
      | some o =>
        by_cases h0 : a ∈ b.F0
        · exact .inl h0
        · have z := J.keep a o e h0
          rw [show H a = none from h] at z; cases z
    · exact .inr (.inr (.inr h))
  · intro a o e n
    refine J'.keep a o (J.keep a o e n) fun h => ?_
    rcases J.own a (i2 a h) with q | q
    · exact n q
    · rw [e] at q; cases q
end
/-- room for n calls within one another, and for the library's own small things -/
structure Room (n : Nat) (W : Around) : Prop where
  hd : W.handled = none
  dp : W.depth + (n + 300) < recursionLimit
  un : W.units + (4 * n + 1700) < cLine
section
variable {m n : Nat} {W : Around}
theorem Room.mono (q : Room n W) (le : m ≤ n) : Room m W := { hd := q.hd, dp := by have z := q.dp; omega, un := by have z := q.un; omega }
/-- one call deeper -/
theorem Room.step (q : Room (n + 1) W) {V : Around} (h : V.handled = W.handled) (d : V.depth ≤ W.depth + 1) (u : V.units ≤ W.units + 3) : Room n V := { hd := h.trans q.hd, dp := by have z := q.dp; omega, un := by have z := q.un; omega }
theorem Room.deeper (q : Room (n + 1) W) (env : Env) : Room n (W.deeper env) := q.step rfl (Nat.le_refl _) (Nat.le_refl _)
theorem Room.depth (q : Room n W) : W.depth < recursionLimit := Nat.lt_of_le_of_lt (Nat.le_add_right _ _) q.dp
theorem Room.units (q : Room n W) : W.units + 64 < cLine := by have z := q.un; omega
theorem Room.of (q : L2.Room m W) (h : n + 300 ≤ 3 * m) : Room n W := ⟨q.hd, by have z := q.dp; omega, by have z := q.un; omega⟩
end
section
variable {P : Program} {w : World} {K : PySem.W.Frag} {mg : Str → Option Value} {base : Heap} {CX : CXT} {f : Addr} {fd : FuncData} {ps : List Str} {sp : Sp}
/-- the promise of a def, for calls that stand at W -/
def KeepsAt (P : Program) (w : World) (K : PySem.W.Frag) (mg : Str → Option Value) (base : Heap) (CX : CXT) (W : Around) (f : Addr) (fd : FuncData) (ps : List Str) (sp : Sp) : Prop :=
  ∀ (o : List Env) (s : Shared) (H : Hp) (a : Args) (us : List Value) (vs : List V) (Q : VK) (E : XK), Env0 P w K mg base W o s H → BindsTo s fd a (ps.zip us) → Vals vs us → sp vs H Q E → codeAny (model P w) W (.call (.ref f) a) (CR CX o P w H s Q E) s
/-- .. wherever there is room for n calls -/
structure FnOk (P : Program) (w : World) (K : PySem.W.Frag) (mg : Str → Option Value) (base : Heap) (CX : CXT) (n : Nat) (f : Addr) (fd : FuncData) (ps : List Str) (sp : Sp) : Prop where
  len : ∀ {vs H Q E}, sp vs H Q E → vs.length = ps.length
  keeps : ∀ {W}, Room n W → KeepsAt P w K mg base CX W f fd ps sp
theorem FnOk.mono {m n : Nat} (F : FnOk P w K mg base CX m f fd ps sp) (le : m ≤ n) : FnOk P w K mg base CX n f fd ps sp := ⟨F.len, fun q => F.keeps (q.mono le)⟩
/-- as the library's -/
theorem FnOk.lib {m n : Nat} (F : FnOk P w K mg base CX n f fd ps sp) (h : n + 300 ≤ 3 * m) : L2.FnOk P w K mg base CX m f fd ps sp :=
  ⟨fun _ _ _ _ z => F.len z, fun _ o s H a us vs Q E q => F.keeps (.of q h) o s H a us vs Q E⟩
end
section
variable {X : Cx} {CX : CXT} {pins : List (Addr × Obj)} {σ : L2.St} {H : Hp} {s s' : Shared} {Q : VK}
/-- how a call ends, for who asked -/
def Asked (X : Cx) (pins : List (Addr × Obj)) (σ : L2.St) (Q : VK) : Result → Shared → Prop
  | .ok (.ret u), z => EP X pins σ Q u z
  | .error e, z => X.xe e z
  | _, _ => False
theorem asked {E : XK} {r : Result} (I : Inv X pins σ H s) (hx : ∀ e z, CX X.stack H s E e z → X.xe e z) (q : CR CX X.stack X.prog X.w H s Q E r s') : Asked X pins σ Q r s' := by
  match r, q with
  | .error e, q => exact hx e s' q
  | .ok (.ret u), q => exact I.after q
/-- a callee's code, called -/
theorem call_asked {g : Addr} {us : List Value} (h : codeAny (model X.prog X.w) X.A (.call (.ref g) ⟨us, []⟩) (Asked X pins σ Q) s) : wpAny (model X.prog X.w) X.A (call (.ref g) us) (EP X pins σ Q) X.xe s :=
  wpAny_call (codeAny_mono h fun r z q => match r, q with
    | .error _, q => q
    | .ok (.ret _), q => q)
/-- a call by a global name of what stands at g, when its values are known to be taken as R says -/
theorem pe_named {R : L2.St → List V → Hp → VK → Prop} {g : Addr} {x : Str} {p pos : Pos} {e : Expr} {es : List Expr} {t : TA} (gl : Gl X x) (is : X.mg x = some (.ref g)) (kept : PySem.W.keepIn X.K (.ref g) = true) (args : PA X (e :: es) t)
    (runs : ∀ (pins : List (Addr × Obj)) (σ : L2.St) (H : Hp) (s : Shared) (Q : VK) (us : List Value) (vs : List V), Inv X pins σ H s → Vals vs us → R σ vs H Q → wpAny (model X.prog X.w) X.A (call (.ref g) us) (EP X pins σ Q) X.xe s)
    (nd : (x == ("__debug__" : Str)) = false) (ns : starEach (e :: es) X.env = (false, eval e X.env) :: starEach es X.env) (np : (backTo pos (starEach es X.env)).any (·.1) = false) :
    PE X (.Call (.Name x p) (e :: es) [] pos) fun σ H Q => t σ H fun vs H1 => R σ vs H1 Q :=
  ⟨fun pins s σ H Q I z => wpAny_Call_Name_kw (ld_glob I gl is
    (PySem.W.callWith_K (h₀ := X.base) I.ok.mod.kin kept (thn (args.run pos pins s σ H _ I z) fun us s1 ⟨vs, H1, J, rv, q⟩ => ⟨J.kIn, runs pins σ H1 s1 Q us vs J rv q⟩) ns np) nd)⟩
end
section
variable {X : Cx} {CX : CXT} {k : Nat} {f C : Addr} {fd : FuncData} {ps : List Str} {sp : Sp} {dvs : List V} {ds : List Value} {E : L2.St → XK} {x : Str} {p pos : Pos} {e : Expr} {es : List Expr} {t : TA}
/-- a def, called with values; dvs: its defaults -/
theorem run_fnSD {pins : List (Addr × Obj)} {σ : L2.St} {H : Hp} {s : Shared} {Q : VK} {us : List Value} {vs : List V} (F : FnOk X.prog X.w X.K X.mg X.base CX k f fd ps sp) (room : Room k X.A) (hb : Binds X.K fd ps ds) (hd : Vals dvs ds) (hx : PassesAt CX X σ (E σ))
    (I : Inv X pins σ H s) (rv : Vals vs us) (q : sp (vs ++ dvs) H Q (E σ)) : wpAny (model X.prog X.w) X.A (call (.ref f) us) (EP X pins σ Q) X.xe s := by
  have all : Vals (vs ++ dvs) (us ++ ds) := rv.append hd
  refine call_asked (codeAny_mono (F.keeps room X.stack s H ⟨us, []⟩ (us ++ ds) (vs ++ dvs) Q (E σ) I.env0 (hb s us I.kIn (all.length.symm.trans (F.len q))) all q) fun r z c => ?_)
  exact asked I (fun e z => hx pins H s e z I) c
theorem run_fnS {pins : List (Addr × Obj)} {σ : L2.St} {H : Hp} {s : Shared} {Q : VK} {us : List Value} {vs : List V} (F : FnOk X.prog X.w X.K X.mg X.base CX k f fd ps sp) (room : Room k X.A) (hb : Binds X.K fd ps []) (hx : PassesAt CX X σ (E σ))
    (I : Inv X pins σ H s) (rv : Vals vs us) (q : sp vs H Q (E σ)) : wpAny (model X.prog X.w) X.A (call (.ref f) us) (EP X pins σ Q) X.xe s :=
  run_fnSD (dvs := []) F room hb .nil hx I rv (by simpa using q)
theorem pe_callS (F : FnOk X.prog X.w X.K X.mg X.base CX k f fd ps sp) (room : Room k X.A) (gl : Gl X x) (is : X.mg x = some (.ref f)) (kept : PySem.W.keepIn X.K (.ref f) = true) (hb : Binds X.K fd ps []) (hx : ∀ σ, PassesAt CX X σ (E σ))
    (args : PA X (e :: es) t) (nd : (x == ("__debug__" : Str)) = false) (ns : starEach (e :: es) X.env = (false, eval e X.env) :: starEach es X.env) (np : (backTo pos (starEach es X.env)).any (·.1) = false) : PE X (.Call (.Name x p) (e :: es) [] pos) (tCallS sp E t) :=
  pe_named (R := fun σ vs H Q => sp vs H Q (E σ)) gl is kept args (fun _ σ _ _ _ _ _ I rv q => run_fnS F room hb (hx σ) I rv q) nd ns np
end
/-- a def keeps what its body's reading wishes -/
theorem fnD_ok {P : Program} {w : World} {K : PySem.W.Frag} {mg : Str → Option Value} {base : Heap} {CX : CXT} {x qual : Str} {pa : Arguments} {body : List Stmt} {sc : Scope} {dvs : List V} {kws : List (Str × V)} {f : Addr} {fd : FuncData} {N ps : List Str} {n : Nat} {sp : Sp}
    (F : FunD K x qual pa body sc dvs kws f fd) (S : FnScope N ps sc) (len : ∀ {vs H Q E}, sp vs H Q E → vs.length = ps.length)
    (reads : ∀ (cdv : Value) (W : Around) (o : List Env) (s : Shared) (H : Hp) (vs : List V) (Q : VK) (E : XK), Room n (W.deeper (envOfC qual sc s.heap.objs.size f cdv)) → sp vs H Q E →
      ∃ t, PSs (cxOf CX P w K mg base N qual sc f cdv W o s H E) body t ∧ t { nx := fun _ H2 => Q .non H2, rt := Q } (start N vs) H) : FnOk P w K mg base CX (n + 1) f fd ps sp := by
  obtain ⟨oc, od, dV, kV, doc, pm, an, cdv, ct, osl, rfl, at1, code, _⟩ := F.ex
  refine { len := len, keeps := fun {W} room o s H a us vs Q E e0 to rv q => ?_ }
  have old := fun b ob z => (e0.bs b ob z).1
  have inK := e0.mod.kin.keeps old
  refine codeAny_call_function room.depth (inK _ _ at1) rfl S.co S.gen rfl (PySem.W.codeRec_of inK code) (to _ _ _ _ (wpAny_newFunctionEnv_cells S.kind (fun y hy => ?_) fun env is s1 ent => ?_))
  · exact (S.par y.1 (List.of_mem_zip (a := y.1) (b := y.2) hy).1).imp id fun c => ⟨c, PySem.W.cellsFrom_some _ _ _ (.inl c)⟩
  · subst is
    obtain ⟨t, rd, wish⟩ := reads cdv W o s H vs Q E (room.deeper _) q
    refine ⟨(e0.mod.nolimit.keeps old).keeps ent.toInCall.keep, codeAny_func (wpAny_mono (rd.run [] s1 (start N vs) H _ (inv_start S room.hd e0 (len q) rv ent) wish) (fun fl z c => ?_) fun _ _ c => c)⟩
    match fl, c with
    | .ret u, ⟨v, _, H2, J, ru, q2⟩ => exact ⟨v, H2, J.os, J.bare, J.base, J.hok, ru, q2⟩
    | .next, ⟨_, H2, J, q2⟩ => exact ⟨.non, H2, J.os, J.bare, J.base, J.hok, rfl, q2⟩
    | .brk, ⟨_, _, _, q2⟩ => exact q2.elim
    | .cont, ⟨_, _, _, q2⟩ => exact q2.elim
/-- a def that keeps a promise over trees: its name, its level, how many parameters it has, the defaults that fill up -/
structure Fv (P : Program) (w : World) (K : PySem.W.Frag) (mg : Str → Option Value) (base : Heap) (x : Str) (k n : Nat) (vsp : VSp) : Prop where
  ex : ∃ f fd ps, mg x = some (.ref f) ∧ PySem.W.keepIn K (.ref f) = true ∧ Binds K fd ps [] ∧ FnOk P w K mg base (VL.CX P w) k f fd ps (Lift K n vsp)
theorem Fv.mono {P w K mg base x j k n vsp} (F : Fv P w K mg base x j n vsp) (h : j ≤ k) : Fv P w K mg base x k n vsp := let ⟨f, fd, ps, a, b, c, d⟩ := F.ex; ⟨f, fd, ps, a, b, c, d.mono h⟩
section
variable {X : Cv}
def vCall (vsp : VSp) (rs : List (Option Nat)) (t : VTA) : VTE := fun N ε Q => t N ε fun ds ε1 => vsp ds (fun r ds' => ds'.length = ds.length ∧ Q r (restore rs ds' ε1)) (fun cls row ds' => ds'.length = ds.length ∧ N cls row (restore rs ds' ε1))
theorem call_run {P : VSp} {n : Nat} {b : Bx X} {σ : L2.St} {H : Hp} {ε : Ep} {T : List D} {Tv : List V} {ds : List D} {vs : List V} {rs : List (Option Nat)} {W : WX} {N : WV} {Q : D → Ep → Prop} {Q' : VK}
    (hl : T.length = Tv.length) (hd : ds.length = vs.length) (hn : ds.length = n) (I : SI X.K b.1 σ H ε (T ++ ds) (Tv ++ vs)) (hh : Held σ rs vs)
    (q : P ds (fun r ds' => ds'.length = ds.length ∧ Q r (restore rs ds' ε)) (fun cls row ds' => ds'.length = ds.length ∧ N cls row (restore rs ds' ε)))
    (mono : ∀ (A A' : D → List D → Prop) (B B' : Value → D → List D → Prop), (∀ r l, A r l → A' r l) → (∀ c r l, B c r l → B' c r l) → P ds A B → P ds A' B')
    (k : ∀ d v ε' H', SI X.K b.1 σ H' ε' (T ++ [d]) (Tv ++ [v]) → Q d ε' → Q' v H') (x : XL X.K b.1 T Tv W N) : Lift X.K n P vs H Q' (fun cls d H' => W cls d σ H') := by
  obtain ⟨G, F, J, out, fr⟩ := I.enter hl
  refine ⟨G, F, ds, J, hn, mono _ _ _ _ (fun r ds' z v H' I' => ?_) (fun cls row ds' z dd v H' I' e n => ?_) q⟩
  · have I2 := out H' _ _ I'
    exact k r v _ H' (SI.restore hl hh (z.1.trans hd) I2) z.2
  · have I2 := out H' _ _ I'
    exact x cls dd σ H' _ row v (SI.restore hl hh (z.1.trans hd) I2) e (fr dd n) z.2
/-- a promise that asks no more of more -/
def Mono (vsp : VSp) : Prop := ∀ (ds : List D) (A A' : D → List D → Prop) (B B' : Value → D → List D → Prop), (∀ r l, A r l → A' r l) → (∀ c r l, B c r l → B' c r l) → vsp ds A B → vsp ds A' B'
theorem ve_call {x : Str} {p pos : Pos} {e : Expr} {es : List Expr} {rs : List (Option Nat)} {t : VTA} {k n : Nat} {vsp : VSp} (F : Fv X.prog X.w X.K X.mg X.base x k n vsp) (m : Mono vsp) (hr : Room k X.A) (hg : Gl X.toCx x) (hn : (e :: es).length = n) (ha : VA X (e :: es) rs t)
    (hrs : rs.length = (e :: es).length := by rfl) (hdb : (x == ("__debug__" : Str)) = false := by decide) (he : starEach (e :: es) X.env = (false, eval e X.env) :: starEach es X.env := by rfl) (hpl : (backTo pos (starEach es X.env)).any (·.1) = false := by rfl) :
    VE X (.Call (.Name x p) (e :: es) [] pos) (vCall vsp rs t) := by
  obtain ⟨f, fd, ps, hm, hk, hb, F⟩ := F.ex
  obtain ⟨t', a1, a2⟩ := ha.ex
  refine ⟨fun W => tCallS (Lift X.K n vsp) (WE W) (t' W), fun W tk => pe_callS F hr hg hm hk hb (fun σ => passAt tk σ) (a1 W tk) hdb he hpl, fun b σ H ε T Tv W N Q Q' I q kk x => ?_⟩
  refine a2 b σ H ε T Tv W N _ _ I q (fun ds vs ε1 H1 J l hd z => ?_) x
  exact call_run I.lenT l (by rw [l, ← hd.len, hrs, hn]) J hd z (m ds) kk x
end
/-- the slots at the entry -/
def startE (N : Nat) (ds : List D) : Ep := ds.map some ++ List.replicate (N - ds.length) none
/-- the arguments behind: those whose slots are kept, as they are; the others, where nothing of them was ours -/
def finalL : List Bool → List D → Ep → List D
  | true :: κ, _ :: ds, od :: ε => (match od with | some d => d | none => .hole) :: finalL κ ds ε
  | false :: κ, d :: ds, _ :: ε => (if isFz d = true then d else .hole) :: finalL κ ds ε
  | [], d :: ds, _ :: ε => (if isFz d = true then d else .hole) :: finalL [] ds ε
  | _, _, _ => []
def keptV : List Bool → List V → List (Option V)
  | true :: κ, v :: vs => some v :: keptV κ vs
  | false :: κ, _ :: vs => none :: keptV κ vs
  | _, _ => []
theorem keptV_get : ∀ {κ : List Bool} {vs : List V} {i : Nat} {u : V}, (keptV κ vs)[i]? = some (some u) → κ[i]? = some true ∧ vs[i]? = some u
  | true :: κ, v :: vs, 0, u, h => by simp [keptV] at h; simp [h]
  | true :: κ, v :: vs, i + 1, u, h => by simpa using keptV_get (κ := κ) (vs := vs) (i := i) (u := u) (by simpa [keptV] using h)
  | false :: κ, v :: vs, 0, u, h => by simp [keptV] at h
  | false :: κ, v :: vs, i + 1, u, h => by simpa using keptV_get (κ := κ) (vs := vs) (i := i) (u := u) (by simpa [keptV] using h)
  | [], _, i, u, h => by simp [keptV] at h
  | true :: _, [], i, u, h => by simp [keptV] at h
  | false :: _, [], i, u, h => by simp [keptV] at h
section
variable {K : PySem.W.Frag} {G G' H H' : Hp}
theorem RpS.start : ∀ {ds : List D} {vs : List V} {F : List Addr} (m : Nat), RpL K G H ds vs F → RpS K G H (ds.map some ++ List.replicate m none) (vs.map some ++ List.replicate m none) F
  | [], vs, F, m, h => by
    obtain ⟨rfl, rfl⟩ := h
    simp only [List.map_nil, List.nil_append]
    induction m with
    | zero => exact ⟨rfl, rfl⟩
    | succ m ih => exact ⟨none, List.replicate m none, [], [], rfl, rfl, rfl, ih⟩
  | d :: ds, vs, F, m, h => by
    obtain ⟨v, vs', F1, F2, rfl, rfl, r, rs⟩ := h
    exact ⟨some v, vs'.map some ++ List.replicate m none, F1, F2, rfl, rfl, ⟨v, rfl, r⟩, RpS.start m rs⟩
/-- what is left of the arguments: a part of what the slots hold -/
theorem final_rp : ∀ {κ : List Bool} {ds : List D} {vs : List V} {F0 : List Addr} {ε : Ep} {σ : L2.St} {F : List Addr}, RpL K G H ds vs F0 → Sub G G' → RpS K G' H' ε σ F → vs.length ≤ ε.length →
    (∀ (j : Nat) v, (keptV κ vs)[j]? = some (some v) → σ[j]? = some (some v)) → ∃ F', RpL K G' H' (finalL κ ds ε) vs F' ∧ F'.Sublist F
  | κ, [], vs, F0, ε, σ, F, h, _, _, _, _ => by
    obtain ⟨rfl, rfl⟩ := h
    refine ⟨[], ?_, List.nil_sublist _⟩
    have : finalL κ [] ε = [] := by
      cases κ with
      | nil => rfl
      | cons c κ => cases c <;> rfl
    rw [this]
    exact ⟨rfl, rfl⟩
  | κ, d :: ds, vs, F0, [], σ, F, h, _, _, hl, _ => by
    obtain ⟨v, vs', F1, F2, rfl, rfl, r, rs⟩ := h
    simp at hl
  | κ, d :: ds, vs, F0, od :: ε, σ, F, h, hs, hS, hl, hk => by
    obtain ⟨v, vs', F1, F2, rfl, rfl, r, rs⟩ := h
    obtain ⟨ov, σ', A, B, rfl, rfl, ro, rS⟩ := hS
    have other : ∀ κ', (∀ (j : Nat) v, (keptV κ' vs')[j]? = some (some v) → σ'[j]? = some (some v)) → ∃ F', RpL K G' H' ((if isFz d = true then d else .hole) :: finalL κ' ds ε) (v :: vs') F' ∧ F'.Sublist (A ++ B) := fun κ' hk' => by
      obtain ⟨F', q, sl⟩ := final_rp (κ := κ') rs hs rS (by simpa using hl) hk'
      have rd : Rp K G' H' (if isFz d = true then d else .hole) v [] := by
        split
        · rename_i z
          have := r.fz z
          subst this
          exact r.mono hs fun _ z => nomatch z
        · exact rfl
      exact ⟨F', ⟨v, vs', [], F', rfl, rfl, rd, q⟩, sl.trans (List.sublist_append_right _ _)⟩
    cases κ with
    | nil => exact other [] fun j u e => by simp [keptV] at e
    | cons c κ =>
      cases c with
      | false => exact other κ fun j u e => by simpa using hk (j + 1) u (by simpa [keptV] using e)
      | true =>
        have h0 := hk 0 v (by simp [keptV])
        simp at h0
        subst h0
        obtain ⟨F', q, sl⟩ := final_rp (κ := κ) rs hs rS (by simpa using hl) fun j u e => by simpa using hk (j + 1) u (by simpa [keptV] using e)
        cases od with
        | none => exact ⟨F', ⟨v, vs', [], F', rfl, rfl, rfl, q⟩, sl.trans (List.sublist_append_right _ _)⟩
        | some d' =>
          obtain ⟨v', e', rd⟩ := ro
          cases e'
          exact ⟨A ++ F', ⟨v, vs', A, F', rfl, rfl, rd, q⟩, (List.Sublist.refl A).append sl⟩
end
/-- a body's end: the answer is held, the slots go -/
theorem SI.leave {K : PySem.W.Frag} {H G : Hp} {F : List Addr} {ds : List D} {vs : List V} {κ : List Bool} {σ : L2.St} {H' : Hp} {ε : Ep} {r : D} {v : V} (J : SIx K (callB H G F) G [] F [] H [] ds vs)
    (I : SI K { callB H G F with kv := keptV κ vs } σ H' ε [r] [v]) (hl : ds.length ≤ ε.length) : SI K (callB H G F) [] H' [] (finalL κ ds ε ++ [r]) (vs ++ [v]) := by
  obtain ⟨G', Fs, Ft, I⟩ := I
  obtain ⟨F', q, sl⟩ := final_rp (κ := κ) J.temps I.s0 I.slots (by rw [← J.lenT]; exact hl) I.kept
  have sb : (F' ++ Ft).Sublist (Fs ++ Ft) := sl.append (List.Sublist.refl _)
  exact ⟨G', [], F' ++ Ft, I.s0, I.sub, ⟨rfl, rfl⟩, q.append I.temps, by simpa using I.nd.sublist sb, fun a z => I.fr a (sb.subset (by simpa using z)), fun a z => I.own a (sb.subset (by simpa using z)), I.gn, I.keep, fun j u e => by simp [callB] at e⟩
section
variable {P : Program} {w : World} {K : PySem.W.Frag} {mg : Str → Option Value} {base : Heap} {x qual : Str} {params : Arguments} {body : List Stmt} {scope : Scope} {dvs : List V} {kws : List (Str × V)} {f : Addr} {fd : FuncData}
/-- the context of a def's body -/
abbrev bodyX (P : Program) (w : World) (K : PySem.W.Frag) (mg : Str → Option Value) (base : Heap) (N : List Str) (κ : List Bool) (qual : Str) (scope : Scope) (f : Addr) (cdv : Value) (A : Around) (outer : List Env) (s : Shared) (H : Hp) (E : XK) : Cv :=
  { cxOf (VL.CX P w) P w K mg base N qual scope f cdv A outer s H E with κ := κ }
/-- THE RULE: a def's body over trees -/
theorem fn_ok {N ps : List Str} {κ : List Bool} {k n : Nat} {vsp : VSp} {t : VTS} (F : FunD K x qual params body scope dvs kws f fd) (S : FnScope N ps scope) (hn : ps.length = n) (hN : n ≤ N.length)
    (hbody : ∀ (cdv : Value) (A : Around) (outer : List Env) (s : Shared) (H : Hp) (E : XK), Room k (A.deeper (envOfC qual scope s.heap.objs.size f cdv)) → VSs (bodyX P w K mg base N κ qual scope f cdv A outer s H E) body t)
    (hm : Mono vsp)
    (hsp : ∀ ds Q Ex, ds.length = n → vsp ds Q Ex → t { nx := fun ε => n ≤ ε.length ∧ Q .non (finalL κ ds ε), rt := fun r ε => n ≤ ε.length ∧ Q r (finalL κ ds ε), rx := fun cls row ε => n ≤ ε.length ∧ Ex cls row (finalL κ ds ε) } (startE N.length ds)) :
    FnOk P w K mg base (VL.CX P w) (k + 1) f fd ps (Lift K n vsp) := by
  refine fnD_ok F S (fun h => by rw [h.len, hn]) fun cdv A outer s H vs Q E hr h => ?_
  obtain ⟨G, F0, ds, J, l, q⟩ := h
  obtain ⟨t', h1, h2⟩ := (hbody cdv A outer s H E hr).ex
  refine ⟨t' (fun cls d _ H => E cls d H), h1 _ (takes_of rfl rfl rfl rfl), ?_⟩
  have hv : vs.length = n := by rw [← J.lenT, l]
  have I0 : SI K { callB H G F0 with kv := keptV κ vs } (L2.start N vs) H (startE N.length ds) [] [] := by
    have hs : RpS K G H (startE N.length ds) (L2.start N vs) F0 := by
      unfold startE L2.start
      rw [J.lenT]
      exact RpS.start _ J.temps
    refine ⟨G, F0, [], Sub.refl, J.sub, hs, ⟨rfl, rfl⟩, by simpa using J.nd, fun a z => J.fr a (by simpa using z), fun a z => J.own a (by simpa using z), J.gn, J.keep, fun j v e => ?_⟩
    obtain ⟨_, e2⟩ := keptV_get e
    unfold L2.start
    have hj := (List.getElem?_eq_some_iff.mp e2).1
    rw [List.getElem?_append_left (by simpa using hj), List.getElem?_map, e2]
    rfl
  refine h2 ⟨_, fun i u e => (keptV_get e).1⟩ _ H _ [] [] _ _ _ I0 (hsp ds _ _ l q) ⟨fun σ H1 ε J1 z => ?_, fun σ H1 ε d v J1 z => ?_, fun _ _ _ _ z => z.elim, fun _ _ _ _ z => z.elim⟩ fun cls dd σ H1 ε row v J1 e n z => ?_
  · exact z.2 _ H1 (SI.leave J (J1.push (d := .non) (v := .non) fun _ => ⟨rfl, rfl⟩) (by rw [l]; exact z.1))
  · exact z.2 v H1 (SI.leave J J1 (by rw [l]; exact z.1))
  · exact z.2 dd v H1 (SI.leave J J1 (by rw [l]; exact z.1)) e n
end
end VL
namespace VL
open PySem PySem.Spec PyProof.Rows L2 VL
mutual
def pd : D → PyData
  | .hole => .none
  | .val _ => .none
  | .non => .none
  | .bl b => .bool b
  | .int i => .int i
  | .str s => .str (toS s)
  | .ty _ => .none
  | .tup xs => .tuple (pdL xs)
  | .lst _ xs => .list (pdL xs)
  | .dK _ _ _ => .none
  | .dT _ _ _ => .none
  | .ins _ _ _ _ => .none
  | .pin _ _ => .none
  | .exn _ _ _ _ => .none
def pdL : List D → List PyData
  | [] => []
  | d :: ds => pd d :: pdL ds
end
mutual
/-- plain data, whose texts have good codes, nested to depth n at most -/
def okD : Nat → D → Bool
  | _, .non => true
  | _, .bl _ => true
  | _, .int _ => true
  | _, .str s => s.all fun c => decide (c < 1114112)
  | n + 1, .tup xs => okDL n xs
  | n + 1, .lst _ xs => okDL n xs
  | _, _ => false
def okDL : Nat → List D → Bool
  | _, [] => true
  | n, d :: ds => okD n d && okDL n ds
end
theorem okDL_all : ∀ (n : Nat) (ds : List D), okDL n ds = ds.all (okD n)
  | _, [] => by rw [okDL]; rfl
  | n, d :: ds => by rw [okDL, okDL_all n ds, List.all_cons]
mutual
theorem okD_shape : ∀ {n : Nat} {d : D}, okD n d = true → (pd d).canLay0 = true ∧ (pd d).depth ≤ n
  | n, .non, h => ⟨rfl, Nat.zero_le _⟩
  | n, .bl b, h => ⟨rfl, Nat.zero_le _⟩
  | n, .int i, h => ⟨rfl, Nat.zero_le _⟩
  | n, .str s, h => by
    refine ⟨?_, Nat.zero_le _⟩
    have h2 : (s.all fun c => decide (c < 1114112)) = true := by simpa [okD] using h
    show ((toS s).cps.all fun c => decide (c < 0x110000)) = true
    unfold toS
    simpa using h2
  | n + 1, .tup xs, h => by
    obtain ⟨h1, h2⟩ := okDL_shape (n := n) (ds := xs) (by simpa [okD] using h)
    exact ⟨h1, Nat.succ_le_succ h2⟩
  | n + 1, .lst m xs, h => by
    obtain ⟨h1, h2⟩ := okDL_shape (n := n) (ds := xs) (by simpa [okD] using h)
    exact ⟨h1, Nat.succ_le_succ h2⟩
  | 0, .tup xs, h => by simp [okD] at h
  | 0, .lst m xs, h => by simp [okD] at h
  | n, .hole, h => by simp [okD] at h
  | n, .val _, h => by simp [okD] at h
  | n, .ty _, h => by simp [okD] at h
  | n, .dK _ _ _, h => by simp [okD] at h
  | n, .dT _ _ _, h => by simp [okD] at h
  | n, .ins _ _ _ _, h => by simp [okD] at h
theorem okDL_shape : ∀ {n : Nat} {ds : List D}, okDL n ds = true → PyData.canLayAll0 (pdL ds) = true ∧ PyData.depthAll (pdL ds) ≤ n
  | n, [], _ => ⟨rfl, Nat.zero_le _⟩
  | n, d :: ds, h => by
    have h2 : (okD n d && okDL n ds) = true := by simpa [okDL] using h
    obtain ⟨h3, h4⟩ := Bool.and_eq_true_iff.mp h2
    obtain ⟨a1, a2⟩ := okD_shape h3
    obtain ⟨b1, b2⟩ := okDL_shape h4
    refine ⟨?_, ?_⟩
    · show ((pd d).canLay0 && PyData.canLayAll0 (pdL ds)) = true
      rw [a1, b1]; rfl
    · show max (pd d).depth (PyData.depthAll (pdL ds)) ≤ n
      omega
end
section
variable {K : PySem.W.Frag} {G H : Hp}
mutual
theorem Rp.dp (hs : Sub G H) : ∀ {n : Nat} {d : D} {v : V} {F : List Addr}, okD n d = true → Rp K G H d v F → Dp K H v (pd d)
  | _, .non, _, _, _, h => by rw [h.1]; exact .non
  | _, .bl b, _, _, _, h => by rw [h.1]; exact .bl b
  | _, .int i, _, _, _, h => by rw [h.1]; exact .int i
  | _, .str s, _, _, _, h => by rw [h.1]; exact .str _
  | n + 1, .tup xs, v, F, k, h => by
    obtain ⟨a, vs, rfl, s, r⟩ := h
    exact .tup (SqT.of (hs _ _ s)) (RpL.dp hs (n := n) (by simpa [okD] using k) r)
  | n + 1, .lst false xs, v, F, k, h => by
    obtain ⟨a, vs, rfl, s, _, r⟩ := h
    exact .lst (hs.sqL s) (RpL.dp hs (n := n) (by simpa [okD] using k) r)
  | n + 1, .lst true xs, v, F, k, h => by
    obtain ⟨a, vs, F', rfl, s, _, r⟩ := h
    exact .lst (SqL.of s) (RpL.dp hs (n := n) (by simpa [okD] using k) r)
  | 0, .tup xs, _, _, k, _ => by simp [okD] at k
  | 0, .lst m xs, _, _, k, _ => by simp [okD] at k
  | n, .hole, _, _, h, _ => by simp [okD] at h
  | n, .val _, _, _, h, _ => by simp [okD] at h
  | n, .ty _, _, _, h, _ => by simp [okD] at h
  | n, .dK _ _ _, _, _, h, _ => by simp [okD] at h
  | n, .dT _ _ _, _, _, h, _ => by simp [okD] at h
  | n, .ins _ _ _ _, _, _, h, _ => by simp [okD] at h
theorem RpL.dp (hs : Sub G H) : ∀ {n : Nat} {ds : List D} {vs : List V} {F : List Addr}, okDL n ds = true → RpL K G H ds vs F → DpAll K H vs (pdL ds)
  | _, [], _, _, _, h => by rw [h.1]; exact .nil
  | n, d :: ds, vs, F, k, h => by
    obtain ⟨v, vs', F1, F2, rfl, rfl, r, rs⟩ := h
    have h2 : (okD n d && okDL n ds) = true := by simpa [okDL] using k
    obtain ⟨h3, h4⟩ := Bool.and_eq_true_iff.mp h2
    exact .cons (Rp.dp hs h3 r) (RpL.dp hs h4 rs)
end
end
mutual
def deq : D → D → Bool
  | .non, .non => true
  | .bl a, .bl b => a == b
  | .bl a, .int j => (if a then 1 else 0) == j
  | .int i, .bl b => i == (if b then 1 else 0)
  | .int i, .int j => i == j
  | .str x, .str y => x == y
  | .lst _ xs, .lst _ ys => deqL xs ys
  | .tup xs, .tup ys => deqL xs ys
  | _, _ => false
def deqL : List D → List D → Bool
  | [], [] => true
  | x :: xs, y :: ys => deq x y && deqL xs ys
  | _, _ => false
end
theorem toS_beq (a b : Cs) : (toS a == toS b) = (a == b) := by
  rw [Bool.eq_iff_iff, beq_iff_eq, beq_iff_eq]
  exact ⟨toS_inj, fun e => by rw [e]⟩
mutual
theorem deq_pd : ∀ {n m : Nat} {x y : D}, okD n x = true → okD m y = true → PyData.eqv (pd x) (pd y) = deq x y
  | n, m, .non, y, hx, hy => by cases y <;> first | rfl | simp [okD] at hy
  | n, m, .bl a, y, hx, hy => by cases y <;> first | rfl | simp [okD] at hy
  | n, m, .int i, y, hx, hy => by cases y <;> first | rfl | simp [okD] at hy
  | n, m, .str s, y, hx, hy => by
    cases y <;> first | rfl | exact toS_beq _ _ | simp [okD] at hy
  | n + 1, m, .tup xs, y, hx, hy => by
    cases m with
    | zero => cases y <;> first | rfl | simp [okD] at hy
    | succ m =>
      cases y with
      | tup ys => exact deqL_pd (n := n) (m := m) (by simpa [okD] using hx) (by simpa [okD] using hy)
      | _ => first | rfl | simp [okD] at hy
  | n + 1, m, .lst q xs, y, hx, hy => by
    cases m with
    | zero => cases y <;> first | rfl | simp [okD] at hy
    | succ m =>
      cases y with
      | lst p ys => exact deqL_pd (n := n) (m := m) (by simpa [okD] using hx) (by simpa [okD] using hy)
      | _ => first | rfl | simp [okD] at hy
  | 0, m, .tup xs, y, hx, hy => by simp [okD] at hx
  | 0, m, .lst q xs, y, hx, hy => by simp [okD] at hx
  | n, m, .hole, y, hx, hy => by simp [okD] at hx
  | n, m, .val _, y, hx, hy => by simp [okD] at hx
  | n, m, .ty _, y, hx, hy => by simp [okD] at hx
  | n, m, .dK _ _ _, y, hx, hy => by simp [okD] at hx
  | n, m, .dT _ _ _, y, hx, hy => by simp [okD] at hx
  | n, m, .ins _ _ _ _, y, hx, hy => by simp [okD] at hx
theorem deqL_pd : ∀ {n m : Nat} {xs ys : List D}, okDL n xs = true → okDL m ys = true → PyData.eqvAll (pdL xs) (pdL ys) = deqL xs ys
  | n, m, [], [], _, _ => rfl
  | n, m, [], y :: ys, _, _ => rfl
  | n, m, x :: xs, [], _, _ => rfl
  | n, m, x :: xs, y :: ys, hx, hy => by
    obtain ⟨a1, a2⟩ := Bool.and_eq_true_iff.mp (show (okD n x && okDL n xs) = true by simpa [okDL] using hx)
    obtain ⟨b1, b2⟩ := Bool.and_eq_true_iff.mp (show (okD m y && okDL m ys) = true by simpa [okDL] using hy)
    show (PyData.eqv (pd x) (pd y) && PyData.eqvAll (pdL xs) (pdL ys)) = (deq x y && deqL xs ys)
    rw [deq_pd a1 b1, deqL_pd a2 b2]
end
/-- the pairs of plain values that == tells apart as values -/
def scalD : D → D → Bool
  | .non, .non => true | .non, .int _ => true | .int _, .non => true | .non, .bl _ => true | .bl _, .non => true | .non, .str _ => true | .str _, .non => true
  | .int _, .int _ => true | .bl _, .bl _ => true | .str _, .str _ => true
  | .int _, .str _ => true | .str _, .int _ => true | .bl _, .str _ => true | .str _, .bl _ => true
  | _, _ => false
theorem Rp.scal {K : PySem.W.Frag} {G H : Hp} {x y : D} {v w : V} {F1 F2 : List Addr} (h : scalD x y = true) (rx : Rp K G H x v F1) (ry : Rp K G H y w F2) : L2.scal v w = true ∧ decide (v = w) = deq x y := by
  cases x <;> cases y <;> first
    | (exfalso; revert h; simp [scalD]; done)
    | (obtain ⟨rfl, _⟩ := rx
       obtain ⟨rfl, _⟩ := ry
       refine ⟨rfl, ?_⟩
       first
         | rfl
         | exact decide_eq_false (fun z => nomatch z)
         | exact dec_int
         | exact dec_bl
         | exact dec_str.trans (toS_beq _ _))
/-- == and != of trees -/
def sEq : List D → (D → Prop) → Prop := fun ds Q => ∃ x y, ds = [x, y] ∧ (scalD x y = true ∨ (okD 64 x = true ∧ okD 64 y = true)) ∧ Q (.bl (deq x y))
def sNe : List D → (D → Prop) → Prop := fun ds Q => ∃ x y, ds = [x, y] ∧ (scalD x y = true ∨ (okD 64 x = true ∧ okD 64 y = true)) ∧ Q (.bl (!deq x y))
theorem RpL.two {K : PySem.W.Frag} {G H : Hp} {x y : D} {vs : List V} {F : List Addr} (h : RpL K G H [x, y] vs F) : ∃ v w F1 F2, vs = [v, w] ∧ Rp K G H x v F1 ∧ Rp K G H y w F2 := by
  obtain ⟨v, vs', F1, F2, rfl, rfl, r, w, vs2, F3, F4, rfl, rfl, r2, rfl, rfl⟩ := h
  exact ⟨v, w, F1, F3, rfl, r, r2⟩
theorem RpL.one' {K : PySem.W.Frag} {G H : Hp} {x : D} {vs : List V} {F : List Addr} (h : RpL K G H [x] vs F) : ∃ v, vs = [v] ∧ Rp K G H x v F := by
  obtain ⟨v, vs', F1, F2, rfl, rfl, r, rfl, rfl⟩ := h
  exact ⟨v, rfl, by rw [List.append_nil]; exact r⟩
theorem shp {d : D} (h : okD 64 d = true) : SeqAt.shaped (pd d) = true := by
  obtain ⟨a, b⟩ := okD_shape h
  unfold SeqAt.shaped
  rw [a, decide_eq_true b]
  rfl
theorem opn_eq {K : PySem.W.Frag} : OpN K (r2N fun x y H Q => rEq x y H Q ∨ rEqD K x y H Q) sEq := OpN.pure fun G H ds vs F Q Q' hs r h k => by
  obtain ⟨x, y, rfl, h1, q⟩ := h
  obtain ⟨v, w, F1, F2, rfl, rx, ry⟩ := r.two
  refine ⟨v, w, rfl, ?_⟩
  rcases h1 with h1 | ⟨h1, h2⟩
  · obtain ⟨e1, e2⟩ := Rp.scal h1 rx ry
    exact .inl ⟨e1, by rw [e2]; exact k (.bl (deq x y)) _ (fun _ _ _ => ⟨rfl, rfl⟩) q⟩
  · refine .inr ⟨pd x, pd y, rx.dp hs h1, ry.dp hs h2, shp h1, shp h2, ?_⟩
    rw [deq_pd h1 h2]
    exact k (.bl (deq x y)) _ (fun _ _ _ => ⟨rfl, rfl⟩) q
theorem opn_ne {K : PySem.W.Frag} : OpN K (r2N fun x y H Q => rNe x y H Q ∨ rNeD K x y H Q) sNe := OpN.pure fun G H ds vs F Q Q' hs r h k => by
  obtain ⟨x, y, rfl, h1, q⟩ := h
  obtain ⟨v, w, F1, F2, rfl, rx, ry⟩ := r.two
  refine ⟨v, w, rfl, ?_⟩
  rcases h1 with h1 | ⟨h1, h2⟩
  · obtain ⟨e1, e2⟩ := Rp.scal h1 rx ry
    exact .inl ⟨e1, by rw [e2]; exact k (.bl (!deq x y)) _ (fun _ _ _ => ⟨rfl, rfl⟩) q⟩
  · refine .inr ⟨pd x, pd y, rx.dp hs h1, ry.dp hs h2, shp h1, shp h2, ?_⟩
    rw [deq_pd h1 h2]
    exact k (.bl (!deq x y)) _ (fun _ _ _ => ⟨rfl, rfl⟩) q
theorem opr_eq {X : Cx} {k : Nat} (hr : Room k X.A) : OpR X (compareOp .Eq) (fun x y H Q => rEq x y H Q ∨ rEqD X.K x y H Q) := OpR.or op_eq (op_eqD hr.units)
theorem opr_ne {X : Cx} {k : Nat} (hr : Room k X.A) : OpR X (compareOp .NotEq) (fun x y H Q => rNe x y H Q ∨ rNeD X.K x y H Q) := OpR.or op_ne (op_neD hr.units)
def sI2 (f : Int → Int → D) : List D → (D → Prop) → Prop := fun ds Q => ∃ i j, ds = [.int i, .int j] ∧ Q (f i j)
theorem opn_i2 {K : PySem.W.Frag} {f : Int → Int → D} {g : Int → Int → V} (h : ∀ i j G H, Rp K G H (f i j) (g i j) []) : OpN K (r2N (rI0 g)) (sI2 f) := OpN.pure fun G H ds vs F Q Q' hs r q k => by
  obtain ⟨i, j, rfl, q⟩ := q
  obtain ⟨v, w, F1, F2, rfl, ⟨rfl, _⟩, ⟨rfl, _⟩⟩ := r.two
  exact ⟨_, _, rfl, i, j, rfl, rfl, k _ _ (fun G' H' _ => h i j G' H') q⟩
def sI2c (c : Int → Int → Prop) (f : Int → Int → D) : List D → (D → Prop) → Prop := fun ds Q => ∃ i j, ds = [.int i, .int j] ∧ c i j ∧ Q (f i j)
theorem opn_i2c {K : PySem.W.Frag} {c c' : Int → Int → Prop} {f : Int → Int → D} {g : Int → Int → V} (hc : ∀ i j, c i j → c' i j) (h : ∀ i j G H, c i j → Rp K G H (f i j) (g i j) []) : OpN K (r2N (rI c' g)) (sI2c c f) := OpN.pure fun G H ds vs F Q Q' hs r q k => by
  obtain ⟨i, j, rfl, hz, q⟩ := q
  obtain ⟨v, w, F1, F2, rfl, ⟨rfl, _⟩, ⟨rfl, _⟩⟩ := r.two
  exact ⟨_, _, rfl, i, j, rfl, rfl, hc _ _ hz, k _ _ (fun G' H' _ => h i j G' H' hz) q⟩
theorem opn_lt {K : PySem.W.Frag} : OpN K (r2N (rI0 fun i j => .bl (decide (i < j)))) (sI2 fun i j => .bl (decide (i < j))) := opn_i2 fun _ _ _ _ => ⟨rfl, rfl⟩
theorem opn_gt {K : PySem.W.Frag} : OpN K (r2N (rI0 fun i j => .bl (decide (j < i)))) (sI2 fun i j => .bl (decide (j < i))) := opn_i2 fun _ _ _ _ => ⟨rfl, rfl⟩
theorem opn_ge {K : PySem.W.Frag} : OpN K (r2N (rI0 fun i j => .bl (decide (j ≤ i)))) (sI2 fun i j => .bl (decide (j ≤ i))) := opn_i2 fun _ _ _ _ => ⟨rfl, rfl⟩
theorem opn_sub {K : PySem.W.Frag} : OpN K (r2N (rI0 fun i j => .int (i - j))) (sI2 fun i j => .int (i - j)) := opn_i2 fun _ _ _ _ => ⟨rfl, rfl⟩
/-- % and // : by a number above 0 as Lean's own -/
def pmod (i j : Int) : Int := if 0 < j then i % j else i.fmod j
def pdiv (i j : Int) : Int := if 0 < j then i / j else i.fdiv j
theorem pmod_eq (i j : Int) : i.fmod j = pmod i j := by
  unfold pmod
  split
  · rw [Int.fmod_eq_emod_of_nonneg i (by omega)]
  · rfl
theorem pdiv_eq (i j : Int) : i.fdiv j = pdiv i j := by
  unfold pdiv
  split
  · rw [Int.fdiv_eq_ediv_of_nonneg i (by omega)]
  · rfl
theorem opn_mod {K : PySem.W.Frag} : OpN K (r2N (rI (fun _ j => j ≠ 0) fun i j => .int (i.fmod j))) (sI2c (fun _ j => j ≠ 0) fun i j => .int (pmod i j)) := opn_i2c (fun _ _ h => h) fun i j _ _ _ => ⟨by rw [pmod_eq], rfl⟩
/-- a divisor that is not 0, of less than 9,000 bits -/
def CDv (_ j : Int) : Prop := j ≠ 0 ∧ j.natAbs.log2 < 9000
theorem opr_div {X : Cx} : OpR X (binaryOp .FloorDiv) (rI CDv fun i j => .int (i.fdiv j)) := opI fun i j _ _ _ _ _ hc q => floordiv_int hc.1 q (.inl (PyProof.noPylong_of_log2 hc.2))
theorem opn_div {K : PySem.W.Frag} : OpN K (r2N (rI CDv fun i j => .int (i.fdiv j))) (sI2c CDv fun i j => .int (pdiv i j)) := opn_i2c (fun _ _ h => h) fun i j _ _ _ => ⟨by rw [pdiv_eq], rfl⟩
/-- a product: one factor below 2 ^ 64, or both below 2 ^ 60,000,000 -/
def CMl (i j : Int) : Prop := (i.natAbs < 2 ^ 64 ∨ j.natAbs < 2 ^ 64) ∨ CMulX i j
theorem ib64 {i : Int} (h : i.natAbs < 2 ^ 64) : Builtin.Int.intBits i ≤ 64 := PyProof.Rows.intBits_le h
theorem opr_mul {X : Cx} : OpR X (binaryOp .Mult) (rI CMl fun i j => .int (i * j)) := opI fun i j _ _ _ _ _ hc q => by
  refine mul_int q ?_
  rcases hc with (h | h) | h
  · exact IntMulOk.of_left (ib64 h)
  · exact IntMulOk.of_right (ib64 h)
  · exact h.ok
theorem opn_pow {K : PySem.W.Frag} : OpN K (r2N (rI CPow fun i j => .int (i ^ j.toNat))) (sI2c CPow fun i j => .int (i ^ j.toNat)) := opn_i2c (fun _ _ h => h) fun _ _ _ _ _ => ⟨rfl, rfl⟩
/-- a is None, a is not None -/
def isNon : D → Bool
  | .non => true
  | .val v => decide (v = .non)
  | .pin v _ => decide (v = .non)
  | _ => false
def sIsN : List D → (D → Prop) → Prop := fun ds Q => ∃ x, ds = [x, .non] ∧ x ≠ .hole ∧ Q (.bl (isNon x))
def sNotN : List D → (D → Prop) → Prop := fun ds Q => ∃ x, ds = [x, .non] ∧ x ≠ .hole ∧ Q (.bl (!isNon x))
theorem Rp.isNon {K : PySem.W.Frag} {G H : Hp} {x : D} {v : V} {F : List Addr} (h : x ≠ .hole) (r : Rp K G H x v F) : decide (v = .non) = VL.isNon x := by
  cases x with
  | hole => exact absurd rfl h
  | val u => obtain ⟨rfl, _⟩ := r; rfl
  | non => obtain ⟨rfl, _⟩ := r; rfl
  | bl b => obtain ⟨rfl, _⟩ := r; rfl
  | int b => obtain ⟨rfl, _⟩ := r; rfl
  | str b => obtain ⟨rfl, _⟩ := r; rfl
  | ty b => obtain ⟨rfl, _⟩ := r; rfl
  | tup xs => obtain ⟨a, vs, rfl, _⟩ := r; rfl
  | lst m xs => cases m <;> obtain ⟨a, vs, _⟩ := r <;> simp_all [VL.isNon]
  | dK m ks xs => cases m <;> obtain ⟨a, vs, _⟩ := r <;> simp_all [VL.isNon]
  | dT m ks xs => cases m <;> obtain ⟨a, vs, _⟩ := r <;> simp_all [VL.isNon]
  | ins m C fs xs => cases m <;> obtain ⟨a, dx, vs, _⟩ := r <;> simp_all [VL.isNon]
  | pin u d => obtain ⟨rfl, _⟩ := r; rfl
  | exn a dd c row => obtain ⟨⟨rfl, _⟩, _⟩ := r; rfl
theorem opn_isN {K : PySem.W.Frag} : OpN K (r2N fun x y H Q => y = .non ∧ Q (.bl (decide (x = .non))) H) sIsN := OpN.pure fun G H ds vs F Q Q' hs r q k => by
  obtain ⟨x, rfl, hx, q⟩ := q
  obtain ⟨v, w, F1, F2, rfl, rx, ⟨rfl, _⟩⟩ := r.two
  exact ⟨_, _, rfl, rfl, by rw [rx.isNon hx]; exact k (.bl (isNon x)) _ (fun _ _ _ => ⟨rfl, rfl⟩) q⟩
end VL
namespace VL
open PySem PySem.Spec PyProof.Rows L2 VL
inductive Stp where
  | ix (j : Nat)
  | fd (f : Cs)
deriving DecidableEq
def fdIx (fs : List Cs) (f : Cs) : Option Nat := fs.idxOf? f
/-- the node at a place, through nodes that are ours -/
def getP : D → List Stp → Option D
  | d, [] => some d
  | .lst true ds, .ix j :: p => match ds[j]? with | some d => getP d p | none => none
  | .tup ds, .ix j :: p => match ds[j]? with | some d => getP d p | none => none
  | .ins true _ fs ds, .fd f :: p => match fdIx fs f with
    | some j => (match ds[j]? with | some d => getP d p | none => none)
    | none => none
  | _, _ => none
def setP : D → List Stp → D → D
  | _, [], e => e
  | .lst true ds, .ix j :: p, e => match ds[j]? with | some d => .lst true (ds.set j (setP d p e)) | none => .lst true ds
  | .tup ds, .ix j :: p, e => match ds[j]? with | some d => .tup (ds.set j (setP d p e)) | none => .tup ds
  | .ins true C fs ds, .fd f :: p, e => match fdIx fs f with
    | some j => (match ds[j]? with | some d => .ins true C fs (ds.set j (setP d p e)) | none => .ins true C fs ds)
    | none => .ins true C fs ds
  | d, _, _ => d
section
variable {K : PySem.W.Frag}
/-- at v0, along p, one comes to v -/
inductive AtP (H : Hp) : D → V → List Stp → V → Prop where
  | nil {d v} : AtP H d v [] v
  | lst {ds d a vs j p w v} : H a = some (.lst vs) → ds[j]? = some d → ds.length = vs.length → vs[j]? = some w → AtP H d w p v → AtP H (.lst true ds) (.ref a) (.ix j :: p) v
  | tup {ds d a vs j p w v} : H a = some (.tup vs) → ds[j]? = some d → ds.length = vs.length → vs[j]? = some w → AtP H d w p v → AtP H (.tup ds) (.ref a) (.ix j :: p) v
  | ins {C C' fs ds d a dx vs j f p w v} : H a = some (.ins C' dx (fzip fs vs)) → fdIx fs f = some j → ds[j]? = some d → fs.length = vs.length → vs[j]? = some w → AtP H d w p v → AtP H (.ins true C fs ds) (.ref a) (.fd f :: p) v
theorem AtP.grow {H H' : Hp} (h : Sub H H') {d v p u} (a : AtP H d v p u) : AtP H' d v p u := by
  induction a with
  | nil => exact .nil
  | lst e1 e2 e3 e4 _ ih => exact .lst (h _ _ e1) e2 e3 e4 ih
  | tup e1 e2 e3 e4 _ ih => exact .tup (h _ _ e1) e2 e3 e4 ih
  | ins e1 e2 e3 e4 e5 _ ih => exact .ins (h _ _ e1) e2 e3 e4 e5 ih
theorem fzip_inj : ∀ {fs : List Cs} {vs ws : List V}, fs.length = vs.length → fs.length = ws.length → fzip fs vs = fzip fs ws → vs = ws
  | [], [], [], _, _, _ => rfl
  | f :: fs, v :: vs, w :: ws, h1, h2, e => by
    have e2 : (toS f, v) :: fzip fs vs = (toS f, w) :: fzip fs ws := e
    obtain ⟨a, c⟩ := List.cons.inj e2
    rw [(Prod.mk.inj a).2, fzip_inj (Nat.succ.inj h1) (Nat.succ.inj h2) c]
  | [], _ :: _, _, h1, _, _ => by cases h1
  | [], [], _ :: _, _, h2, _ => by cases h2
  | _ :: _, [], _, h1, _, _ => by cases h1
  | _ :: _, _ :: _, [], _, h2, _ => by cases h2
theorem AtP.uniq {H : Hp} : ∀ {p : List Stp} {d v u u'}, AtP H d v p u → AtP H d v p u' → u = u'
  | [], _, _, _, _, .nil, .nil => rfl
  | .ix j :: p, _, _, u, u', .lst a1 a2 a3 a4 a5, .lst b1 b2 b3 b4 b5 => by
    rw [a1] at b1
    cases b1
    rw [a4] at b4
    cases b4
    rw [a2] at b2
    cases b2
    exact a5.uniq b5
  | .ix j :: p, _, _, u, u', .tup a1 a2 a3 a4 a5, .tup b1 b2 b3 b4 b5 => by
    rw [a1] at b1
    cases b1
    rw [a4] at b4
    cases b4
    rw [a2] at b2
    cases b2
    exact a5.uniq b5
  | .fd f :: p, _, _, u, u', .ins a1 a2 a3 a4 a5 a6, .ins b1 b2 b3 b4 b5 b6 => by
    rw [a1] at b1
    have e := HO.ins.inj (Option.some.inj b1)
    have ev := fzip_inj a4 b4 e.2.2
    subst ev
    rw [a2] at b2
    cases b2
    rw [a5] at b5
    cases b5
    rw [a3] at b3
    cases b3
    exact a6.uniq b6
/-- a place within a tree: what stands there, and what stands in its stead -/
theorem Rp.focusP {G H : Hp} (su : Sub G H) : ∀ {p : List Stp} {d0 : D} {v0 : V} {F : List Addr} {d : D}, Rp K G H d0 v0 F → getP d0 p = some d →
    ∃ v A B C, F = A ++ B ++ C ∧ Rp K G H d v B ∧ AtP H d0 v0 p v ∧ ∀ (G' H' : Hp) (d' : D) (B' : List Addr), Sub G G' → (∀ a ∈ A ++ C, H' a = H a) → (B ≠ [] ∨ B' = []) → Rp K G' H' d' v B' → Rp K G' H' (setP d0 p d') v0 (A ++ B' ++ C)
  | [], d0, v0, F, d, h, e => by
    have e : some d0 = some d := by cases d0 <;> exact e
    cases e
    refine ⟨v0, [], F, [], by simp, h, .nil, fun G' H' d' B' _ _ _ r => ?_⟩
    have : setP d0 [] d' = d' := by cases d0 <;> rfl
    rw [this]
    simpa using r
  | .ix j :: p, .lst true ds, v0, F, d, h, e => by
    obtain ⟨a, vs, F', rfl, s, rfl, r⟩ := h
    have e : (match ds[j]? with | some d => getP d p | none => none) = some d := e
    cases hj : ds[j]? with
    | none => rw [hj] at e; cases e
    | some c =>
      rw [hj] at e
      obtain ⟨w, A, B, C, hw, rfl, rw_, back⟩ := r.focus hj
      obtain ⟨v, A2, B2, C2, rfl, rv, at_, back2⟩ := Rp.focusP su rw_ e
      refine ⟨v, a :: A ++ A2, B2, C2 ++ C, by simp only [List.append_assoc, List.cons_append], rv, .lst s hj r.len hw at_, fun G' H' d' B' g k z r' => ?_⟩
      have q := back2 G' H' d' B' g (fun a z => k a (by simp only [List.mem_append, List.mem_cons] at z ⊢; grind)) z r'
      have q2 := back G' H' _ w _ g (fun a z => k a (by simp only [List.mem_append, List.mem_cons] at z ⊢; grind)) q
      show Rp K G' H' (match ds[j]? with | some d => .lst true (ds.set j (setP d p d')) | none => .lst true ds) _ _
      rw [hj]
      rw [setSelf hw] at q2
      exact ⟨a, vs, A ++ (A2 ++ B' ++ C2) ++ C, rfl, (k a (by simp)).trans s, by simp only [List.append_assoc, List.cons_append], q2⟩
  | .fd f :: p, .ins true C0 fs ds, v0, F, d, h, e => by
    obtain ⟨a, dx, vs, F', rfl, s, rfl, l, r⟩ := h
    have e : (match fdIx fs f with | some j => (match ds[j]? with | some d => getP d p | none => none) | none => none) = some d := e
    cases hf : fdIx fs f with
    | none => rw [hf] at e; cases e
    | some j =>
      rw [hf] at e
      have e : (match ds[j]? with | some d => getP d p | none => none) = some d := e
      cases hj : ds[j]? with
      | none => rw [hj] at e; cases e
      | some c =>
        rw [hj] at e
        obtain ⟨w, A, B, C, hw, rfl, rw_, back⟩ := r.focus hj
        obtain ⟨v, A2, B2, C2, rfl, rv, at_, back2⟩ := Rp.focusP su rw_ e
        refine ⟨v, a :: A ++ A2, B2, C2 ++ C, by simp only [List.append_assoc, List.cons_append], rv, .ins s hf hj (l.trans r.len) hw at_, fun G' H' d' B' g k z r' => ?_⟩
        have q := back2 G' H' d' B' g (fun a z => k a (by simp only [List.mem_append, List.mem_cons] at z ⊢; grind)) z r'
        have q2 := back G' H' _ w _ g (fun a z => k a (by simp only [List.mem_append, List.mem_cons] at z ⊢; grind)) q
        show Rp K G' H' (match fdIx fs f with | some j => (match ds[j]? with | some d => .ins true C0 fs (ds.set j (setP d p d')) | none => .ins true C0 fs ds) | none => .ins true C0 fs ds) _ _
        rw [hf]
        show Rp K G' H' (match ds[j]? with | some d => .ins true C0 fs (ds.set j (setP d p d')) | none => .ins true C0 fs ds) _ _
        rw [hj]
        rw [setSelf hw] at q2
        exact ⟨a, dx, vs, A ++ (A2 ++ B' ++ C2) ++ C, rfl, (k a (by simp)).trans s, by simp only [List.append_assoc, List.cons_append], by simpa using l, q2⟩
  | .ix j :: p, .tup ds, v0, F, d, h, e => by
    obtain ⟨a, vs, rfl, s, r⟩ := h
    have e : (match ds[j]? with | some d => getP d p | none => none) = some d := e
    cases hj : ds[j]? with
    | none => rw [hj] at e; cases e
    | some c =>
      rw [hj] at e
      obtain ⟨w, A, B, C, hw, rfl, rw_, back⟩ := r.focus hj
      obtain ⟨v, A2, B2, C2, rfl, rv, at_, back2⟩ := Rp.focusP su rw_ e
      refine ⟨v, A ++ A2, B2, C2 ++ C, by simp only [List.append_assoc], rv, .tup (su _ _ s) hj r.len hw at_, fun G' H' d' B' g k z r' => ?_⟩
      have q := back2 G' H' d' B' g (fun a z => k a (by simp only [List.mem_append] at z ⊢; grind)) z r'
      have q2 := back G' H' _ w _ g (fun a z => k a (by simp only [List.mem_append] at z ⊢; grind)) q
      show Rp K G' H' (match ds[j]? with | some d => .tup (ds.set j (setP d p d')) | none => .tup ds) _ _
      rw [hj]
      rw [setSelf hw] at q2
      have ea : A ++ A2 ++ B' ++ (C2 ++ C) = A ++ (A2 ++ B' ++ C2) ++ C := by simp only [List.append_assoc]
      rw [ea]
      exact ⟨a, vs, rfl, g _ _ s, q2⟩
  | .fd _ :: p, .tup ds, v0, F, d, h, e => by cases e
  | s :: p, .lst false ds, v0, F, d, h, e => by cases s <;> cases e
  | s :: p, .ins false C fs ds, v0, F, d, h, e => by cases s <;> cases e
  | .fd _ :: p, .lst true ds, v0, F, d, h, e => by cases e
  | .ix _ :: p, .ins true C fs ds, v0, F, d, h, e => by cases e
  | s :: p, .hole, v0, F, d, h, e => by cases s <;> cases e
  | s :: p, .val _, v0, F, d, h, e => by cases s <;> cases e
  | s :: p, .non, v0, F, d, h, e => by cases s <;> cases e
  | s :: p, .bl _, v0, F, d, h, e => by cases s <;> cases e
  | s :: p, .int _, v0, F, d, h, e => by cases s <;> cases e
  | s :: p, .str _, v0, F, d, h, e => by cases s <;> cases e
  | s :: p, .ty _, v0, F, d, h, e => by cases s <;> cases e
  | s :: p, .pin _ _, v0, F, d, h, e => by cases s <;> cases e
  | s :: p, .exn _ _ _ _, v0, F, d, h, e => by cases s <;> cases e
  | s :: p, .dK _ _ _, v0, F, d, h, e => by cases s <;> cases e
  | s :: p, .dT _ _ _, v0, F, d, h, e => by cases s <;> cases e
end
section
variable {K : PySem.W.Frag} {b : Bs} {σ : L2.St} {H : Hp} {ε : Ep} {T R : List D} {Tv Rv : List V}
/-- the node at a place of slot i, and what stands in its stead, made of it and of what is held last -/
theorem SI.focus (I : SI K b σ H ε (T ++ R) (Tv ++ Rv)) (hl : T.length = Tv.length) {i : Nat} {d0 d : D} {p : List Stp} (e : ε[i]? = some (some d0)) (g : getP d0 p = some d) :
    ∃ v0 v G B FR, σ[i]? = some (some v0) ∧ AtP H d0 v0 p v ∧ Sub G H ∧ Rp K G H d v B ∧ RpL K G H R Rv FR ∧ (B ++ FR).Nodup ∧ (∀ a ∈ B ++ FR, G a = none) ∧
      ∀ H' d' B' res w Fr, (∀ a, a ∉ B → H' a = H a) → Rp K G H' d' v B' → Rp K G H' res w Fr → (B ≠ [] ∨ B' = []) → (∃ L, (B' ++ (Fr ++ L)).Perm (B ++ FR)) → SI K b σ H' (ε.set i (some (setP d0 p d'))) (T ++ [res]) (Tv ++ [w]) := by
  obtain ⟨G, F, Ft, J⟩ := I
  obtain ⟨F1, FR, rfl, r1, r2⟩ := J.temps.split2 hl
  obtain ⟨ov, A0, B0, C0, hs, rfl, ro, back⟩ := J.slots.focus e
  obtain ⟨v0, rfl, r0⟩ := ro
  obtain ⟨v, A, B, C, rfl, rv, at_, back2⟩ := r0.focusP J.sub g
  have pm : (A0 ++ (A ++ B ++ C) ++ C0 ++ (F1 ++ FR)).Perm ((A0 ++ A ++ C ++ C0 ++ F1) ++ (B ++ FR)) := by
    apply List.perm_iff_count.mpr
    intro a
    simp only [List.count_append]
    omega
  have nd := pm.nodup_iff.mp J.nd
  obtain ⟨nd1, nd2, dj⟩ := List.nodup_append.mp nd
  have mem : ∀ a, a ∈ (A0 ++ A ++ C ++ C0 ++ F1) ++ (B ++ FR) → a ∈ A0 ++ (A ++ B ++ C) ++ C0 ++ (F1 ++ FR) := fun a z => pm.mem_iff.mpr z
  refine ⟨v0, v, G, B, FR, hs, at_, J.sub, rv, r2, nd2, fun a z => J.fr a (mem a (List.mem_append_right _ z)), fun H' d' B' res w Fr kp rd rres z sp => ?_⟩
  have out : ∀ a ∈ A0 ++ A ++ C ++ C0 ++ F1, H' a = H a := fun a z => kp a fun hb => dj a z a (List.mem_append_left _ hb) rfl
  have sH : Sub G H' := fun a o q => by
    have : a ∉ B := fun hb => by
      rw [J.fr a (mem a (List.mem_append_right _ (List.mem_append_left _ hb)))] at q
      cases q
    rw [kp a this]
    exact J.sub a o q
  have q1 := back2 G H' d' B' Sub.refl (fun a z => out a (by simp only [List.mem_append] at z ⊢; grind)) z rd
  have q2 := back G H' (some (setP d0 p d')) (some v0) (A ++ B' ++ C) Sub.refl (fun a z => out a (by simp only [List.mem_append] at z ⊢; grind)) ⟨v0, rfl, q1⟩
  rw [setSelf hs] at q2
  obtain ⟨L, sp⟩ := sp
  have pm2 : ((A0 ++ (A ++ B' ++ C) ++ C0 ++ (F1 ++ Fr)) ++ L).Perm (A0 ++ (A ++ B ++ C) ++ C0 ++ (F1 ++ FR)) := by
    apply List.perm_iff_count.mpr
    intro a
    have := sp.count_eq a
    simp only [List.count_append] at this ⊢
    omega
  have sb : ∀ a, a ∈ A0 ++ (A ++ B' ++ C) ++ C0 ++ (F1 ++ Fr) → a ∈ A0 ++ (A ++ B ++ C) ++ C0 ++ (F1 ++ FR) := fun a z => pm2.mem_iff.mp (List.mem_append_left _ z)
  refine ⟨G, A0 ++ (A ++ B' ++ C) ++ C0, F1 ++ Fr, J.s0, sH, q2, (r1.mono Sub.refl fun a z => out a (List.mem_append_right _ z)).append (RpL.one.mpr rres), (List.nodup_append.mp (pm2.nodup_iff.mpr J.nd)).1, fun a z => J.fr a (sb a z), fun a z => J.own a (sb a z), J.gn, fun a o q n => ?_, J.kept⟩
  · have : a ∉ B := fun hb => by
      rcases J.own a (mem a (List.mem_append_right _ (List.mem_append_left _ hb))) with h | h
      · exact n h
      · rw [q] at h; cases h
    rw [kp a this]
    exact J.keep a o q n
end
end VL
namespace VL
open PySem PySem.Spec PyProof.Rows L2 VL
/-- the place of a key -/
def kIx {α : Type} [DecidableEq α] : List α → α → Option Nat
  | [], _ => none
  | a :: ks, k => if a = k then some 0 else (kIx ks k).map (· + 1)
section
variable {κ : Type} [DecidableEq κ] {α : Type} [DecidableEq α] {f : α → κ}
theorem kIx_lt : ∀ {ks : List α} {k : α} {j : Nat}, kIx ks k = some j → j < ks.length
  | [], _, _, h => by cases h
  | a :: ks, k, j, h => by
    unfold kIx at h
    split at h
    · cases h; simp
    · cases e : kIx ks k with
      | none => rw [e] at h; cases h
      | some i =>
        rw [e] at h
        cases h
        have := kIx_lt e
        simp only [List.length_cons]
        omega
theorem map_zip_set (hf : ∀ a b, f a = f b → a = b) : ∀ {ks : List α} {vs : List V} {k : α} {y : V} {j : Nat}, ks.Nodup → ks.length = vs.length → kIx ks k = some j →
    ((ks.map f).zip vs).map (fun kv => if kv.1 = f k then (kv.1, y) else kv) = (ks.map f).zip (vs.set j y)
  | [], _, k, y, j, _, _, e => by cases e
  | _ :: _, [], k, y, j, _, h, _ => by cases h
  | a :: ks, v :: vs, k, y, j, nd, h, e => by
    obtain ⟨n1, n2⟩ := List.nodup_cons.mp nd
    unfold kIx at e
    by_cases q : a = k
    · subst q
      rw [if_pos rfl] at e
      cases e
      simp only [List.map_cons, List.zip_cons_cons, if_true, List.set_cons_zero, List.cons.injEq, true_and]
      have : ∀ p ∈ (ks.map f).zip vs, (if p.1 = f a then (p.1, y) else p) = p := fun p hp => by
        have h1 := (List.of_mem_zip hp).1
        obtain ⟨b, hb, e2⟩ := List.mem_map.mp h1
        rw [if_neg]
        intro z
        rw [← e2] at z
        exact n1 (hf _ _ z ▸ hb)
      rw [List.map_congr_left this, List.map_id']
    · rw [if_neg q] at e
      cases e1 : kIx ks k with
      | none => rw [e1] at e; cases e
      | some i =>
        rw [e1] at e
        cases e
        simp only [List.map_cons, List.zip_cons_cons, List.set_cons_succ, List.cons.injEq]
        refine ⟨if_neg fun z => q (hf _ _ z), ?_⟩
        exact map_zip_set hf n2 (Nat.succ.inj h) e1
theorem valV_zip (hf : ∀ a b, f a = f b → a = b) : ∀ {ks : List α} {vs : List V} {k : α}, ks.length = vs.length → valV ((ks.map f).zip vs) (f k) = (kIx ks k).bind fun j => vs[j]?
  | [], [], _, _ => rfl
  | a :: ks, v :: vs, k, h => by
    unfold kIx
    show valV ((f a, v) :: (ks.map f).zip vs) (f k) = _
    by_cases e : a = k
    · subst e
      rw [valV_pos rfl, if_pos rfl]
      rfl
    · rw [valV_neg fun z => e (hf _ _ z), valV_zip hf (Nat.succ.inj h), if_neg e]
      cases kIx ks k <;> simp
  | [], _ :: _, _, h => by cases h
  | _ :: _, [], _, h => by cases h
theorem zip_any (hf : ∀ a b, f a = f b → a = b) {ks : List α} {vs : List V} {k : α} (h : ks.length = vs.length) : (((ks.map f).zip vs).any fun kv => decide (kv.1 = f k)) = (kIx ks k).isSome := by
  rw [valV_any, valV_zip hf h]
  cases e : kIx ks k with
  | none => rfl
  | some j =>
    have : j < vs.length := by
      rw [← h]
      exact kIx_lt e
    simp [this]
theorem putK_zip (hf : ∀ a b, f a = f b → a = b) : ∀ {ks : List α} {vs : List V} {k : α} {y : V}, ks.Nodup → ks.length = vs.length →
    putK ((ks.map f).zip vs) (f k) y = match kIx ks k with | some j => (ks.map f).zip (vs.set j y) | none => ((ks ++ [k]).map f).zip (vs ++ [y]) := by
  intro ks vs k y nd hl
  unfold putK
  rw [zip_any hf hl]
  cases e : kIx ks k with
  | none =>
    simp only [Option.isSome_none, Bool.false_eq_true, if_false]
    rw [List.map_append, List.zip_append (by simpa using hl)]
    rfl
  | some j =>
    simp only [Option.isSome_some, if_true]
    exact map_zip_set hf nd hl e
end
def tkc (k : List Kc) : List Key := k.map kc
theorem tkc_inj : ∀ {a b : List Kc}, tkc a = tkc b → a = b
  | [], [], _ => rfl
  | x :: a, y :: b, h => by
    obtain ⟨h1, h2⟩ := List.cons.inj (show kc x :: tkc a = kc y :: tkc b from h)
    rw [kc_inj h1, tkc_inj h2]
  | [], _ :: _, h => by cases h
  | _ :: _, [], h => by cases h
theorem kzip_val {ks : List Kc} {vs : List V} {k : Kc} (h : ks.length = vs.length) : valV (kzip ks vs) (kc k) = (kIx ks k).bind fun j => vs[j]? := valV_zip (fun _ _ => kc_inj) h
theorem tzip_val {ks : List (List Kc)} {vs : List V} {k : List Kc} (h : ks.length = vs.length) : valV (tzip ks vs) (tkc k) = (kIx ks k).bind fun j => vs[j]? := valV_zip (f := tkc) (fun _ _ => tkc_inj) h
theorem kzip_put {ks : List Kc} {vs : List V} {k : Kc} {y : V} (nd : ks.Nodup) (h : ks.length = vs.length) : putK (kzip ks vs) (kc k) y = match kIx ks k with | some j => kzip ks (vs.set j y) | none => kzip (ks ++ [k]) (vs ++ [y]) := putK_zip (fun _ _ => kc_inj) nd h
theorem tzip_put {ks : List (List Kc)} {vs : List V} {k : List Kc} {y : V} (nd : ks.Nodup) (h : ks.length = vs.length) : putK (tzip ks vs) (tkc k) y = match kIx ks k with | some j => tzip ks (vs.set j y) | none => tzip (ks ++ [k]) (vs ++ [y]) := putK_zip (f := tkc) (fun _ _ => tkc_inj) nd h
/-- a tree as a key -/
def keyD : D → Option Kc
  | .int i => some (.inl i)
  | .str s => some (.inr s)
  | _ => none
def keyL : List D → Option (List Kc)
  | [] => some []
  | d :: ds => (keyD d).bind fun k => (keyL ds).map (k :: ·)
def keyT : D → Option (List Kc)
  | .tup ds => keyL ds
  | _ => none
section
variable {K : PySem.W.Frag} {G H : Hp}
theorem Rp.keyD {d : D} {v : V} {F : List Addr} {k : Kc} (r : Rp K G H d v F) (h : VL.keyD d = some k) : v = kV (kc k) ∧ F = [] := by
  cases d <;> simp only [VL.keyD, reduceCtorEq, Option.some.injEq] at h
  · subst h; exact r
  · subst h; exact r
theorem RpL.keyL : ∀ {ds : List D} {vs : List V} {F : List Addr} {ks : List Kc}, RpL K G H ds vs F → VL.keyL ds = some ks → vs = (tkc ks).map kV ∧ F = []
  | [], vs, F, ks, r, h => by
    obtain ⟨rfl, rfl⟩ := r
    cases h
    exact ⟨rfl, rfl⟩
  | d :: ds, vs, F, ks, r, h => by
    obtain ⟨v, vs', F1, F2, rfl, rfl, rd, rs⟩ := r
    have h : ((VL.keyD d).bind fun k => (VL.keyL ds).map (k :: ·)) = some ks := h
    cases e : VL.keyD d with
    | none => rw [e] at h; cases h
    | some k =>
      rw [e] at h
      cases e2 : VL.keyL ds with
      | none => rw [e2] at h; cases h
      | some ks' =>
        rw [e2] at h
        cases h
        obtain ⟨rfl, rfl⟩ := rd.keyD e
        obtain ⟨rfl, rfl⟩ := RpL.keyL rs e2
        exact ⟨rfl, rfl⟩
theorem Rp.keyT (hs : Sub G H) {d : D} {v : V} {F : List Addr} {k : List Kc} (r : Rp K G H d v F) (h : VL.keyT d = some k) : ∃ b, v = .ref b ∧ H b = some (.tup ((tkc k).map kV)) ∧ F = [] := by
  cases d with
  | tup ds =>
    obtain ⟨a, vs, rfl, s, rs⟩ := r
    obtain ⟨rfl, rfl⟩ := rs.keyL h
    exact ⟨a, rfl, hs _ _ s, rfl⟩
  | _ => cases h
end
/-- what a container holds under a key; behind a store -/
def getD : D → D → Option D
  | .lst _ ds, .int k => (ixN ds.length k).bind fun j => ds[j]?
  | .pin _ (.lst _ ds), .int k => (ixN ds.length k).bind fun j => ds[j]?
  | .tup ds, .int k => (ixN ds.length k).bind fun j => ds[j]?
  | .dK _ ks ds, k => (keyD k).bind fun k => (kIx ks k).bind fun j => ds[j]?
  | .dT _ ks ds, k => (keyT k).bind fun k => (kIx ks k).bind fun j => ds[j]?
  | _, _ => none
def putD : D → D → D → Option D
  | .lst true ds, .int k, y => (ixN ds.length k).map fun j => .lst true (ds.set j y)
  | .pin u (.lst true ds), .int k, y => (ixN ds.length k).map fun j => .pin u (.lst true (ds.set j y))
  | .dK true ks ds, k, y => if ds.length < 1000000 then (keyD k).map fun k => match kIx ks k with | some j => .dK true ks (ds.set j y) | none => .dK true (ks ++ [k]) (ds ++ [y]) else none
  | .dT true ks ds, k, y => if ds.length < 1000000 then (keyT k).map fun k => match kIx ks k with | some j => .dT true ks (ds.set j y) | none => .dT true (ks ++ [k]) (ds ++ [y]) else none
  | _, _, _ => none
section
variable {X : Cv}
structure VQ (X : Cv) (e : Expr) (t : VTE) : Prop where
  ex : ∃ t' : WX → TE, (∀ W, Takes X.toCx W → PE X.toCx e (t' W)) ∧ ∀ (b : Bx X) σ H ε T Tv W N (Q : D → Ep → Prop) (Q' : VK), SI X.K b.1 σ H ε T Tv → t N ε Q →
    (∀ d v ε' H', Sub H H' → SI X.K b.1 σ H' ε' (T ++ [d]) (Tv ++ [v]) → Q d ε' → Q' v H') → XL X.K b.1 T Tv W N → t' W σ H Q'
theorem vq_var {i : Nat} {x : Str} {pos : Pos} (hN : X.N[i]? = some x) (hv : Vis X.env.scope x) (hd : (x == ("__debug__" : Str)) = false := by decide) (hcd : (x == ("__classdict__" : Str)) = false := by decide) : VQ X (.Name x pos) (vVar i) := by
  refine ⟨fun _ => tVar i, fun _ _ => pe_var hN hv hd hcd, fun b σ H ε T Tv W N Q Q' I h k _ => ?_⟩
  obtain ⟨d, e, z, q⟩ := h
  obtain ⟨v, hs, J⟩ := I.var e z
  exact ⟨v, hs, k d v ε H Sub.refl J q⟩
theorem vq_of {e : Expr} {v : V} {d : D} (h : PE X.toCx e (tC v)) (r : ∀ G H, Rp X.K G H d v []) : VQ X e (vC d) :=
  ⟨fun _ => tC v, fun _ _ => h, fun b σ H ε T Tv W N Q Q' I q k _ => k d v ε H Sub.refl (I.push fun G => r G H) q⟩
theorem vq_int {i j pos} : VQ X (.Constant (.int i) j pos) (vC (.int i)) := vq_of pe_int fun _ _ => ⟨rfl, rfl⟩
theorem OpN.runQ {K : PySem.W.Frag} {r : List V → Hp → VK → Prop} {op : List D → (D → Prop) → Prop} (h : OpN K r op) {b : Bs} {σ : L2.St} {H0 H : Hp} {ε : Ep} {T : List D} {Tv : List V} {ds : List D} {vs : List V} {Q : D → Ep → Prop} {Q' : VK}
    (hl : T.length = Tv.length) (hd : ds.length = vs.length) (s : Sub H0 H) (I : SI K b σ H ε (T ++ ds) (Tv ++ vs)) (q : op ds fun d => Q d ε) (k : ∀ d v ε' H', Sub H0 H' → SI K b σ H' ε' (T ++ [d]) (Tv ++ [v]) → Q d ε' → Q' v H') : r vs H Q' :=
  h b σ H ε T Tv ds vs _ Q' hl hd I q fun d v H' s' J z => k d v _ H' (s.trans s') (SI.midDrops J hl hd) z
def vOpQ (op : List D → (D → Prop) → Prop) (t : VTA) : VTE := fun N ε Q => t N ε fun ds ε1 => op ds fun d => Q d ε1
theorem vq_un {e1 : Expr} {o : UnaryOp} {ta : VTE} {r : V → Hp → VK → Prop} {op : List D → (D → Prop) → Prop} {pos : Pos} (ho : UnR X.toCx (unaryOp o) r) (hp : OpN X.K (r1N r) op) (ha : VQ X e1 ta) : VQ X (.UnaryOp o e1 pos) (vOpQ op (va1 ta)) := by
  obtain ⟨ta', a1, a2⟩ := ha.ex
  refine ⟨fun W => tUn r (ta' W), fun W tk => pe_un ho (a1 W tk), fun b σ H ε T Tv W N Q Q' I q k x => ?_⟩
  refine a2 b σ H ε T Tv W N _ _ I q (fun d v ε1 H1 s1 J q1 => ?_) x
  obtain ⟨v', e, z⟩ := hp.runQ (ds := [d]) (vs := [v]) I.lenT rfl s1 J q1 k
  obtain ⟨rfl, _⟩ := List.cons.inj e
  exact z
abbrev VTP := WV → Ep → (List Stp → Prop) → Prop
structure VP (X : Cv) (e : Expr) (i : Nat) (t : VTP) : Prop where
  ex : ∃ t' : WX → TE, (∀ W, Takes X.toCx W → PE X.toCx e (t' W)) ∧ ∀ (b : Bx X) σ H ε T Tv W N (Q : List Stp → Prop) (Q' : VK), SI X.K b.1 σ H ε T Tv → t N ε Q →
    (∀ p d0 d v0 v H', Sub H H' → SI X.K b.1 σ H' ε T Tv → ε[i]? = some (some d0) → getP d0 p = some d → σ[i]? = some (some v0) → AtP H' d0 v0 p v → Q p → Q' v H') → XL X.K b.1 T Tv W N → t' W σ H Q'
def vpName (i : Nat) : VTP := fun _ ε Q => (∃ d0, ε[i]? = some (some d0)) ∧ Q []
theorem getP_nil (d : D) : getP d [] = some d := by cases d <;> rfl
theorem vp_name {i : Nat} {x : Str} {pos : Pos} (hN : X.N[i]? = some x) (hv : Vis X.env.scope x) (hd : (x == ("__debug__" : Str)) = false := by decide) (hcd : (x == ("__classdict__" : Str)) = false := by decide) : VP X (.Name x pos) i (vpName i) := by
  refine ⟨fun _ => tVar i, fun _ _ => pe_var hN hv hd hcd, fun b σ H ε T Tv W N Q Q' I h k _ => ?_⟩
  obtain ⟨⟨d0, e⟩, q⟩ := h
  obtain ⟨v, hs, J⟩ := I.mov e
  exact ⟨v, hs, k [] d0 d0 v v H Sub.refl I e (getP_nil _) hs .nil q⟩
theorem AtP.ix {H : Hp} {d0 v0 p a ds vs w} {j : Nat} : AtP H d0 v0 p (.ref a) → getP d0 p = some (.lst true ds) → H a = some (.lst vs) → ds.length = vs.length → vs[j]? = some w → AtP H d0 v0 (p ++ [.ix j]) w := by
  intro at_ g ha hl hw
  generalize hv : V.ref a = v at at_
  induction at_ with
  | nil =>
    subst hv
    rw [getP_nil] at g
    cases g
    have hj : j < ds.length := by rw [hl]; exact (List.getElem?_eq_some_iff.mp hw).1
    exact .lst ha (List.getElem?_eq_getElem hj) hl hw .nil
  | lst e1 e2 e3 e4 _ ih =>
    refine .lst e1 e2 e3 e4 (ih ?_ hv)
    rename_i es c a' us k p' w' v' at'
    have g : (match es[k]? with | some d => getP d p' | none => none) = some (.lst true ds) := g
    rw [e2] at g
    exact g
  | tup e1 e2 e3 e4 _ ih =>
    refine .tup e1 e2 e3 e4 (ih ?_ hv)
    rename_i es c a' us k p' w' v' at'
    have g : (match es[k]? with | some d => getP d p' | none => none) = some (.lst true ds) := g
    rw [e2] at g
    exact g
  | ins e1 e2 e3 e4 e5 _ ih =>
    refine .ins e1 e2 e3 e4 e5 (ih ?_ hv)
    rename_i C fs es c a' dx us k f p' w' v' at'
    have g : (match fdIx fs f with | some j => (match es[j]? with | some d => getP d p' | none => none) | none => none) = some (.lst true ds) := g
    rw [e2] at g
    have g : (match es[k]? with | some d => getP d p' | none => none) = some (.lst true ds) := g
    rw [e3] at g
    exact g
end
end VL
namespace VL
open PySem PySem.Spec PyProof.Rows L2 VL
theorem AtP.fd {H : Hp} {d0 v0 p a dx C C2 fs ds vs w f} {j : Nat} : AtP H d0 v0 p (.ref a) → getP d0 p = some (.ins true C fs ds) → H a = some (.ins C2 dx (fzip fs vs)) → fdIx fs f = some j → fs.length = vs.length → ds.length = vs.length → vs[j]? = some w → AtP H d0 v0 (p ++ [.fd f]) w := by
  intro at_ g ha hf hl hd hw
  generalize hv : V.ref a = v at at_
  induction at_ with
  | nil =>
    subst hv
    rw [getP_nil] at g
    cases g
    have hj : j < ds.length := by rw [hd]; exact (List.getElem?_eq_some_iff.mp hw).1
    exact .ins ha hf (List.getElem?_eq_getElem hj) hl hw .nil
  | lst e1 e2 e3 e4 _ ih =>
    refine .lst e1 e2 e3 e4 (ih ?_ hv)
    rename_i es c a' us k p' w' v' at'
    have g : (match es[k]? with | some d => getP d p' | none => none) = some (.ins true C fs ds) := g
    rw [e2] at g
    exact g
  | tup e1 e2 e3 e4 _ ih =>
    refine .tup e1 e2 e3 e4 (ih ?_ hv)
    rename_i es c a' us k p' w' v' at'
    have g : (match es[k]? with | some d => getP d p' | none => none) = some (.ins true C fs ds) := g
    rw [e2] at g
    exact g
  | ins e1 e2 e3 e4 e5 _ ih =>
    refine .ins e1 e2 e3 e4 e5 (ih ?_ hv)
    rename_i C' C3 gs es c a' dx' us k f' p' w' v' at'
    have g : (match fdIx gs f' with | some j => (match es[j]? with | some d => getP d p' | none => none) | none => none) = some (.ins true C fs ds) := g
    rw [e2] at g
    have g : (match es[k]? with | some d => getP d p' | none => none) = some (.ins true C fs ds) := g
    rw [e3] at g
    exact g
section
variable {K : PySem.W.Frag} {b : Bs} {σ : L2.St} {H : Hp} {ε : Ep} {T R : List D} {Tv Rv : List V}
/-- the node at a place, where its address is known -/
theorem SI.focusAt (I : SI K b σ H ε (T ++ R) (Tv ++ Rv)) (hl : T.length = Tv.length) {i : Nat} {d0 d : D} {p : List Stp} {v0 v : V} (e : ε[i]? = some (some d0)) (g : getP d0 p = some d) (hs : σ[i]? = some (some v0)) (at_ : AtP H d0 v0 p v) :
    ∃ G B FR, Sub G H ∧ Rp K G H d v B ∧ RpL K G H R Rv FR ∧ (B ++ FR).Nodup ∧ (∀ a ∈ B ++ FR, G a = none) ∧
      ∀ H' d' B' res w Fr, (∀ a, a ∉ B → H' a = H a) → Rp K G H' d' v B' → Rp K G H' res w Fr → (B ≠ [] ∨ B' = []) → (∃ L, (B' ++ (Fr ++ L)).Perm (B ++ FR)) → SI K b σ H' (ε.set i (some (setP d0 p d'))) (T ++ [res]) (Tv ++ [w]) := by
  obtain ⟨v0', v', G, B, FR, hs', at', su, r, rr, nd, fr, back⟩ := I.focus hl e g
  rw [hs] at hs'
  cases hs'
  have := at_.uniq at'
  subst this
  exact ⟨G, B, FR, su, r, rr, nd, fr, back⟩
theorem SI.nil0 (I : SI K b σ H ε T Tv) : SI K b σ H ε (T ++ []) (Tv ++ []) := by simpa using I
end
theorem ixN_lt {n : Nat} {i : Int} {j : Nat} (h : ixN n i = some j) : j < n := (ixN_seq h).2.1
section
variable {X : Cv}
/-- a step into a list that is ours -/
def vpIx (i : Nat) (t : VTP) (ti : VTE) : VTP := fun N ε Q => t N ε fun p => ti N ε fun k ε2 => ε2 = ε ∧ ∃ d0 ds z j, ε[i]? = some (some d0) ∧ getP d0 p = some (.lst true ds) ∧ k = .int z ∧ ixN ds.length z = some j ∧ Q (p ++ [.ix j])
/-- what stands at a place and stands still, read -/
def vAt (i : Nat) (t : VTP) : VTE := fun N ε Q => t N ε fun p => ∃ d0 d, ε[i]? = some (some d0) ∧ getP d0 p = some d ∧ isFz d = true ∧ Q d ε
theorem pa_list : PlainAttrs "list" := PySem.F.plainAttrs_list
theorem k1m {n : Nat} (h : n < 1000000) : n < sizeLine := Nat.lt_trans h (by decide)
/-- a method that changes a list: the items and the arguments give the new items and the answer -/
def MutOk (K : PySem.W.Frag) (r : V → List V → Hp → VK → Prop) (mu : List D → List D → Option (List D × D)) : Prop :=
  ∀ (G H : Hp) (a : Addr) (ds : List D) (vs : List V) (F : List Addr) (R : List D) (Rv : List V) (FR : List Addr) (ds' : List D) (res : D) (Q : VK), Sub G H → H a = some (.lst vs) → RpL K G H ds vs F → RpL K G H R Rv FR → (a :: (F ++ FR)).Nodup → G a = none → mu ds R = some (ds', res) →
    (∀ vs' w F' Fr, RpL K G H ds' vs' F' → Rp K G H res w Fr → (∃ L, (F' ++ (Fr ++ L)).Perm (F ++ FR)) → Q w (upd H a (.lst vs'))) → r (.ref a) Rv H Q
def vMut (mu : List D → List D → Option (List D × D)) (i : Nat) (t : VTP) (te : VTA) : VTE := fun N ε Q => t N ε fun p => ∃ d0 ds, ε[i]? = some (some d0) ∧ getP d0 p = some (.lst true ds) ∧ te N ε fun es ε1 => ∃ ds' res, ε1[i]? = some (some d0) ∧ mu ds es = some (ds', res) ∧ Q res (ε1.set i (some (setP d0 p (.lst true ds'))))
theorem mut_run {K : PySem.W.Frag} {b : Bs} {σ : L2.St} {H : Hp} {ε : Ep} {T R : List D} {Tv Rv : List V} {r : V → List V → Hp → VK → Prop} {mu : List D → List D → Option (List D × D)} (m : MutOk K r mu) (I : SI K b σ H ε (T ++ R) (Tv ++ Rv)) (hl : T.length = Tv.length) {i : Nat} {d0 : D} {p : List Stp} {v0 v : V} {ds ds' : List D} {res : D} {Q : VK}
    (e : ε[i]? = some (some d0)) (g : getP d0 p = some (.lst true ds)) (hs : σ[i]? = some (some v0)) (at_ : AtP H d0 v0 p v) (hm : mu ds R = some (ds', res))
    (k : ∀ w H', SI K b σ H' (ε.set i (some (setP d0 p (.lst true ds')))) (T ++ [res]) (Tv ++ [w]) → Q w H') : r v Rv H Q := by
  obtain ⟨G, B, FR, su, rr, rR, nd, fr, back⟩ := I.focusAt hl e g hs at_
  obtain ⟨a, vs, F', rfl, ha, rfl, rl⟩ := rr
  have nd2 : (a :: (F' ++ FR)).Nodup := nd
  refine m G H a ds vs F' R Rv FR ds' res Q su ha rl rR nd2 (fr a (by simp)) hm fun vs' w F2 Fr q1 q2 sp => ?_
  obtain ⟨L, sp⟩ := sp
  have na : ∀ c ∈ F2 ++ (Fr ++ L), c ≠ a := fun c hc z => (List.nodup_cons.mp nd2).1 (z ▸ sp.mem_iff.mp hc)
  have mv : ∀ c ∈ F2 ++ (Fr ++ L), upd H a (.lst vs') c = H c := fun c hc => upd_ne (na c hc)
  refine k w _ (back (upd H a (.lst vs')) (.lst true ds') (a :: F2) res w Fr (fun c hc => upd_ne fun z => hc (by rw [z]; simp)) ⟨a, vs', F2, rfl, upd_same, rfl, q1.mono Sub.refl fun c hc => mv c (List.mem_append_left _ hc)⟩ (q2.mono Sub.refl fun c hc => mv c (List.mem_append_right _ (List.mem_append_left _ hc))) (.inl (by simp)) ⟨L, ?_⟩)
  exact List.Perm.cons a sp
theorem tyV_list {K : PySem.W.Frag} {b : Bs} {σ : L2.St} {H : Hp} {ε : Ep} {T : List D} {Tv : List V} (I : SI K b σ H ε T Tv) {i : Nat} {d0 : D} {p : List Stp} {v0 v : V} {ds : List D} (e : ε[i]? = some (some d0)) (g : getP d0 p = some (.lst true ds)) (hs : σ[i]? = some (some v0)) (at_ : AtP H d0 v0 p v) : tyV K "list" v H := by
  obtain ⟨G, B, FR, su, rr, _⟩ := I.nil0.focusAt I.lenT e g hs at_
  obtain ⟨a, vs, F', rfl, ha, _⟩ := rr
  exact Or.inl ⟨rfl, vs, SqL.of ha⟩
/-- without arguments -/
theorem ve_mut0 {o : Expr} {i : Nat} {t : VTP} {name : Str} {id : String} {r : V → List V → Hp → VK → Prop} {mu : List D → List D → Option (List D × D)} {apos cpos : Pos} (h : VP X o i t) (m : MutOk X.K r mu) (sl : Slot "list" name id) (ty : typeOf (.builtin id) = pure (.type "method_descriptor")) (mt : MtR X.toCx id r)
    (hbase : attributeBase o name X.env (eval o X.env) = eval o X.env := by rfl) (hline : (apos.endLine == cpos.line) = true := by rfl) :
    VE X (.Call (.Attribute o name apos) [] [] cpos) (vMut mu i t vaNil) := by
  obtain ⟨t', a1, a2⟩ := h.ex
  refine ⟨fun W => tBM0 X.K "list" r (t' W), fun W tk => pe_bm0 pa_list sl ty mt (a1 W tk) hbase hline, fun b σ H ε T Tv W N Q Q' I q k x => ?_⟩
  refine a2 b σ H ε T Tv W N _ _ I q (fun p d0 d v0 v H1 s1 I1 e0 g hs at_ q1 => ?_) x
  obtain ⟨d0', ds, e1, g', ds', res, e2, hm, q2⟩ := q1
  rw [e0] at e1
  cases e1
  exact ⟨tyV_list I1 e0 g' hs at_, mut_run m I1.nil0 I.lenT e0 g' hs at_ hm fun w H' J => k res w _ H' J q2⟩
/-- x.append(e) and its like, x a name, e anything -/
def vMutN (mu : List D → List D → Option (List D × D)) (i : Nat) (te : VTA) : VTE := fun N ε Q => (∃ ds, ε[i]? = some (some (.lst true ds))) ∧ te N ε fun es ε1 => ∃ ds ds' res, ε1[i]? = some (some (.lst true ds)) ∧ mu ds es = some (ds', res) ∧ Q res (ε1.set i (some (.lst true ds')))
theorem ve_mutN {y : Str} {opos : Pos} {e : Expr} {es : List Expr} {i : Nat} {rs : List (Option Nat)} {te : VTA} {name : Str} {id : String} {r : V → List V → Hp → VK → Prop} {mu : List D → List D → Option (List D × D)} {apos cpos : Pos} (hN : X.N[i]? = some y) (hv : Vis X.env.scope y) (he : VA X (e :: es) rs te) (hrs : rs.all (· == none) = true) (m : MutOk X.K r mu) (sl : Slot "list" name id) (ty : typeOf (.builtin id) = pure (.type "method_descriptor")) (mt : MtR X.toCx id r)
    (hd : (y == ("__debug__" : Str)) = false := by decide) (hcd : (y == ("__classdict__" : Str)) = false := by decide)
    (hbase : attributeBase (.Name y opos) name X.env (eval (.Name y opos) X.env) = eval (.Name y opos) X.env := by rfl)
    (hfew : ((backTo cpos (starEach (e :: es) X.env)).all (fun x => !x.1) && (backToKw cpos (keywordEach [] X.env)).all (fun x => x.1.isSome) && decide ((e :: es).length + ([] : List Keyword).length + (if ([] : List Keyword).isEmpty then 0 else 1) < 30)) = true := by rfl)
    (hline : (apos.endLine == cpos.line) = true := by rfl) (hs : starEach (e :: es) X.env = (false, eval e X.env) :: starEach es X.env := by rfl) (hplain : (backTo cpos (starEach es X.env)).any (·.1) = false := by rfl) :
    VE X (.Call (.Attribute (.Name y opos) name apos) (e :: es) [] cpos) (vMutN mu i te) := by
  obtain ⟨u', b1, b2⟩ := he.ex
  refine ⟨fun W => tBM X.K "list" r (tVar i) (u' W), fun W tk => pe_bm pa_list sl ty mt (pe_var hN hv hd hcd) (b1 W tk) hbase hfew hline hs hplain, fun b σ H ε T Tv W N Q Q' I q k x => ?_⟩
  obtain ⟨⟨ds0, e0⟩, q⟩ := q
  obtain ⟨v, hs, _⟩ := I.mov e0
  refine ⟨v, hs, tyV_list I e0 (getP_nil _) hs .nil, b2 b σ H ε T Tv W N _ _ I q (fun ys ws ε2 H2 I2 l hh q2 => ?_) x⟩
  obtain ⟨ds, ds', res, e2, hm, q2⟩ := q2
  exact mut_run m I2 I.lenT e2 (getP_nil _) hs .nil hm fun w H' J => k res w _ H' J q2
def muAppend : List D → List D → Option (List D × D) := fun ds es => match es with | [y] => if ds.length < 1000000 then some (ds ++ [y], .non) else none | _ => none
def muPop : List D → List D → Option (List D × D) := fun ds es => match es with | [] => (ds[ds.length - 1]?).map fun y => (ds.dropLast, y) | _ => none
theorem mu_append {K : PySem.W.Frag} : MutOk K rAppend muAppend := by
  intro G H a ds vs F R Rv FR ds' res Q su ha rl rR nd ga hm k
  match R, hm with
  | [y], hm =>
    have hm : (if ds.length < 1000000 then some (ds ++ [y], D.non) else none) = some (ds', res) := hm
    by_cases hz : ds.length < 1000000
    · rw [if_pos hz] at hm
      cases hm
      obtain ⟨w, rfl, rw_⟩ := rR.one'
      exact ⟨a, vs, w, rfl, rfl, ha, k1m (by rw [← rl.len]; exact hz), k _ _ _ [] (rl.append rR) ⟨rfl, rfl⟩ ⟨[], by simp⟩⟩
    · rw [if_neg hz] at hm; cases hm
theorem mu_pop {K : PySem.W.Frag} : MutOk K rPop muPop := by
  intro G H a ds vs F R Rv FR ds' res Q su ha rl rR nd ga hm k
  match R, hm with
  | [], hm =>
    have hm : (ds[ds.length - 1]?).map (fun y => (ds.dropLast, y)) = some (ds', res) := hm
    obtain ⟨rfl, rfl⟩ := rR
    cases e : ds[ds.length - 1]? with
    | none => rw [e] at hm; cases hm
    | some y =>
      rw [e] at hm
      cases hm
      have hne : ds ≠ [] := fun z => by subst z; cases e
      have e2 : ds = ds.dropLast ++ [res] := by
        have h1 := List.dropLast_concat_getLast hne
        have h2 : ds.getLast hne = res := by
          rw [List.getLast_eq_getElem]
          have := List.getElem?_eq_some_iff.mp e
          exact this.2
        rw [h2] at h1
        exact h1.symm
      have rl2 := rl
      rw [e2] at rl2
      obtain ⟨us, ws, F1, F2, rfl, rfl, r1, r2⟩ := RpL.split rl2
      obtain ⟨w, rfl, rw_⟩ := r2.one'
      refine ⟨a, us ++ [w], w, rfl, rfl, ha, by simp, ?_⟩
      rw [List.dropLast_concat]
      have e3 : (ds.dropLast ++ [res]).dropLast = ds.dropLast := List.dropLast_concat
      exact k us w F1 F2 r1 rw_ ⟨[], by simp⟩
end
end VL
namespace VL
open PySem PySem.Spec PyProof.Rows L2 VL
/-- a[i] = v, of a list or a dict -/
def rSetAny : V → V → V → Hp → (Hp → Prop) → Prop := fun o i v H Q => rSetL o i v H Q ∨ ∃ a H4, o = .ref a ∧ DPut H a i v H4 ∧ Q H4
theorem pset_any {X : Cx} (hu : X.A.units + 1 < cLine) : PSet X rSetAny := by
  intro pins s σ H o i v ov iv u Q I ro ri rv h
  rcases h with h | ⟨a, H4, rfl, g, q⟩
  · exact set_list pins s σ H o i v ov iv u Q I ro ri rv h
  · obtain rfl : ov = Value.ref a := ro
    exact d_setItem hu I g ri rv fun s4 I4 => ⟨H4, I4, q⟩
theorem RpL.setAt {K : PySem.W.Frag} {G H : Hp} {ds : List D} {vs : List V} {F : List Addr} {j : Nat} {y : D} {w : V} {Fy : List Addr} (r : RpL K G H ds vs F) (hj : j < ds.length) (ry : Rp K G H y w Fy) : ∃ F', RpL K G H (ds.set j y) (vs.set j w) F' ∧ ∃ L, (F' ++ L).Perm (F ++ Fy) := by
  obtain ⟨v, A, B, C, hv, rfl, rv, back⟩ := r.focus (i := j) (List.getElem?_eq_getElem hj)
  refine ⟨A ++ Fy ++ C, back G H y w Fy Sub.refl (fun _ _ => rfl) ry, B, ?_⟩
  apply List.perm_iff_count.mpr
  intro a
  simp only [List.count_append]
  omega
section
variable {K : PySem.W.Frag} {b : Bs} {σ : L2.St} {H : Hp} {ε : Ep} {T : List D} {Tv : List V} {y k : D} {w kv : V}
theorem idx_nodup {α : Type} [DecidableEq α] : ∀ {ks : List α} {k : α}, kIx ks k = none → ks.Nodup → (ks ++ [k]).Nodup
  | ks, k, h, n => by
    have : ∀ {ks : List α}, kIx ks k = none → k ∉ ks := by
      intro ks
      induction ks with
      | nil => intro _; simp
      | cons a ks ih =>
        intro h
        unfold kIx at h
        split at h
        · cases h
        · rename_i na
          cases e : kIx ks k with
          | some i => rw [e] at h; cases h
          | none =>
            intro hm
            rcases List.mem_cons.mp hm with z | z
            · exact na z.symm
            · exact ih e z
    refine List.nodup_append.mpr ⟨n, by simp, fun a ha c hc e => ?_⟩
    have hc : c = k := by simpa using hc
    subst hc e
    exact this h ha
/-- a store runs -/
theorem put_run (I : SI K b σ H ε (T ++ [y, k]) (Tv ++ [w, kv])) (hl : T.length = Tv.length) {i : Nat} {d0 c c' : D} {p : List Stp} {v0 v : V} {Q : Hp → Prop}
    (e : ε[i]? = some (some d0)) (g : getP d0 p = some c) (hs : σ[i]? = some (some v0)) (at_ : AtP H d0 v0 p v) (hm : putD c k y = some c')
    (q : ∀ H', SI K b σ H' (ε.set i (some (setP d0 p c'))) T Tv → Q H') : rSetAny v kv w H Q := by
  obtain ⟨G, B, FR, su, rr, rR, nd, fr, back⟩ := I.focusAt hl e g hs at_
  obtain ⟨w', vs1, Fy, A2, e1, rfl, ry, k', vs2, Fk, A3, e2, rfl, rk, rfl, rfl⟩ := rR
  cases e1
  cases e2
  -- the new node at a
  have fin : ∀ (a : Addr) (F' : List Addr) (o : HO) (F2 : List Addr), B = a :: F' → (∀ H', H' a = some o → (∀ z ∈ F2, H' z = H z) → Rp K G H' c' v (a :: F2)) → (∃ L, (F2 ++ L).Perm (F' ++ Fy)) → SI K b σ (upd H a o) (ε.set i (some (setP d0 p c'))) T Tv := by
    intro a F' o F2 eB mk sp
    subst eB
    obtain ⟨L, sp⟩ := sp
    have nd2 : (a :: (F' ++ (Fy ++ (Fk ++ [])))).Nodup := nd
    have na : ∀ z ∈ F2, z ≠ a := fun z hz e => by
      have h1 : z ∈ F' ++ Fy := sp.mem_iff.mp (List.mem_append_left _ hz)
      refine (List.nodup_cons.mp nd2).1 (e ▸ ?_)
      simp only [List.mem_append] at h1 ⊢
      grind
    have J := back (upd H a o) c' (a :: F2) .non .non [] (fun z hz => upd_ne fun e => hz (by rw [e]; simp)) (mk _ upd_same fun z hz => upd_ne (na z hz)) ⟨rfl, rfl⟩ (.inl (by simp)) ⟨L ++ Fk, ?_⟩
    · exact J.drop hl
    · apply List.perm_iff_count.mpr
      intro z
      have := sp.count_eq z
      simp only [List.count_append, List.count_cons, List.cons_append, List.nil_append, List.count_nil] at this ⊢
      omega
  have growF : ∀ {A L Fy' : List Addr}, (A ++ L).Perm (Fy' ++ Fy) → ∃ L, (A ++ L).Perm (Fy' ++ Fy) := fun h => ⟨_, h⟩
  cases c with
  | lst m ds =>
    cases m with
    | false => cases hm
    | true =>
      cases k with
      | int kk =>
        obtain ⟨rfl, rfl⟩ := rk
        have hm : (ixN ds.length kk).map (fun j => D.lst true (ds.set j y)) = some c' := hm
        cases hj : ixN ds.length kk with
        | none => rw [hj] at hm; cases hm
        | some j =>
          rw [hj] at hm
          cases hm
          obtain ⟨a, vs, F', rfl, ha, rfl, rl⟩ := rr
          have hlt := ixN_lt hj
          obtain ⟨F2, r2, sp⟩ := rl.setAt hlt ry
          exact .inl ⟨a, vs, kk, j, rfl, rfl, ha, by rw [← rl.len]; exact hj, q _ (fin a F' _ F2 rfl (fun H' h1 h2 => ⟨a, _, F2, rfl, h1, rfl, r2.mono Sub.refl h2⟩) sp)⟩
      | _ => cases hm
  | pin u c1 =>
    cases c1 with
    | lst m ds =>
      cases m with
      | false => cases hm
      | true =>
        cases k with
        | int kk =>
          obtain ⟨rfl, rfl⟩ := rk
          have hm : (ixN ds.length kk).map (fun j => D.pin u (.lst true (ds.set j y))) = some c' := hm
          cases hj : ixN ds.length kk with
          | none => rw [hj] at hm; cases hm
          | some j =>
            rw [hj] at hm
            cases hm
            obtain ⟨rfl, a, vs, F', rfl, ha, rfl, rl⟩ := rr
            have hlt := ixN_lt hj
            obtain ⟨F2, r2, sp⟩ := rl.setAt hlt ry
            exact .inl ⟨a, vs, kk, j, rfl, rfl, ha, by rw [← rl.len]; exact hj, q _ (fin a F' _ F2 rfl (fun H' h1 h2 => ⟨rfl, a, _, F2, rfl, h1, rfl, r2.mono Sub.refl h2⟩) sp)⟩
        | _ => cases hm
    | _ => cases hm
  | dK m ks ds =>
    cases m with
    | false => cases hm
    | true =>
      have hm : (if ds.length < 1000000 then (keyD k).map fun k => (match kIx ks k with | some j => D.dK true ks (ds.set j y) | none => D.dK true (ks ++ [k]) (ds ++ [y])) else none) = some c' := hm
      by_cases hz : ds.length < 1000000
      · rw [if_pos hz] at hm
        cases hk : keyD k with
        | none => rw [hk] at hm; cases hm
        | some kc0 =>
          rw [hk] at hm
          obtain ⟨a, vs, F', rfl, ha, rfl, l1, n1, rl⟩ := rr
          obtain ⟨rfl, rfl⟩ := rk.keyD hk
          have l2 : ks.length = vs.length := l1.trans rl.len
          refine .inr ⟨a, _, rfl, DPut.k ha (k1m (by unfold kzip; rw [List.length_zip, List.length_map, l2, Nat.min_self, ← rl.len]; exact hz)), ?_⟩
          rw [kzip_put n1 l2]
          cases hi : kIx ks kc0 with
          | some j =>
            have hm : some (D.dK true ks (ds.set j y)) = some c' := by rw [← hm, Option.map_some, hi]
            cases hm
            have hlt : j < ds.length := by rw [← l1]; exact kIx_lt hi
            obtain ⟨F2, r2, sp⟩ := rl.setAt hlt ry
            exact q _ (fin a F' _ F2 rfl (fun H' h1 h2 => ⟨a, _, F2, rfl, h1, rfl, by simpa using l1, n1, r2.mono Sub.refl h2⟩) sp)
          | none =>
            have hm : some (D.dK true (ks ++ [kc0]) (ds ++ [y])) = some c' := by rw [← hm, Option.map_some, hi]
            cases hm
            exact q _ (fin a F' _ (F' ++ Fy) rfl (fun H' h1 h2 => ⟨a, _, F' ++ Fy, rfl, h1, rfl, by simp [l1], idx_nodup hi n1, (rl.append (RpL.one.mpr ry)).mono Sub.refl h2⟩) ⟨[], by simp⟩)
      · rw [if_neg hz] at hm; cases hm
  | dT m ks ds =>
    cases m with
    | false => cases hm
    | true =>
      have hm : (if ds.length < 1000000 then (keyT k).map fun k => (match kIx ks k with | some j => D.dT true ks (ds.set j y) | none => D.dT true (ks ++ [k]) (ds ++ [y])) else none) = some c' := hm
      by_cases hz : ds.length < 1000000
      · rw [if_pos hz] at hm
        cases hk : keyT k with
        | none => rw [hk] at hm; cases hm
        | some kc0 =>
          rw [hk] at hm
          obtain ⟨a, vs, F', rfl, ha, rfl, l1, n1, rl⟩ := rr
          obtain ⟨kb, rfl, hkb, rfl⟩ := rk.keyT su hk
          have l2 : ks.length = vs.length := l1.trans rl.len
          refine .inr ⟨a, _, rfl, DPut.t ha hkb (k1m (by unfold tzip; rw [List.length_zip, List.length_map, l2, Nat.min_self, ← rl.len]; exact hz)), ?_⟩
          rw [tzip_put n1 l2]
          cases hi : kIx ks kc0 with
          | some j =>
            have hm : some (D.dT true ks (ds.set j y)) = some c' := by rw [← hm, Option.map_some, hi]
            cases hm
            have hlt : j < ds.length := by rw [← l1]; exact kIx_lt hi
            obtain ⟨F2, r2, sp⟩ := rl.setAt hlt ry
            exact q _ (fin a F' _ F2 rfl (fun H' h1 h2 => ⟨a, _, F2, rfl, h1, rfl, by simpa using l1, n1, r2.mono Sub.refl h2⟩) sp)
          | none =>
            have hm : some (D.dT true (ks ++ [kc0]) (ds ++ [y])) = some c' := by rw [← hm, Option.map_some, hi]
            cases hm
            exact q _ (fin a F' _ (F' ++ Fy) rfl (fun H' h1 h2 => ⟨a, _, F' ++ Fy, rfl, h1, rfl, by simp [l1], idx_nodup hi n1, (rl.append (RpL.one.mpr ry)).mono Sub.refl h2⟩) ⟨[], by simp⟩)
      · rw [if_neg hz] at hm; cases hm
  | _ => cases hm
end
section
variable {X : Cv}
/-- place[k] = e -/
def vSet (i : Nat) (te : VTE) (tp : VTP) (tk : VTE) : VTS := fun N ε => te N.rx ε fun d ε1 => tp N.rx ε1 fun p => tk N.rx ε1 fun k ε2 => ∃ d0 c c', ε2[i]? = some (some d0) ∧ ε1[i]? = some (some d0) ∧ getP d0 p = some c ∧ putD c k d = some c' ∧ N.nx (ε2.set i (some (setP d0 p c')))
theorem vs_set {o ie e : Expr} {i : Nat} {te tk : VTE} {tp : VTP} {pos tpos : Pos} {k : Nat} (hr : Room k X.A) (he : VE X e te) (hp : VP X o i tp) (hk : VQ X ie tk)
    (hsw : swapsWithSole [.Subscript o ie tpos] e pos.line X.env = pure false := by rfl) (hw : swappedStores [.Subscript o ie tpos] e X.env = pure none := by rfl)
    (h1 : (assignEach [.Subscript o ie tpos] X.env).map (·.2) = [assign (.Subscript o ie tpos) X.env] := by rfl)
    (ha : ∀ v, assign (.Subscript o ie tpos) X.env v = (do
      let ov ← holding [v] (eval o X.env)
      let iv ← holding [v, ov] (eval ie X.env)
      standAt tpos
      holding [v, ov, iv] (setItem ov iv v)
      release [v, ov, iv] []) := by intro _; rfl) : VS X (.Assign [.Subscript o ie tpos] e pos) (vSet i te tp tk) := by
  obtain ⟨te', e1, e2⟩ := he.ex
  obtain ⟨tp', p1, p2⟩ := hp.ex
  obtain ⟨tk', k1, k2⟩ := hk.ex
  refine ⟨fun W => tAsg (te' W) (gSub (tp' W) (tk' W) rSetAny), fun W tk => ps_asg (e1 W tk) (pg_sub (p1 W tk) (k1 W tk) (pset_any (by have := hr.units; omega)) ha) hsw hw h1, fun b σ H ε T Tv W N E I q l x => ?_⟩
  refine e2 b σ H ε T Tv W N.rx _ _ I q (fun d v ε1 H1 I1 q1 => ?_) x
  have x1 : XL X.K b.1 (T ++ [d]) (Tv ++ [v]) W N.rx := x.more I.lenT rfl
  refine p2 b σ H1 ε1 (T ++ [d]) (Tv ++ [v]) W N.rx _ _ I1 q1 (fun p d0 c v0 vc H2 s2 I2 ei g hs at_ q2 => ?_) x1
  refine k2 b σ H2 ε1 (T ++ [d]) (Tv ++ [v]) W N.rx _ _ I2 q2 (fun kd kv ε2 H3 s3 I3 q3 => ?_) x1
  obtain ⟨d0', c0, c', ei2, ei1, g', hm, q3⟩ := q3
  rw [ei] at ei1
  cases ei1
  rw [g] at g'
  cases g'
  exact put_run (by simpa only [List.append_assoc, List.cons_append, List.nil_append] using I3) I.lenT ei2 g hs (at_.grow s3) hm fun H' J => l.nx σ H' _ J q3
end
end VL
namespace VL
open PySem PySem.Spec PyProof.Rows L2 VL
section
variable {K : PySem.W.Frag} {b : Bs} {σ : L2.St} {H : Hp} {ε : Ep} {T : List D} {Tv : List V}
theorem SIx.pushL {G F Ft} : ∀ {ds : List D} {vs : List V} {T : List D} {Tv : List V}, SIx K b G F Ft σ H ε T Tv → RpL K G H ds vs [] → SIx K b G F Ft σ H ε (T ++ ds) (Tv ++ vs)
  | [], vs, T, Tv, I, r => by
    obtain ⟨rfl, _⟩ := r
    simpa using I
  | d :: ds, vs, T, Tv, I, r => by
    obtain ⟨v, vs', F1, F2, rfl, f, rd, rs⟩ := r
    obtain ⟨rfl, rfl⟩ := List.append_eq_nil_iff.mp f.symm
    have := SIx.pushL (I.push rd) rs
    simpa only [List.append_assoc, List.cons_append, List.nil_append] using this
end
/-- the answer of an operation: a value, or a new object of things that stand still -/
inductive Nw (K : PySem.W.Frag) (G H : Hp) : D → V → Hp → Prop where
  | val {d v} : (∀ G' H', Sub G G' → Rp K G' H' d v []) → Nw K G H d v H
  | lst {ys : List D} {ws : List V} {p : Addr} : RpL K G H ys ws [] → H p = none → Nw K G H (.lst true ys) (.ref p) (upd H p (.lst ws))
  | tup {ys : List D} {ws : List V} {p : Addr} : RpL K G H ys ws [] → H p = none → Nw K G H (.tup ys) (.ref p) (upd H p (.tup ws))
  | dK {ks : List Kc} {ys : List D} {ws : List V} {p : Addr} : RpL K G H ys ws [] → H p = none → ks.length = ys.length → ks.Nodup → Nw K G H (.dK true ks ys) (.ref p) (upd H p (.dK (kzip ks ws)))
  | dT {ks : List (List Kc)} {ys : List D} {ws : List V} {p : Addr} : RpL K G H ys ws [] → H p = none → ks.length = ys.length → ks.Nodup → Nw K G H (.dT true ks ys) (.ref p) (upd H p (.dT (tzip ks ws)))
theorem OpN.mk {K : PySem.W.Frag} {r : List V → Hp → VK → Prop} {op : List D → (D → Prop) → Prop}
    (h : ∀ (G H : Hp) (ds : List D) (vs : List V) (F : List Addr) (Q : D → Prop) (Q' : VK), Sub G H → RpL K G H ds vs F → op ds Q → (∀ d v H', Nw K G H d v H' → Q d → Q' v H') → r vs H Q') : OpN K r op :=
  fun b σ H ε T Tv ds vs Q Q' hl hd I q k => by
    obtain ⟨G, F, Ft, J⟩ := I
    obtain ⟨F1, F2, rfl, r1, r2⟩ := J.temps.split2 hl
    have hl2 : (T ++ ds).length = (Tv ++ vs).length := by simp [hl, hd]
    refine h G H ds vs F2 Q Q' J.sub r2 q fun d v H' nw z => ?_
    cases nw with
    | val rd =>
      refine k d v H Sub.refl ⟨G, F, F1 ++ F2, ?_⟩ z
      have := J.push (d := d) (v := v) (rd G H Sub.refl)
      simpa only [List.append_assoc] using this
    | lst ry hp =>
      refine k _ _ _ (Sub.laid hp) ?_ z
      have := SI.laid (ds := _) (vs := _) ⟨G, F, F1 ++ F2, J.pushL ry⟩ hl2 hp (.lst _) (fun G H' F e r => (show Rp K G H' (.lst true _) _ _ from ⟨_, _, F, rfl, e, rfl, r⟩))
      simpa only [List.append_assoc] using this
    | tup ry hp =>
      refine k _ _ _ (Sub.laid hp) ?_ z
      have := SI.tup (ds := _) (vs := _) ⟨G, F, F1 ++ F2, J.pushL ry⟩ hl2 hp
      simpa only [List.append_assoc] using this
    | dK ry hp l n =>
      refine k _ _ _ (Sub.laid hp) ?_ z
      have := SI.laid (ds := _) (vs := _) ⟨G, F, F1 ++ F2, J.pushL ry⟩ hl2 hp (.dK _) (fun G H' F e r => (show Rp K G H' (.dK true _ _) _ _ from ⟨_, _, F, rfl, e, rfl, l, n, r⟩))
      simpa only [List.append_assoc] using this
    | dT ry hp l n =>
      refine k _ _ _ (Sub.laid hp) ?_ z
      have := SI.laid (ds := _) (vs := _) ⟨G, F, F1 ++ F2, J.pushL ry⟩ hl2 hp (.dT _) (fun G H' F e r => (show Rp K G H' (.dT true _ _) _ _ from ⟨_, _, F, rfl, e, rfl, l, n, r⟩))
      simpa only [List.append_assoc] using this
theorem kzip_len {ks : List Kc} {vs : List V} (h : ks.length = vs.length) : (kzip ks vs).length = vs.length := by
  unfold kzip; rw [List.length_zip, List.length_map, h, Nat.min_self]
theorem tzip_len {ks : List (List Kc)} {vs : List V} (h : ks.length = vs.length) : (tzip ks vs).length = vs.length := by
  unfold tzip; rw [List.length_zip, List.length_map, h, Nat.min_self]
def seqD : D → Option (List D)
  | .lst _ ds => some ds
  | .tup ds => some ds
  | _ => none
theorem Rp.seqD {K : PySem.W.Frag} {G H : Hp} (hs : Sub G H) {d : D} {v : V} {F : List Addr} {ds : List D} (r : Rp K G H d v F) (h : VL.seqD d = some ds) : ∃ p vs F', v = .ref p ∧ (SqL K H p vs ∨ SqT K H p vs) ∧ RpL K G H ds vs F' := by
  cases d with
  | lst m xs =>
    cases h
    cases m with
    | false => obtain ⟨a, vs, rfl, s, rfl, r⟩ := r; exact ⟨a, vs, _, rfl, .inl (hs.sqL s), r⟩
    | true => obtain ⟨a, vs, F', rfl, s, rfl, r⟩ := r; exact ⟨a, vs, _, rfl, .inl (SqL.of s), r⟩
  | tup xs =>
    cases h
    obtain ⟨a, vs, rfl, s, r⟩ := r
    exact ⟨a, vs, _, rfl, .inr (SqT.of (hs _ _ s)), r⟩
  | _ => cases h
def seqP : D → Option (List D)
  | .pin _ (.lst m ds) => some ds
  | d => seqD d
theorem Rp.seqP {K : PySem.W.Frag} {G H : Hp} (hs : Sub G H) {d : D} {v : V} {F : List Addr} {ds : List D} (r : Rp K G H d v F) (h : VL.seqP d = some ds) : ∃ p vs F', v = .ref p ∧ (SqL K H p vs ∨ SqT K H p vs) ∧ RpL K G H ds vs F' := by
  cases d with
  | pin u c =>
    obtain ⟨rfl, r⟩ := r
    cases c with
    | lst m xs =>
      cases h
      exact r.seqD hs rfl
    | _ => cases h
  | lst m xs => exact r.seqD hs h
  | tup xs => exact r.seqD hs h
  | _ => cases h
def lenD : D → Option Nat
  | .str s => if s.length < 1000000 then some s.length else none
  | .lst _ ds => some ds.length
  | .tup ds => some ds.length
  | .dK _ _ ds => some ds.length
  | .dT _ _ ds => some ds.length
  | _ => none
def sLen : List D → (D → Prop) → Prop := fun ds Q => ∃ x n, ds = [x] ∧ lenD x = some n ∧ Q (.int n)
def rLenA (K : PySem.W.Frag) : List V → Hp → VK → Prop := fun xs H Q => (∃ x n, xs = [x] ∧ LenV K x H n ∧ Q (.int n) H) ∨ (∃ a kvs, xs = [V.ref a] ∧ Rd H a (.dK kvs) ∧ Q (.int kvs.length) H) ∨ rLenT xs H Q
theorem call_lenR {X : Cx} : CallR X (.builtin "len") (fun xs H Q => ∃ a kvs, xs = [V.ref a] ∧ Rd H a (.dK kvs) ∧ Q (.int kvs.length) H) := by
  intro pins s σ H xs us Q I r h
  obtain ⟨a, kvs, rfl, e, q⟩ := h
  obtain ⟨u, rfl, ru⟩ := vals1 r
  cases ru
  exact d_len I e fun t s' J => ⟨.int kvs.length, H, J, ⟨t, rfl⟩, q⟩
theorem call_lenA {X : Cx} : CallR X (.builtin "len") (rLenA X.K) := CallR.or call_len (CallR.or call_lenR call_len_dT)
theorem toS_len (s : Cs) : (toS s).length = s.length := by
  show (toS s).cps.size = s.length
  simp [toS]
theorem opn_len {K : PySem.W.Frag} : OpN K (rLenA K) sLen := OpN.pure fun G H ds vs F Q Q' hs r q k => by
  obtain ⟨x, n, rfl, hn, q⟩ := q
  obtain ⟨v, rfl, rx⟩ := r.one'
  have fin : Q' (.int n) H := k (.int n) _ (fun _ _ _ => ⟨rfl, rfl⟩) q
  cases x with
  | str s =>
    obtain ⟨rfl, _⟩ := rx
    by_cases hz : s.length < 1000000
    · have hn : (if s.length < 1000000 then some s.length else none) = some n := hn
      rw [if_pos hz] at hn
      cases hn
      exact .inl ⟨_, s.length, rfl, ⟨by rw [toS_len]; exact Nat.le_of_lt (k1m hz), (toS_len s).symm⟩, fin⟩
    · have hn : (if s.length < 1000000 then some s.length else none) = some n := hn
      rw [if_neg hz] at hn
      cases hn
  | lst m xs =>
    cases hn
    obtain ⟨p, us, F', rfl, hq, rl⟩ := rx.seqD hs rfl
    rw [rl.len] at fin
    refine .inl ⟨_, us.length, rfl, ?_, fin⟩
    rcases hq with hq | hq
    · exact .inl ⟨us, hq, rfl⟩
    · exact .inr ⟨us, hq, rfl⟩
  | tup xs =>
    cases hn
    obtain ⟨p, us, F', rfl, hq, rl⟩ := rx.seqD hs rfl
    rw [rl.len] at fin
    refine .inl ⟨_, us.length, rfl, ?_, fin⟩
    rcases hq with hq | hq
    · exact .inl ⟨us, hq, rfl⟩
    · exact .inr ⟨us, hq, rfl⟩
  | dK m ks xs =>
    cases hn
    have : ∃ a us F', v = .ref a ∧ Rd H a (.dK (kzip ks us)) ∧ ks.length = xs.length ∧ RpL K G H xs us F' := by
      cases m with
      | false => obtain ⟨a, us, e, s, _, l, _, r⟩ := rx; exact ⟨a, us, _, e, hs.rd s, l, r⟩
      | true => obtain ⟨a, us, F', e, s, _, l, _, r⟩ := rx; exact ⟨a, us, _, e, .inl s, l, r⟩
    obtain ⟨a, us, F', rfl, e, l, rl⟩ := this
    refine .inr (.inl ⟨a, _, rfl, e, ?_⟩)
    rw [kzip_len (l.trans rl.len), ← rl.len]
    exact fin
  | dT m ks xs =>
    cases hn
    have : ∃ a us F', v = .ref a ∧ H a = some (.dT (tzip ks us)) ∧ ks.length = xs.length ∧ RpL K G H xs us F' := by
      cases m with
      | false => obtain ⟨a, us, e, s, _, l, _, r⟩ := rx; exact ⟨a, us, _, e, hs _ _ s, l, r⟩
      | true => obtain ⟨a, us, F', e, s, _, l, _, r⟩ := rx; exact ⟨a, us, _, e, s, l, r⟩
    obtain ⟨a, us, F', rfl, e, l, rl⟩ := this
    refine .inr (.inr ⟨a, _, rfl, e, ?_⟩)
    rw [tzip_len (l.trans rl.len), ← rl.len]
    exact fin
  | _ => cases hn
def rIxD : R2 := fun x y H Q => ∃ a v, x = .ref a ∧ DGet H a y (some v) ∧ Q v H
theorem ix_dict {X : Cx} (hu : X.A.units + 1 < cLine) : IxR X rIxD := by
  intro value slice pins s σ H x y v u Q I rx ry h hs
  obtain ⟨a, z, rfl, g, q⟩ := h
  obtain rfl : v = Value.ref a := rx
  exact tail_any (dict_typeIs I g) slot_dict_getitem.lookup (d_getItem hu I g ry fun w' s' I' rw' => ⟨z, H, I', rw', q⟩) hs
def rIxA (K : PySem.W.Frag) : R2 := fun x y H Q => rIx K x y H Q ∨ rIxD x y H Q
theorem ix_any {X : Cx} {k : Nat} (hr : Room k X.A) : IxR X (rIxA X.K) := ix_seq.or (ix_dict (by have := hr.units; omega))
/-- a subscript: the item, which stands still -/
def ixD : D → D → Option D
  | .str s, .int i => if s.length < 1000000 then (ixN s.length i).bind fun j => (s[j]?).map fun c => .str [c] else none
  | c, k => getD c k
def sIx : List D → (D → Prop) → Prop := fun ds Q => ∃ c k d, ds = [c, k] ∧ ixD c k = some d ∧ isFz d = true ∧ Q d
theorem RpL.at {K : PySem.W.Frag} {G H : Hp} {ds : List D} {vs : List V} {F : List Addr} {j : Nat} {d : D} (r : RpL K G H ds vs F) (h : ds[j]? = some d) (z : isFz d = true) : ∃ v, vs[j]? = some v ∧ Rp K G H d v [] := by
  obtain ⟨v, A, B, C, hv, rfl, rv, _⟩ := r.focus h
  have := rv.fz z
  subst this
  exact ⟨v, hv, rv⟩
theorem Rp.fzUp {K : PySem.W.Frag} {G H G' H' : Hp} {d : D} {v : V} (r : Rp K G H d v []) (s : Sub G G') : Rp K G' H' d v [] := r.mono s fun _ z => nomatch z
theorem getD_run {K : PySem.W.Frag} {G H : Hp} (hs : Sub G H) {c k d : D} {v w : V} {F1 F2 : List Addr} (rc : Rp K G H c v F1) (rk : Rp K G H k w F2) (h : getD c k = some d) (z : isFz d = true) :
    ∃ u, Rp K G H d u [] ∧ ∀ Q : VK, Q u H → rIxA K v w H Q := by
  have seq : ∀ (ds : List D) (i : Int), VL.seqP c = some ds → k = .int i → ((ixN ds.length i).bind fun j => ds[j]?) = some d → ∃ u, Rp K G H d u [] ∧ ∀ Q : VK, Q u H → rIxA K v w H Q := by
    intro ds i e1 e2 e3
    subst e2
    obtain ⟨p, vs, F', rfl, hq, rl⟩ := rc.seqP hs e1
    obtain ⟨rfl, _⟩ := rk
    cases hj : ixN ds.length i with
    | none => rw [hj] at e3; cases e3
    | some j =>
      rw [hj] at e3
      have e3 : ds[j]? = some d := e3
      obtain ⟨u, hu, ru⟩ := rl.at e3 z
      have ha : atI vs i = some u := by
        unfold atI
        rw [← rl.len, hj]
        exact hu
      refine ⟨u, ru, fun Q q => ?_⟩
      rcases hq with hq | hq
      · exact .inl (.inl ⟨p, vs, i, u, rfl, rfl, hq, ha, q⟩)
      · exact .inl (.inr (.inl ⟨p, vs, i, u, rfl, rfl, hq, ha, q⟩))
  cases c with
  | lst m ds => cases k <;> first | exact seq ds _ rfl rfl h | cases h
  | pin u c1 =>
    cases c1 with
    | lst m ds => cases k <;> first | exact seq ds _ rfl rfl h | cases h
    | _ => cases h
  | tup ds => cases k <;> first | exact seq ds _ rfl rfl h | cases h
  | dK m ks xs =>
    have : ∃ a us F', v = .ref a ∧ Rd H a (.dK (kzip ks us)) ∧ ks.length = xs.length ∧ RpL K G H xs us F' := by
      cases m with
      | false => obtain ⟨a, us, e, s, _, l, _, r⟩ := rc; exact ⟨a, us, _, e, hs.rd s, l, r⟩
      | true => obtain ⟨a, us, F', e, s, _, l, _, r⟩ := rc; exact ⟨a, us, _, e, .inl s, l, r⟩
    obtain ⟨a, us, F', rfl, e, l, rl⟩ := this
    have h : ((keyD k).bind fun k => (kIx ks k).bind fun j => xs[j]?) = some d := h
    cases hk : keyD k with
    | none => rw [hk] at h; cases h
    | some k0 =>
      rw [hk] at h
      have h : ((kIx ks k0).bind fun j => xs[j]?) = some d := h
      cases hj : kIx ks k0 with
      | none => rw [hj] at h; cases h
      | some j =>
        rw [hj] at h
        obtain ⟨u, hu, ru⟩ := rl.at h z
        obtain ⟨rfl, _⟩ := rk.keyD hk
        refine ⟨u, ru, fun Q q => .inr ⟨a, u, rfl, ?_, q⟩⟩
        have : DGet H a (kV (kc k0)) (valV (kzip ks us) (kc k0)) := .inl ⟨_, _, e, rfl, rfl⟩
        rw [kzip_val (l.trans rl.len), hj] at this
        have e5 : ((some j).bind fun j => us[j]?) = some u := hu
        rw [e5] at this
        exact this
  | dT m ks xs =>
    have : ∃ a us F', v = .ref a ∧ H a = some (.dT (tzip ks us)) ∧ ks.length = xs.length ∧ RpL K G H xs us F' := by
      cases m with
      | false => obtain ⟨a, us, e, s, _, l, _, r⟩ := rc; exact ⟨a, us, _, e, hs _ _ s, l, r⟩
      | true => obtain ⟨a, us, F', e, s, _, l, _, r⟩ := rc; exact ⟨a, us, _, e, s, l, r⟩
    obtain ⟨a, us, F', rfl, e, l, rl⟩ := this
    have h : ((keyT k).bind fun k => (kIx ks k).bind fun j => xs[j]?) = some d := h
    cases hk : keyT k with
    | none => rw [hk] at h; cases h
    | some k0 =>
      rw [hk] at h
      have h : ((kIx ks k0).bind fun j => xs[j]?) = some d := h
      cases hj : kIx ks k0 with
      | none => rw [hj] at h; cases h
      | some j =>
        rw [hj] at h
        obtain ⟨u, hu, ru⟩ := rl.at h z
        obtain ⟨kb, rfl, hkb, _⟩ := rk.keyT hs hk
        refine ⟨u, ru, fun Q q => .inr ⟨a, u, rfl, ?_, q⟩⟩
        have := DGet.t (k := tkc k0) e hkb
        rw [tzip_val (l.trans rl.len), hj] at this
        have e5 : ((some j).bind fun j => us[j]?) = some u := hu
        rw [e5] at this
        exact this
  | _ => cases h
theorem opn_ix {K : PySem.W.Frag} : OpN K (r2N (rIxA K)) sIx := OpN.pure fun G H ds vs F Q Q' hs r q k => by
  obtain ⟨c, kk, d, rfl, hd, hz, q⟩ := q
  obtain ⟨v, w, F1, F2, rfl, rc, rk⟩ := r.two
  refine ⟨v, w, rfl, ?_⟩
  have gen : getD c kk = some d → rIxA K v w H Q' := fun h => by
    obtain ⟨u, ru, go⟩ := getD_run hs rc rk h hz
    exact go Q' (k d u (fun G' H' s => ru.fzUp s) q)
  cases c with
  | str s =>
    cases kk with
    | int i =>
      have hd : (if s.length < 1000000 then (ixN s.length i).bind fun j => (s[j]?).map fun c => D.str [c] else none) = some d := hd
      by_cases hl : s.length < 1000000
      · rw [if_pos hl] at hd
        cases hj : ixN s.length i with
        | none => rw [hj] at hd; cases hd
        | some j =>
          rw [hj] at hd
          have hd : (s[j]?).map (fun c => D.str [c]) = some d := hd
          cases hc : s[j]? with
          | none => rw [hc] at hd; cases hd
          | some c =>
            rw [hc] at hd
            cases hd
            obtain ⟨rfl, _⟩ := rc
            obtain ⟨rfl, _⟩ := rk
            refine .inl (.inr (.inr ⟨toS s, i, c, rfl, rfl, by rw [toS_len]; exact Nat.le_of_lt (k1m hl), ?_, k (.str [c]) _ (fun _ _ _ => ⟨rfl, rfl⟩) q⟩))
            unfold atI
            have e1 : (toS s).cps.toList = s := by simp [toS]
            rw [e1, hj]
            exact hc
      · rw [if_neg hl] at hd; cases hd
    | _ => cases hd
  | _ => exact gen hd
section
variable {X : Cv}
theorem ve_ix {a bb : Expr} {ra rb : Option Nat} {ta tb : VTE} {pos : Pos} {k : Nat} (hr : Room k X.A) (ha : VG X a ra ta) (hb : VG X bb rb tb) (hs : PlainIx bb) : VE X (.Subscript a bb pos) (vOp sIx [ra, rb] (va2 ta tb)) := by
  obtain ⟨ta', tb', h1, h2, h3⟩ := two_args ha hb
  refine ⟨fun W => tOp (rIxA X.K) (ta' W) (tb' W), fun W tk => pe_ix (ix_any hr) (h1 W tk) (h2 W tk) hs, fun b σ H ε T Tv W N Q Q' I q k x => ?_⟩
  exact h3 b σ H ε T Tv W N _ _ I q (fun x y v w ε' H' J hv hw z => two_run opn_ix I.lenT J hv hw z k) x
theorem vq_ix {a bb : Expr} {ta tb : VTE} {pos : Pos} {k : Nat} (hr : Room k X.A) (ha : VQ X a ta) (hb : VQ X bb tb) (hs : PlainIx bb) : VQ X (.Subscript a bb pos) (vOpQ sIx (va2 ta tb)) := by
  obtain ⟨ta', a1, a2⟩ := ha.ex
  obtain ⟨tb', b1, b2⟩ := hb.ex
  refine ⟨fun W => tOp (rIxA X.K) (ta' W) (tb' W), fun W tk => pe_ix (ix_any hr) (a1 W tk) (b1 W tk) hs, fun b σ H ε T Tv W N Q Q' I q k x => ?_⟩
  refine a2 b σ H ε T Tv W N _ _ I q (fun d v ε1 H1 s1 J q1 => ?_) x
  refine b2 b σ H1 ε1 (T ++ [d]) (Tv ++ [v]) W N _ _ J q1 (fun d2 w ε2 H2 s2 J2 q2 => ?_) (x.more I.lenT rfl)
  obtain ⟨v', w', e, z⟩ := opn_ix.runQ (ds := [d, d2]) (vs := [v, w]) I.lenT rfl (s1.trans s2) (by simpa only [List.append_assoc, List.cons_append, List.nil_append] using J2) q2 k
  obtain ⟨rfl, e2⟩ := List.cons.inj e
  obtain ⟨rfl, _⟩ := List.cons.inj e2
  exact z
end
end VL
namespace VL
open PySem PySem.Spec PyProof.Rows L2 VL
def flatD : D → Bool
  | .non => true
  | .bl _ => true
  | .int _ => true
  | .str _ => true
  | _ => false
/-- whether x is in c, where it can be told -/
def memD (x : D) : D → Option Bool
  | .lst m ys => if flatD x && ys.all flatD then some (ys.any fun y => deq y x) else if okD 64 x && okD 64 (.lst m ys) then some (ys.any fun y => deq y x) else none
  | .tup ys => if flatD x && ys.all flatD then some (ys.any fun y => deq y x) else none
  | .dK _ ks _ => (keyD x).map fun k => (kIx ks k).isSome
  | .dT _ ks _ => (keyT x).map fun k => (kIx ks k).isSome
  | .str s => match x with | .str [c] => some (decide (c ∈ s)) | _ => none
  | _ => none
section
variable {K : PySem.W.Frag} {G H : Hp}
theorem Rp.flat {x : D} {v : V} {F : List Addr} (h : flatD x = true) (r : Rp K G H x v F) : flatV v = true := by
  cases x <;> first | (exfalso; revert h; simp [flatD]; done) | (obtain ⟨rfl, _⟩ := r; rfl)
theorem Rp.flatEq {x y : D} {v w : V} {F F' : List Addr} (hx : flatD x = true) (hy : flatD y = true) (r : Rp K G H x v F) (q : Rp K G H y w F') : eqV v w = deq x y := by
  cases x <;> cases y <;> first
    | (exfalso; revert hx; simp [flatD]; done)
    | (exfalso; revert hy; simp [flatD]; done)
    | (obtain ⟨rfl, _⟩ := r
       obtain ⟨rfl, _⟩ := q
       first | rfl | exact toS_beq _ _)
theorem RpL.flat : ∀ {ds : List D} {vs : List V} {F : List Addr}, ds.all flatD = true → RpL K G H ds vs F → vs.all flatV = true ∧ ∀ {x : D} {v : V} {F' : List Addr}, flatD x = true → Rp K G H x v F' → inV v vs = ds.any fun y => deq y x
  | [], vs, F, h, r => by
    obtain ⟨rfl, _⟩ := r
    exact ⟨rfl, fun _ _ => rfl⟩
  | d :: ds, vs, F, h, r => by
    obtain ⟨v, vs', F1, F2, rfl, rfl, rd, rs⟩ := r
    rw [List.all_cons, Bool.and_eq_true] at h
    obtain ⟨i1, i2⟩ := RpL.flat h.2 rs
    refine ⟨by rw [List.all_cons, rd.flat h.1, i1]; rfl, fun hx rx => ?_⟩
    show (eqV v _ || inV _ vs') = _
    rw [List.any_cons, rd.flatEq h.1 hx rx, i2 hx rx]
theorem any_pd {x : D} (hx : okD 64 x = true) : ∀ {n : Nat} {ys : List D}, okDL n ys = true → ((pdL ys).any fun z => PyData.eqv z (pd x)) = ys.any fun y => deq y x
  | n, [], _ => rfl
  | n, y :: ys, h => by
    obtain ⟨a1, a2⟩ := Bool.and_eq_true_iff.mp (show (okD n y && okDL n ys) = true by simpa [okDL] using h)
    show (PyData.eqv (pd y) (pd x) || _) = _
    rw [List.any_cons, deq_pd a1 hx, any_pd hx a2]
def rInX (K : PySem.W.Frag) (neg : Bool) : R2 := fun x y H Q => rIn K neg x y H Q ∨ (if neg then rNotInD K x y H Q else rInD K x y H Q) ∨ (∃ (c : Nat) (z : Str), x = .str ⟨#[c]⟩ ∧ y = .str z ∧ Q (.bl (if neg then !decide (c ∈ z.cps.toList) else decide (c ∈ z.cps.toList))) H) ∨
  ∃ a o, y = .ref a ∧ DGet H a x o ∧ Q (.bl (if neg then !o.isSome else o.isSome)) H
theorem opr_notIn {X : Cx} {k : Nat} (hr : Room k X.A) : OpR X (compareOp .NotIn) (rInX X.K true) := by
  refine OpR.or op_notIn_seq (OpR.or (op_notInD (by have := hr.un; omega)) (OpR.or op_notIn_sign ?_))
  intro pins s σ H x y v u Q I rx ry h
  obtain ⟨a, o, rfl, g, q⟩ := h
  obtain rfl : u = Value.ref a := ry
  exact d_notIn (by have := hr.units; omega) I g rx fun s' I' => ⟨.bl (!o.isSome), H, I', rfl, q⟩
def sIn (neg : Bool) : List D → (D → Prop) → Prop := fun ds Q => ∃ x c r, ds = [x, c] ∧ memD x c = some r ∧ Q (.bl (if neg then !r else r))
theorem mem_run (hs : Sub G H) {neg : Bool} {x c : D} {v w : V} {F1 F2 : List Addr} {r : Bool} {Q' : VK} (rx : Rp K G H x v F1) (rc : Rp K G H c w F2) (h : memD x c = some r) (q : Q' (.bl (if neg then !r else r)) H) : rInX K neg v w H Q' := by
  have flatS : ∀ ys, VL.seqD c = some ys → flatD x = true → ys.all flatD = true → (ys.any fun y => deq y x) = r → rInX K neg v w H Q' := by
    intro ys e hx hy e2
    obtain ⟨p, vs, F', rfl, hq, rl⟩ := rc.seqD hs e
    obtain ⟨i1, i2⟩ := rl.flat hy
    refine .inl ⟨p, vs, rfl, hq, rx.flat hx, i1, ?_⟩
    rw [i2 hx rx, e2]
    exact q
  cases c with
  | lst m ys =>
    have h : (if (flatD x && ys.all flatD) = true then some (ys.any fun y => deq y x) else if (okD 64 x && okD 64 (.lst m ys)) = true then some (ys.any fun y => deq y x) else none) = some r := h
    by_cases h1 : (flatD x && ys.all flatD) = true
    · rw [if_pos h1] at h
      obtain ⟨a1, a2⟩ := Bool.and_eq_true_iff.mp h1
      exact flatS ys rfl a1 a2 (Option.some.inj h)
    · rw [if_neg h1] at h
      by_cases h2 : (okD 64 x && okD 64 (.lst m ys)) = true
      · rw [if_pos h2] at h
        cases h
        obtain ⟨a1, a2⟩ := Bool.and_eq_true_iff.mp h2
        refine .inr (.inl ?_)
        have e3 : ((pdL ys).any fun z => PyData.eqv z (pd x)) = ys.any fun y => deq y x := any_pd a1 (n := 63) (by simpa [okD] using a2)
        cases neg with
        | true => exact ⟨pd x, pdL ys, rx.dp hs a1, rc.dp hs a2, shp a1, shp a2, by rw [e3]; exact q⟩
        | false => exact ⟨pd x, pdL ys, rx.dp hs a1, rc.dp hs a2, shp a1, shp a2, by rw [e3]; exact q⟩
      · rw [if_neg h2] at h; cases h
  | tup ys =>
    have h : (if (flatD x && ys.all flatD) = true then some (ys.any fun y => deq y x) else none) = some r := h
    by_cases h1 : (flatD x && ys.all flatD) = true
    · rw [if_pos h1] at h
      obtain ⟨a1, a2⟩ := Bool.and_eq_true_iff.mp h1
      exact flatS ys rfl a1 a2 (Option.some.inj h)
    · rw [if_neg h1] at h; cases h
  | str s =>
    cases x with
    | str cs =>
      match cs, h with
      | [c], h =>
        have h : some (decide (c ∈ s)) = some r := h
        cases h
        obtain ⟨rfl, _⟩ := rx
        obtain ⟨rfl, _⟩ := rc
        refine .inr (.inr (.inl ⟨c, toS s, rfl, rfl, ?_⟩))
        have e1 : (toS s).cps.toList = s := by simp [toS]
        rw [e1]
        exact q
    | _ => cases h
  | dK m ks xs =>
    have : ∃ a us F', w = .ref a ∧ Rd H a (.dK (kzip ks us)) ∧ ks.length = xs.length ∧ RpL K G H xs us F' := by
      cases m with
      | false => obtain ⟨a, us, e, s, _, l, _, r⟩ := rc; exact ⟨a, us, _, e, hs.rd s, l, r⟩
      | true => obtain ⟨a, us, F', e, s, _, l, _, r⟩ := rc; exact ⟨a, us, _, e, .inl s, l, r⟩
    obtain ⟨a, us, F', rfl, e, l, rl⟩ := this
    have h : ((keyD x).map fun k => (kIx ks k).isSome) = some r := h
    cases hk : keyD x with
    | none => rw [hk] at h; cases h
    | some k0 =>
      rw [hk] at h
      cases h
      obtain ⟨rfl, _⟩ := rx.keyD hk
      refine .inr (.inr (.inr ⟨a, _, rfl, (.inl ⟨_, kc k0, e, rfl, rfl⟩ : DGet H a (kV (kc k0)) _), ?_⟩))
      rw [kzip_val (l.trans rl.len)]
      have e5 : ((kIx ks k0).bind fun j => us[j]?).isSome = (kIx ks k0).isSome := by
        cases hj : kIx ks k0 with
        | none => rfl
        | some j =>
          have := kIx_lt hj
          have : j < us.length := by rw [← rl.len, ← l]; exact this
          simp [this]
      rw [e5]
      exact q
  | dT m ks xs =>
    have : ∃ a us F', w = .ref a ∧ H a = some (.dT (tzip ks us)) ∧ ks.length = xs.length ∧ RpL K G H xs us F' := by
      cases m with
      | false => obtain ⟨a, us, e, s, _, l, _, r⟩ := rc; exact ⟨a, us, _, e, hs _ _ s, l, r⟩
      | true => obtain ⟨a, us, F', e, s, _, l, _, r⟩ := rc; exact ⟨a, us, _, e, s, l, r⟩
    obtain ⟨a, us, F', rfl, e, l, rl⟩ := this
    have h : ((keyT x).map fun k => (kIx ks k).isSome) = some r := h
    cases hk : keyT x with
    | none => rw [hk] at h; cases h
    | some k0 =>
      rw [hk] at h
      cases h
      obtain ⟨kb, rfl, hkb, _⟩ := rx.keyT hs hk
      refine .inr (.inr (.inr ⟨a, _, rfl, DGet.t (k := tkc k0) e hkb, ?_⟩))
      rw [tzip_val (l.trans rl.len)]
      have e5 : ((kIx ks k0).bind fun j => us[j]?).isSome = (kIx ks k0).isSome := by
        cases hj : kIx ks k0 with
        | none => rfl
        | some j =>
          have := kIx_lt hj
          have : j < us.length := by rw [← rl.len, ← l]; exact this
          simp [this]
      rw [e5]
      exact q
  | _ => cases h
theorem opn_in {neg : Bool} : OpN K (r2N (rInX K neg)) (sIn neg) := OpN.pure fun G H ds vs F Q Q' hs r q k => by
  obtain ⟨x, c, z, rfl, hz, q⟩ := q
  obtain ⟨v, w, F1, F2, rfl, rx, rc⟩ := r.two
  exact ⟨v, w, rfl, mem_run hs rx rc hz (k (.bl _) _ (fun _ _ _ => ⟨rfl, rfl⟩) q)⟩
end
/-- list + list, any two that are read -/
def rCatR (K : PySem.W.Frag) : R2 := fun x y H Q => ∃ l c xs zs, x = .ref l ∧ y = .ref c ∧ SqL K H l xs ∧ SqL K H c zs ∧ xs.length + zs.length ≤ sizeLine ∧ ∀ p, H p = none → Q (.ref p) (upd H p (.lst (xs ++ zs)))
theorem op_catR {X : Cx} : OpR X (binaryOp .Add) (rCatR X.K) := by
  intro pins s σ H x y v u Q I rx ry h
  obtain ⟨l, c, xs, zs, rfl, rfl, hx, hy, hz, q⟩ := h
  cases rx
  cases ry
  obtain ⟨its, r, pl, hl⟩ := I.list hx
  obtain ⟨its2, r2, pl2, hl2⟩ := I.list hy
  obtain ⟨⟨cls, dd, data, sl⟩, ho, hc, n, hd⟩ := pl.isList
  obtain ⟨⟨cls2, dd2, data2, sl2⟩, ho2, hc2, n2, hd2⟩ := pl2.isList
  simp only at hc hd hc2 hd2
  subst hc hd hc2 hd2
  have e : its.toArray ++ its2.toArray = (its ++ its2).toArray := by simp
  refine concat_meets ⟨_, ho, rfl⟩ ⟨_, ho2, rfl⟩ noFill_list_add seq_list_add PySem.F.slot_list_add PySem.F.entry_list_add (PySem.F.args_list_add_2 _ _) (list_addW l c its.toArray its2.toArray n n2 dd dd2 sl sl2 (by have := r.length; have := r2.length; simp only [List.size_toArray]; omega)) ⟨ho, ho2, ?_⟩
  rw [e]
  refine ⟨.ref s.heap.objs.size, _, I.laid (t' := s.toks) (o := .lst (xs ++ zs)) (fun b ob q => Heap.get?_push_of_some _ q) (Nat.le_refl _) ?_, rfl, q _ (I.hok.fresh (Nat.le_refl _))⟩
  exact ⟨by rw [List.length_append]; exact hz, its ++ its2, 0, r.append r2, Heap.get?_push_size _ rfl⟩
end VL
namespace VL
open PySem PySem.Spec PyProof.Rows L2 VL
section
variable {K : PySem.W.Frag} {G H : Hp}
theorem toS_app (s t : Cs) : toS s ++ toS t = toS (s ++ t) := by
  show (⟨(toS s).cps ++ (toS t).cps⟩ : Str) = _
  simp [toS]
theorem nwI (i : Int) : Nw K G H (.int i) (.int i) H := .val fun _ _ _ => ⟨rfl, rfl⟩
theorem nwB (c : Bool) : Nw K G H (.bl c) (.bl c) H := .val fun _ _ _ => ⟨rfl, rfl⟩
theorem nwS (s : Cs) : Nw K G H (.str s) (.str (toS s)) H := .val fun _ _ _ => ⟨rfl, rfl⟩
/-- x + y -/
def addD : D → D → Option D
  | .int i, .int j => some (.int (i + j))
  | .str s, .str t => if s.length + t.length < 1000000 then some (.str (s ++ t)) else none
  | .lst _ xs, .lst _ ys => if (isFzL xs && isFzL ys) = true then (if xs.length + ys.length < 1000000 then some (.lst true (xs ++ ys)) else none) else none
  | .tup xs, .tup ys => if (isFzL xs && isFzL ys) = true then (if xs.length + ys.length < 1000000 then some (.tup (xs ++ ys)) else none) else none
  | _, _ => none
def rAddA (K : PySem.W.Frag) : R2 := fun x y H Q => rI0 (fun i j => .int (i + j)) x y H Q ∨ (∃ i j, x = .str i ∧ y = .str j ∧ i.length + j.length ≤ sizeLine ∧ Q (.str (i ++ j)) H) ∨ rCatR K x y H Q ∨ rCatA K x y H Q
theorem opr_add {X : Cx} : OpR X (binaryOp .Add) (rAddA X.K) := OpR.or op_add (OpR.or op_add_str (OpR.or op_catR op_catA))
def sAdd : List D → (D → Prop) → Prop := fun ds Q => ∃ x y d, ds = [x, y] ∧ addD x y = some d ∧ Q d
theorem opn_add : OpN K (r2N (rAddA K)) sAdd := OpN.mk fun G H ds vs F Q Q' hs r q k => by
  obtain ⟨x, y, d, rfl, h, q⟩ := q
  obtain ⟨v, w, F1, F2, rfl, rx, ry⟩ := r.two
  refine ⟨v, w, rfl, ?_⟩
  cases x with
  | int i =>
    cases y with
    | int j =>
      cases h
      obtain ⟨rfl, _⟩ := rx
      obtain ⟨rfl, _⟩ := ry
      exact .inl ⟨i, j, rfl, rfl, k _ _ _ (nwI _) q⟩
    | _ => cases h
  | str s =>
    cases y with
    | str t =>
      have h : (if s.length + t.length < 1000000 then some (D.str (s ++ t)) else none) = some d := h
      by_cases hz : s.length + t.length < 1000000
      · rw [if_pos hz] at h
        cases h
        obtain ⟨rfl, _⟩ := rx
        obtain ⟨rfl, _⟩ := ry
        refine .inr (.inl ⟨_, _, rfl, rfl, by rw [toS_len, toS_len]; exact Nat.le_of_lt (k1m hz), ?_⟩)
        rw [toS_app]
        exact k _ _ _ (nwS _) q
      · rw [if_neg hz] at h; cases h
    | _ => cases h
  | lst m xs =>
    cases y with
    | lst m2 ys =>
      have h : (if (isFzL xs && isFzL ys) = true then (if xs.length + ys.length < 1000000 then some (D.lst true (xs ++ ys)) else none) else none) = some d := h
      by_cases hf : (isFzL xs && isFzL ys) = true
      · rw [if_pos hf] at h
        by_cases hz : xs.length + ys.length < 1000000
        · rw [if_pos hz] at h
          cases h
          obtain ⟨f1, f2⟩ := Bool.and_eq_true_iff.mp hf
          have hx : ∃ a us, v = .ref a ∧ SqL K H a us ∧ RpL K G H xs us [] := by
            cases m with
            | false => obtain ⟨a, us, e, s, _, r⟩ := rx; exact ⟨a, us, e, hs.sqL s, r⟩
            | true => obtain ⟨a, us, F', e, s, _, r⟩ := rx; have := r.fz f1; subst this; exact ⟨a, us, e, SqL.of s, r⟩
          have hy : ∃ a us, w = .ref a ∧ SqL K H a us ∧ RpL K G H ys us [] := by
            cases m2 with
            | false => obtain ⟨a, us, e, s, _, r⟩ := ry; exact ⟨a, us, e, hs.sqL s, r⟩
            | true => obtain ⟨a, us, F', e, s, _, r⟩ := ry; have := r.fz f2; subst this; exact ⟨a, us, e, SqL.of s, r⟩
          obtain ⟨a, us, rfl, s1, r1⟩ := hx
          obtain ⟨a2, us2, rfl, s2, r2⟩ := hy
          refine .inr (.inr (.inl ⟨a, a2, us, us2, rfl, rfl, s1, s2, by rw [← r1.len, ← r2.len]; exact Nat.le_of_lt (k1m hz), fun p hp => k _ _ _ (.lst (by simpa using r1.append r2) hp) q⟩))
        · rw [if_neg hz] at h; cases h
      · rw [if_neg hf] at h; cases h
    | _ => cases h
  | tup xs =>
    cases y with
    | tup ys =>
      have h : (if (isFzL xs && isFzL ys) = true then (if xs.length + ys.length < 1000000 then some (D.tup (xs ++ ys)) else none) else none) = some d := h
      by_cases hf : (isFzL xs && isFzL ys) = true
      · rw [if_pos hf] at h
        by_cases hz : xs.length + ys.length < 1000000
        · rw [if_pos hz] at h
          cases h
          obtain ⟨f1, f2⟩ := Bool.and_eq_true_iff.mp hf
          obtain ⟨a, us, rfl, s1, r1⟩ := rx
          obtain ⟨a2, us2, rfl, s2, r2⟩ := ry
          have := r1.fz f1; subst this
          have := r2.fz f2; subst this
          have n1 : us = [] → xs = [] := fun z => by have := r1.len; subst z; simpa using this
          have n2 : us2 = [] → ys = [] := fun z => by have := r2.len; subst z; simpa using this
          refine .inr (.inr (.inr ⟨a, a2, us, us2, rfl, rfl, SqT.of (hs _ _ s1), SqT.of (hs _ _ s2), by rw [← r1.len, ← r2.len]; exact Nat.le_of_lt (k1m hz), fun z => ?_, fun z z2 => ?_, fun _ _ p hp => k _ _ _ (.tup (by simpa using r1.append r2) hp) q⟩))
          · have := n1 z
            subst this
            exact k (.tup ys) _ _ (.val fun G' H' s => ⟨a2, us2, rfl, s _ _ s2, r2.mono s fun _ z => nomatch z⟩) q
          · have := n2 z2
            subst this
            refine k _ _ _ (.val fun G' H' s => ?_) q
            rw [List.append_nil]
            exact ⟨a, us, rfl, s _ _ s1, r1.mono s fun _ z => nomatch z⟩
        · rw [if_neg hz] at h; cases h
      · rw [if_neg hf] at h; cases h
    | _ => cases h
  | _ => cases h
def rMulA : R2 := fun x y H Q => rI CMl (fun i j => .int (i * j)) x y H Q ∨ rRep x y H Q
theorem opr_mulA {X : Cx} : OpR X (binaryOp .Mult) rMulA := OpR.or opr_mul op_rep
/-- x * y: ints, or a list of our own that is repeated -/
def sMul : List D → (D → Prop) → Prop := fun ds Q => (∃ i j, ds = [.int i, .int j] ∧ CMl i j ∧ Q (.int (i * j))) ∨
  ∃ xs n, ds = [.lst true xs, .int n] ∧ isFzL xs = true ∧ n < 1000000 ∧ xs.length * n.toNat < 1000000 ∧ -1000000 < n ∧ Q (.lst true (List.replicate n.toNat xs).flatten)
theorem RpL.rep {xs : List D} {us : List V} (r : RpL K G H xs us []) : ∀ n : Nat, RpL K G H (List.replicate n xs).flatten (List.replicate n us).flatten []
  | 0 => ⟨rfl, rfl⟩
  | n + 1 => by
    rw [List.replicate_succ, List.replicate_succ, List.flatten_cons, List.flatten_cons]
    have := r.append (RpL.rep r n)
    simpa using this
theorem opn_mul : OpN K (r2N rMulA) sMul := OpN.mk fun G H ds vs F Q Q' hs r q k => by
  rcases q with ⟨i, j, rfl, hc, q⟩ | ⟨xs, n, rfl, f1, h1, h2, h3, q⟩
  · obtain ⟨v, w, F1, F2, rfl, ⟨rfl, _⟩, ⟨rfl, _⟩⟩ := r.two
    exact ⟨_, _, rfl, .inl ⟨i, j, rfl, rfl, hc, k _ _ _ (nwI _) q⟩⟩
  · obtain ⟨v, w, F1, F2, rfl, rx, ⟨rfl, _⟩⟩ := r.two
    obtain ⟨a, us, F', rfl, s, rfl, r⟩ := rx
    have := r.fz f1; subst this
    refine ⟨_, _, rfl, .inr ⟨a, n, us, rfl, rfl, s, by omega, by omega, by rw [← r.len]; exact Nat.le_of_lt (k1m h2), fun p hp => k _ _ _ (.lst (r.rep _) hp) q⟩⟩
def sDivmod : List D → (D → Prop) → Prop := fun ds Q => ∃ i j, ds = [.int i, .int j] ∧ CDv i j ∧ Q (.tup [.int (pdiv i j), .int (pmod i j)])
def tyNm : D → Option String
  | .non => some "NoneType"
  | .bl _ => some "bool"
  | .int _ => some "int"
  | .str _ => some "str"
  | .tup _ => some "tuple"
  | .lst _ _ => some "list"
  | .dK _ _ _ => some "dict"
  | .dT _ _ _ => some "dict"
  | _ => none
def tys : List String := ["int", "bool", "str", "list", "tuple", "dict"]
/-- the type t is T, or bool as an int -/
def isT (t T : String) : Bool := t == T || (t == "bool" && T == "int")
theorem kit_tab : (("NoneType" :: tys).all fun t => tys.all fun T => decide (kitB t T = some (isT t T))) = true := by decide +kernel
theorem kit_isT {t T : String} (ht : t ∈ "NoneType" :: tys) (hT : T ∈ tys) : kitB t T = some (isT t T) :=
  of_decide_eq_true (List.all_eq_true.mp (List.all_eq_true.mp kit_tab t ht) T hT)
theorem tyNm_mem {d : D} {t : String} (h : tyNm d = some t) : t ∈ "NoneType" :: tys := by
  cases d <;> simp only [tyNm, reduceCtorEq, Option.some.injEq] at h <;> subst h <;> decide
theorem Rp.tyX (hs : Sub G H) {d : D} {v : V} {F : List Addr} {t : String} (r : Rp K G H d v F) (h : tyNm d = some t) : TyX K H v (.type t) := by
  cases d with
  | non => cases h; obtain ⟨rfl, _⟩ := r; exact .base .non
  | bl b => cases h; obtain ⟨rfl, _⟩ := r; exact .base (.bl b)
  | int i => cases h; obtain ⟨rfl, _⟩ := r; exact .base (.int i)
  | str s => cases h; obtain ⟨rfl, _⟩ := r; exact .base (.str _)
  | tup xs => cases h; obtain ⟨a, vs, rfl, s, _⟩ := r; exact .base (.tup (hs _ _ s))
  | lst m xs =>
    cases h
    cases m with
    | true => obtain ⟨a, vs, F', rfl, s, _⟩ := r; exact .base (.lst s)
    | false =>
      obtain ⟨a, vs, rfl, s, _⟩ := r
      rcases hs.sqL s with (s | ⟨o, s⟩) | ⟨o, its, n, hk, hc, _⟩
      · exact .base (.lst s)
      · exact .base (.frz s)
      · exact .kList hk hc
  | dK m ks xs =>
    cases h
    cases m with
    | true => obtain ⟨a, vs, F', rfl, s, _⟩ := r; exact .base (.dK s)
    | false =>
      obtain ⟨a, vs, rfl, s, _⟩ := r
      rcases hs.rd s with s | ⟨o, s⟩
      · exact .base (.dK s)
      · exact .fDict s
  | dT m ks xs =>
    cases h
    cases m with
    | true => obtain ⟨a, vs, F', rfl, s, _⟩ := r; exact .base (.dT s)
    | false => obtain ⟨a, vs, rfl, s, _⟩ := r; exact .base (.dT (hs _ _ s))
  | _ => cases h
def sIsi : List D → (D → Prop) → Prop := fun ds Q => ∃ x t T, ds = [x, .ty T] ∧ tyNm x = some t ∧ T ∈ tys ∧ Q (.bl (isT t T))
theorem opn_isi : OpN K (rIsi K) sIsi := OpN.mk fun G H ds vs F Q Q' hs r q k => by
  obtain ⟨x, t, T, rfl, ht, hT, q⟩ := q
  obtain ⟨v, w, F1, F2, rfl, rx, ⟨rfl, _⟩⟩ := r.two
  exact ⟨v, .ty T, .type t, .type T, isT t T, rfl, .ty T, rx.tyX hs ht, kit_ty (kit_isT (tyNm_mem ht) hT), k _ _ _ (nwB _) q⟩
def listD : D → Option (List D)
  | .dK _ ks _ => some (ks.map fun | .inl i => .int i | .inr s => .str s)
  | d => seqD d
def rListA (K : PySem.W.Frag) : List V → Hp → VK → Prop := fun xs H Q => (∃ p ys, xs = [.ref p] ∧ (SqL K H p ys ∨ SqT K H p ys) ∧ ∀ l, H l = none → Q (.ref l) (upd H l (.lst ys))) ∨
  ∃ (a : Addr) (kvs : List (Key × V)), xs = [.ref a] ∧ Rd H a (.dK kvs) ∧ ∀ p, H p = none → Q (.ref p) (upd H p (.lst (kvs.map fun kv => kV kv.1)))
theorem call_listA {X : Cx} (hc : X.calm = true) : CallR X (.type "list") (rListA X.K) := CallR.or call_list_of (call_listD hc)
def sList : List D → (D → Prop) → Prop := fun ds Q => ∃ x ys, ds = [x] ∧ listD x = some ys ∧ isFzL ys = true ∧ Q (.lst true ys)
theorem keys_rp : ∀ {ks : List Kc} {us : List V}, ks.length = us.length → RpL K G H (ks.map fun | .inl i => .int i | .inr s => .str s) ((kzip ks us).map fun kv => kV kv.1) []
  | [], [], _ => ⟨rfl, rfl⟩
  | k :: ks, u :: us, h => by
    refine ⟨_, _, [], [], rfl, rfl, ?_, keys_rp (ks := ks) (us := us) (Nat.succ.inj h)⟩
    cases k with
    | inl i => exact ⟨rfl, rfl⟩
    | inr s => exact ⟨rfl, rfl⟩
  | [], _ :: _, h => by cases h
  | _ :: _, [], h => by cases h
theorem opn_list : OpN K (rListA K) sList := OpN.mk fun G H ds vs F Q Q' hs r q k => by
  obtain ⟨x, ys, rfl, hy, hf, q⟩ := q
  obtain ⟨v, rfl, rx⟩ := r.one'
  have seq : VL.seqD x = some ys → rListA K [v] H Q' := fun h => by
    obtain ⟨p, us, F', rfl, hq, rl⟩ := rx.seqD hs h
    have := rl.fz hf; subst this
    exact .inl ⟨p, us, rfl, hq, fun l hl => k _ _ _ (.lst rl hl) q⟩
  cases x with
  | dK m ks xs =>
    cases hy
    have : ∃ a us F', v = .ref a ∧ Rd H a (.dK (kzip ks us)) ∧ ks.length = xs.length ∧ RpL K G H xs us F' := by
      cases m with
      | false => obtain ⟨a, us, e, s, _, l, _, r⟩ := rx; exact ⟨a, us, _, e, hs.rd s, l, r⟩
      | true => obtain ⟨a, us, F', e, s, _, l, _, r⟩ := rx; exact ⟨a, us, _, e, .inl s, l, r⟩
    obtain ⟨a, us, F', rfl, e, l, rl⟩ := this
    exact .inr ⟨a, _, rfl, e, fun p hp => k _ _ _ (.lst (keys_rp (l.trans rl.len)) hp) q⟩
  | _ => exact seq hy
def sTuple : List D → (D → Prop) → Prop := fun ds Q => ∃ x ys, ds = [x] ∧ seqD x = some ys ∧ isFzL ys = true ∧ Q (.tup ys)
def sDict : List D → (D → Prop) → Prop := fun ds Q => ∃ m ks ys, ds = [.dK m ks ys] ∧ isFzL ys = true ∧ Q (.dK true ks ys)
def sMin : List D → (D → Prop) → Prop := fun ds Q => ∃ i j : Int, ds = [.int i, .int j] ∧ Q (.int (min i j))
def sMax : List D → (D → Prop) → Prop := fun ds Q => ∃ i j : Int, ds = [.int i, .int j] ∧ Q (.int (max i j))
theorem opn_min : OpN K (fun xs H Q => ∃ i j, xs = [.int i, .int j] ∧ Q (.int (if j < i then j else i)) H) sMin := OpN.mk fun G H ds vs F Q Q' hs r q k => by
  obtain ⟨i, j, rfl, q⟩ := q
  obtain ⟨v, w, F1, F2, rfl, ⟨rfl, _⟩, ⟨rfl, _⟩⟩ := r.two
  refine ⟨i, j, rfl, ?_⟩
  have e : (if j < i then j else i) = min i j := by split <;> omega
  rw [e]
  exact k _ _ _ (nwI _) q
end
section
variable {X : Cv}
/-- a built-in type by its name -/
theorem ve_ty {x : Str} {T : String} {pos : Pos} (hg : Gl X.toCx x) (hm : X.mg x = none) (hv : bootBuiltins x = some (.type T)) (hn : x ≠ "__name__" := by decide) (hd : (x == ("__debug__" : Str)) = false := by decide) : VE X (.Name x pos) (vC (.ty T)) :=
  vc_of (pe_bltn hg hm hv (v := .ty T) rfl hn hd) fun _ _ => ⟨rfl, rfl⟩
end
end VL
namespace VL
open PySem PySem.Spec PyProof.Rows L2 VL
def forgetE : List Nat → Ep → Ep
  | [], ε => ε
  | i :: is, ε => forgetE is (ε.set i none)
def pull : List Nat → Ep → List (Option Nat) × List D × Ep
  | [], ε => ([], [], ε)
  | i :: is, ε => match ε[i]? with
    | some (some d) => let r := pull is (ε.set i none); (some i :: r.1, d :: r.2.1, r.2.2)
    | _ => pull is ε
theorem wipe_get {σ : L2.St} {j : Nat} : ∀ {vs : List Nat}, (wipe σ vs)[j]? = if j ∈ vs then (σ[j]?).map fun _ => none else σ[j]?
  | [] => by simp [wipe]
  | v :: vs => by
    unfold wipe
    by_cases h : v = j
    · subst h
      rw [List.getElem?_set_self', wipe_get]
      simp only [List.mem_cons, true_or, if_true]
      split <;> cases σ[v]? <;> rfl
    · rw [List.getElem?_set_ne h, wipe_get]
      have : j ≠ v := fun e => h e.symm
      simp [this]
theorem wipe_set {σ : L2.St} {i : Nat} {x : Option V} {vs : List Nat} (h : i ∈ vs) : wipe (σ.set i x) vs = wipe σ vs := by
  apply List.ext_getElem?
  intro j
  rw [wipe_get, wipe_get]
  by_cases e : i = j
  · subst e
    rw [if_pos h, if_pos h, List.getElem?_set_self']
    cases σ[i]? <;> rfl
  · rw [List.getElem?_set_ne e]
theorem wipe_wipe {σ : L2.St} {vs : List Nat} : wipe (wipe σ vs) vs = wipe σ vs := by
  apply List.ext_getElem?
  intro j
  rw [wipe_get, wipe_get]
  split
  · cases σ[j]? <;> rfl
  · rfl
section
variable {K : PySem.W.Frag} {b : Bs} {σ : L2.St} {H H' : Hp} {ε : Ep} {T : List D} {Tv : List V}
/-- a slot is told no more -/
theorem SI.forget1 (I : SI K b σ H ε T Tv) (i : Nat) : SI K b σ H (ε.set i none) T Tv := by
  by_cases hi : i < ε.length
  · obtain ⟨G, F, Ft, J⟩ := I
    obtain ⟨ov, A, B, C, hs, rfl, r, back⟩ := J.slots.focus (i := i) (List.getElem?_eq_getElem hi)
    have s2 := back G H none ov [] Sub.refl (fun _ _ => rfl) rfl
    rw [setSelf hs, List.append_nil] at s2
    have sb : ∀ a, a ∈ A ++ C ++ Ft → a ∈ A ++ B ++ C ++ Ft := fun a z => by
      simp only [List.mem_append] at z ⊢
      grind
    have nd : (A ++ C ++ Ft).Nodup := by
      have h1 : (A ++ B ++ C ++ Ft).Perm (B ++ (A ++ C ++ Ft)) := by
        apply List.perm_iff_count.mpr
        intro a
        simp only [List.count_append]
        omega
      exact (List.nodup_append.mp (h1.nodup_iff.mp J.nd)).2.1
    exact ⟨G, _, Ft, J.s0, J.sub, s2, J.temps, nd, fun a z => J.fr a (sb a z), fun a z => J.own a (sb a z), J.gn, J.keep, J.kept⟩
  · rw [List.set_eq_of_length_le (by omega)]
    exact I
theorem SI.forget : ∀ {is : List Nat} {ε : Ep}, SI K b σ H ε T Tv → SI K b σ H (forgetE is ε) T Tv
  | [], ε, I => I
  | i :: is, ε, I => SI.forget (is := is) (I.forget1 i)
theorem forgetE_get {j : Nat} : ∀ {is : List Nat} {ε : Ep}, (forgetE is ε)[j]? = if j ∈ is then (ε[j]?).map fun _ => none else ε[j]?
  | [], ε => by simp [forgetE]
  | i :: is, ε => by
    unfold forgetE
    rw [forgetE_get]
    by_cases h : i = j
    · subst h
      simp only [List.mem_cons, true_or, if_true, List.getElem?_set_self']
      split <;> cases ε[i]? <;> rfl
    · rw [List.getElem?_set_ne h]
      have : j ≠ i := fun e => h e.symm
      simp [this]
theorem SI.pull (hl : T.length = Tv.length) : ∀ {is : List Nat} {ε : Ep} {R : List D} {Rv : List V}, R.length = Rv.length → SI K b σ H ε (T ++ R) (Tv ++ Rv) →
    ∃ vs, SI K b σ H (VL.pull is ε).2.2 (T ++ (R ++ (VL.pull is ε).2.1)) (Tv ++ (Rv ++ vs)) ∧ Held σ (VL.pull is ε).1 vs ∧ (VL.pull is ε).2.1.length = vs.length ∧ (∀ j, (VL.pull is ε).2.2[j]? = if j ∈ is then (ε[j]?).map fun _ => none else ε[j]?)
  | [], ε, R, Rv, hr, I => ⟨[], by simpa [VL.pull] using I, trivial, rfl, fun j => by simp [VL.pull]⟩
  | i :: is, ε, R, Rv, hr, I => by
    unfold VL.pull
    cases e : ε[i]? with
    | none =>
      obtain ⟨vs, J, hh, hl2, hg⟩ := SI.pull hl (is := is) hr I
      refine ⟨vs, J, hh, hl2, fun j => ?_⟩
      show (VL.pull is ε).2.2[j]? = _
      rw [hg]
      by_cases h : j = i
      · subst h
        rw [e]
        simp
      · simp [h]
    | some od =>
      cases od with
      | none =>
        obtain ⟨vs, J, hh, hl2, hg⟩ := SI.pull hl (is := is) hr I
        refine ⟨vs, J, hh, hl2, fun j => ?_⟩
        show (VL.pull is ε).2.2[j]? = _
        rw [hg]
        by_cases h : j = i
        · subst h
          rw [e]
          simp
        · simp [h]
      | some d =>
        obtain ⟨v, hs, J⟩ := I.mov e
        obtain ⟨vs, J2, hh, hl2, hg⟩ := SI.pull hl (is := is) (R := R ++ [d]) (Rv := Rv ++ [v]) (by simp [hr]) (by simpa only [List.append_assoc] using J)
        refine ⟨v :: vs, ?_, ⟨hs, hh⟩, by simp [hl2], fun j => ?_⟩
        · simpa only [List.append_assoc, List.cons_append, List.nil_append] using J2
        · show (VL.pull is (ε.set i none)).2.2[j]? = _
          rw [hg]
          by_cases h : i = j
          · subst h
            simp only [List.mem_cons, true_or, if_true, List.getElem?_set_self']
            split <;> cases ε[i]? <;> rfl
          · rw [List.getElem?_set_ne h]
            have : j ≠ i := fun e => h e.symm
            simp [this]
/-- slots that are not told may hold anything -/
theorem RpS.reslot {G : Hp} : ∀ {ε : Ep} {σ σ' : L2.St} {F : List Addr}, RpS K G H ε σ F → σ'.length = σ.length → (∀ (j : Nat) d, ε[j]? = some (some d) → σ'[j]? = σ[j]?) → RpS K G H ε σ' F
  | [], σ, σ', F, h, hl, _ => by
    obtain ⟨rfl, rfl⟩ := h
    exact ⟨List.length_eq_zero_iff.mp hl, rfl⟩
  | od :: ε, σ, σ', F, h, hl, k => by
    obtain ⟨ov, σ1, F1, F2, rfl, rfl, r, rs⟩ := h
    cases σ' with
    | nil => cases hl
    | cons ov' σ'' =>
      refine ⟨ov', σ'', F1, F2, rfl, rfl, ?_, RpS.reslot rs (Nat.succ.inj hl) fun j d e => by simpa using k (j + 1) d (by simpa using e)⟩
      cases od with
      | none => exact r
      | some d =>
        have := k 0 d rfl
        simp at this
        rw [this]
        exact r
theorem SI.reslot {σ' : L2.St} (I : SI K b σ H ε T Tv) (hl : σ'.length = σ.length) (h : ∀ (j : Nat) d, ε[j]? = some (some d) → σ'[j]? = σ[j]?) (hk : ∀ (j : Nat) v, b.kv[j]? = some (some v) → σ'[j]? = σ[j]?) : SI K b σ' H ε T Tv := by
  obtain ⟨G, F, Ft, J⟩ := I
  exact ⟨G, F, Ft, J.s0, J.sub, J.slots.reslot hl h, J.temps, J.nd, J.fr, J.own, J.gn, J.keep, fun j v e => (hk j v e).trans (J.kept j v e)⟩
/-- held things change places -/
theorem SI.swap {A B C : List D} {Av Bv Cv : List V} (I : SI K b σ H ε (T ++ (A ++ (B ++ C))) (Tv ++ (Av ++ (Bv ++ Cv)))) (hl : T.length = Tv.length) (ha : A.length = Av.length) (hb : B.length = Bv.length) : SI K b σ H ε (T ++ (B ++ (A ++ C))) (Tv ++ (Bv ++ (Av ++ Cv))) := by
  obtain ⟨G, F, Ft, J⟩ := I
  obtain ⟨F1, F2, rfl, r1, r2⟩ := J.temps.split2 hl
  obtain ⟨F3, F4, rfl, r3, r4⟩ := r2.split2 ha
  obtain ⟨F5, F6, rfl, r5, r6⟩ := r4.split2 hb
  have pm : (F ++ (F1 ++ (F3 ++ (F5 ++ F6)))).Perm (F ++ (F1 ++ (F5 ++ (F3 ++ F6)))) := by
    apply List.perm_iff_count.mpr
    intro z
    simp only [List.count_append]
    omega
  exact ⟨G, F, _, J.s0, J.sub, J.slots, r1.append (r5.append (r3.append r6)), pm.nodup_iff.mp J.nd, fun z hz => J.fr z (pm.mem_iff.mpr hz), fun z hz => J.own z (pm.mem_iff.mpr hz), J.gn, J.keep, J.kept⟩
/-- a thing is put behind the others in a held list of our own -/
theorem SI.accPush {acc : List D} {y : D} {p : Addr} {v : V} (I : SI K b σ H ε (T ++ [.lst true acc, y]) (Tv ++ [.ref p, v])) (hl : T.length = Tv.length) : ∃ vs, H p = some (.lst vs) ∧ vs.length = acc.length ∧ SI K b σ (upd H p (.lst (vs ++ [v]))) ε (T ++ [.lst true (acc ++ [y])]) (Tv ++ [.ref p]) := by
  obtain ⟨G, F, Ft, J⟩ := I
  obtain ⟨F1, F2, rfl, r1, r2⟩ := J.temps.split2 hl
  obtain ⟨v', vs1, A, B, e1, rfl, ra, v2, vs2, A2, B2, e2, rfl, rb, rfl, rfl⟩ := r2
  cases e1
  cases e2
  obtain ⟨a, us, A', ea, ha, rfl, rl⟩ := ra
  cases ea
  have nd := J.nd
  have pm : (F ++ (F1 ++ (p :: A' ++ (A2 ++ [])))).Perm (p :: (F ++ (F1 ++ (A' ++ A2)))) := by
    apply List.perm_iff_count.mpr
    intro z
    simp only [List.count_append, List.count_cons, List.cons_append, List.count_nil]
    omega
  have nd2 := pm.nodup_iff.mp nd
  have np := (List.nodup_cons.mp nd2).1
  have ev : ∀ z, z ∈ F ++ (F1 ++ (A' ++ A2)) → upd H p (.lst (us ++ [v])) z = H z := fun z hz => upd_ne fun e => np (e ▸ hz)
  have gp : G p = none := J.fr p (pm.mem_iff.mpr List.mem_cons_self)
  have pm2 : (F ++ (F1 ++ (p :: (A' ++ A2)))).Perm (p :: (F ++ (F1 ++ (A' ++ A2)))) := by
    apply List.perm_iff_count.mpr
    intro z
    simp only [List.count_append, List.count_cons]
    omega
  refine ⟨us, ha, rl.len.symm, G, F, F1 ++ (p :: (A' ++ A2)), J.s0, fun z o q => ?_, J.slots.mono Sub.refl fun z hz => ev z (List.mem_append_left _ hz), ?_, pm2.nodup_iff.mpr nd2, fun z hz => J.fr z (pm.mem_iff.mpr (pm2.mem_iff.mp hz)), fun z hz => J.own z (pm.mem_iff.mpr (pm2.mem_iff.mp hz)), J.gn, fun z o q n => ?_, J.kept⟩
  · rw [upd_ne fun e => by rw [e, gp] at q; cases q]
    exact J.sub z o q
  · refine (r1.mono Sub.refl fun z hz => ev z (List.mem_append_right _ (List.mem_append_left _ hz))).append (RpL.one.mpr ⟨p, us ++ [v], A' ++ A2, rfl, upd_same, rfl, ?_⟩)
    exact (rl.append (RpL.one.mpr rb)).mono Sub.refl fun z hz => ev z (List.mem_append_right _ (List.mem_append_right _ hz))
  · rw [upd_ne fun e => ?_]
    · exact J.keep z o q n
    · subst e
      rcases J.own z (pm.mem_iff.mpr List.mem_cons_self) with h | h
      · exact n h
      · rw [q] at h; cases h
end
section
variable {X : Cv}
structure VTo (X : Cv) (own : List Nat) (tg : Expr) (t : VTG) : Prop where
  ex : ∃ g : TG, PG X.toCx tg g ∧ ∀ (b : Bx X) σ H ε T Tv d v Q Q', SI X.K b.1 σ H ε (T ++ [d]) (Tv ++ [v]) → T.length = Tv.length → t d ε Q →
    (∀ ε' σ' H', wipe σ' own = wipe σ own → SI X.K b.1 σ' H' ε' T Tv → Q ε' → Q' σ' H') → g v σ H Q'
theorem vto_name {own : List Nat} {i : Nat} {x : Str} {pos : Pos} (ho : i ∈ own) (hN : X.N.Nodup) (hi : X.N[i]? = some x) (hx : Loc X.env.scope x) (hk : X.κ[i]? ≠ some true)
    (hf : X.fn x = true ∨ X.env.scope.names.lookup x = some .local := by first | exact .inl rfl | exact .inr rfl | assumption) : VTo X own (.Name x pos) (vName i) :=
  ⟨gName i, pg_name hN hi hx hf, fun b σ H ε T Tv d v Q Q' I l q k => k _ _ H (wipe_set ho) (I.store l q.1 (b.free hk)) q.2⟩
structure VTs (X : Cv) (ifs : List Expr) (t : VTT) : Prop where
  ex : ∃ t' : WX → TT, (∀ W, Takes X.toCx W → PTs X.toCx ifs (t' W)) ∧ ∀ (b : Bx X) σ H ε T Tv W N Q Q', SI X.K b.1 σ H ε T Tv → t N ε Q →
    (∀ c ε' H', SI X.K b.1 σ H' ε' T Tv → Q c ε' → Q' c H') → XL X.K b.1 T Tv W N → t' W σ H Q'
def vYes : VTT := fun _ ε Q => Q true ε
theorem vts_nil : VTs X [] vYes := ⟨fun _ => tYes, fun _ _ => pts_nil, fun b σ H ε T Tv W N Q Q' I q k x => k true ε H I q⟩
def noX : WV := fun _ _ _ => False
def vLcL (own : List Nat) (g : VTG) (tt : VTT) (te : VTE) : List D → List D → Ep → (List D → Ep → Prop) → Prop
  | [], acc, ε, Q => Q acc ε
  | d :: ds, acc, ε, Q => g d ε fun ε1 => tt noX ε1 fun c ε2 => if c = true then te noX ε2 fun y ε3 => acc.length < 1000000 ∧ vLcL own g tt te ds (acc ++ [y]) (forgetE own ε3) Q else vLcL own g tt te ds acc (forgetE own ε2) Q
def vLc (own : List Nat) (wi : VTA) (g : VTG) (tt : VTT) (te : VTE) : VTE := fun N ε Q => wi N ε fun ds ε1 => vLcL own g tt te ds [] (pull own ε1).2.2 fun acc ε' => Q (.lst true acc) (restore (pull own ε1).1 (pull own ε1).2.1 ε')
/-- a block's context -/
abbrev Cv.blk (X : Cv) (s : Shared) (H : Hp) (scope : Scope) (C : Addr) (cl : List (Str × Addr)) (fp : List Addr) : Cv := { X.toCx.blk s H scope (compEnvC scope cl C X.env) fp with κ := X.κ }
theorem takes_no {Y : Cx} : Takes Y (fun _ _ _ _ => False) := fun _ _ ⟨_, _, _, _, _, _, _, _, _, _, _, _, _, _, _, _, w⟩ => w.elim
abbrev BI : Type := Shared × Hp × Addr × List (Str × Addr) × List Addr
theorem lc_run {own : List Nat} {g : VTG} {tt : VTT} {te : VTE} {tgE elt : Expr} {ifs : List Expr} {scope : Scope}
    (hk : ∀ i ∈ own, X.κ[i]? ≠ some true)
    (hg : ∀ c : BI, VTo (X.blk c.1 c.2.1 scope c.2.2.1 c.2.2.2.1 c.2.2.2.2) own tgE g) (ht : ∀ c : BI, VTs (X.blk c.1 c.2.1 scope c.2.2.1 c.2.2.2.1 c.2.2.2.2) ifs tt) (he : ∀ c : BI, VE (X.blk c.1 c.2.1 scope c.2.2.1 c.2.2.2.1 c.2.2.2.2) elt te) :
    ∃ (g' : TG) (tt' : TT) (te' : TE), (∀ c : BI, PG (X.blk c.1 c.2.1 scope c.2.2.1 c.2.2.2.1 c.2.2.2.2).toCx tgE g') ∧ (∀ c : BI, PTs (X.blk c.1 c.2.1 scope c.2.2.1 c.2.2.2.1 c.2.2.2.2).toCx ifs tt') ∧ (∀ c : BI, PE (X.blk c.1 c.2.1 scope c.2.2.1 c.2.2.2.1 c.2.2.2.2).toCx elt te') ∧
      ∀ (b : Bx X) σ H ε T Tv R Rv ds J (Q : List D → Ep → Prop) (Q' : VK), SI X.K b.1 σ H ε (T ++ R) (Tv ++ Rv) → T.length = Tv.length → R.length = Rv.length → Wk X.K J ds R Rv → vLcL own g tt te ds [] (pull own ε).2.2 (fun acc ε' => Q acc (restore (pull own ε).1 (pull own ε).2.1 ε')) →
        (∀ acc v ε' H', SI X.K b.1 σ H' ε' (T ++ [.lst true acc]) (Tv ++ [v]) → Q acc ε' → Q' v H') →
        ∀ D, H D = none → ∃ W : Nat → Nat → Hp → Prop, (∃ m, W 0 m (upd H D (.lst []))) ∧ ∀ i m H, W i m H →
          (J.stop i H ∧ Q' (.ref D) H) ∨ (J.go i H ∧ ∃ Nx : Hp → Prop, (∀ H', Nx H' → ∃ m', m' < m ∧ W (i + 1) m' H') ∧ ∀ x H', J.yld i H x H' → g' x (wipe σ own) H' fun σ2 H2 => wipe σ2 own = wipe σ own ∧ tt' σ2 H2 fun b H3 =>
            if b = true then te' σ2 H3 fun y H4 => ∃ acc, H4 D = some (.lst acc) ∧ acc.length < sizeLine ∧ Nx (upd H4 D (.lst (acc ++ [y]))) else Nx H3) := by
  let gc : BI → TG := fun c => Classical.choose (hg c).ex
  have gs := fun c => Classical.choose_spec (hg c).ex
  let tc : BI → WX → TT := fun c => Classical.choose (ht c).ex
  have ts := fun c => Classical.choose_spec (ht c).ex
  let ec : BI → WX → TE := fun c => Classical.choose (he c).ex
  have es := fun c => Classical.choose_spec (he c).ex
  let Wn : WX := fun _ _ _ _ => False
  refine ⟨fun v σ H Q => ∀ c, gc c v σ H Q, fun σ H Q => ∀ c, tc c Wn σ H Q, fun σ H Q => ∀ c, ec c Wn σ H Q, fun c => ⟨fun pins s σ H v u Q I r w => (gs c).1.run pins s σ H v u Q I r (w c)⟩, fun c => ⟨fun pins s σ H Q I w => ((ts c).1 Wn takes_no).run pins s σ H Q I (w c)⟩, fun c => ⟨fun pins s σ H Q I w => ((es c).1 Wn takes_no).run pins s σ H Q I (w c)⟩, ?_⟩
  intro b σ H ε T Tv R Rv ds J Q Q' I hl hr wk q k D nD
  obtain ⟨pv, Ip, hh, lp, pg⟩ := SI.pull hl (is := own) hr I
  generalize hpr : pull own ε = pr at q Ip hh lp pg
  obtain ⟨rs, pd, ε0⟩ := pr
  simp only at q Ip hh lp pg
  have hlR : (T ++ (R ++ pd)).length = (Tv ++ (Rv ++ pv)).length := by simp [hl, hr, lp]
  -- the slots of the block's own names hold nothing
  have xl : ∀ {T : List VL.D} {Tv : List V}, XL X.K b.1 T Tv Wn noX := fun _ _ _ _ _ _ _ _ _ _ z => z.elim
  have wipeI : ∀ {H : Hp} {ε2 : Ep} {T : List VL.D} {Tv : List V} {σ2 : L2.St}, (∀ i ∈ own, ∀ d, ε2[i]? ≠ some (some d)) → wipe σ2 own = wipe σ own → SI X.K b.1 σ2 H ε2 T Tv → SI X.K b.1 (wipe σ own) H ε2 T Tv := by
    intro H ε2 T Tv σ2 hn hw I
    have key : ∀ j, j ∉ own → (wipe σ own)[j]? = σ2[j]? := fun j hj => by
      rw [← hw, wipe_get, if_neg hj]
    refine I.reslot (by rw [← hw, wipe_length]) (fun j d e => key j fun hj => hn j hj d e) fun j v e => key j fun hj => b.free (hk j hj) v e
  have unwipe : ∀ {H : Hp} {ε2 : Ep} {T : List VL.D} {Tv : List V}, (∀ i ∈ own, ∀ d, ε2[i]? ≠ some (some d)) → SI X.K b.1 (wipe σ own) H ε2 T Tv → SI X.K b.1 σ H ε2 T Tv := by
    intro H ε2 T Tv hn I
    have key : ∀ j, j ∉ own → σ[j]? = (wipe σ own)[j]? := fun j hj => by
      rw [wipe_get, if_neg hj]
    refine I.reslot (by rw [wipe_length]) (fun j d e => key j fun hj => hn j hj d e) fun j v e => key j fun hj => b.free (hk j hj) v e
  have fn : ∀ {ε : Ep}, ∀ i ∈ own, ∀ d, (forgetE own ε)[i]? ≠ some (some d) := fun {ε} i hi d e => by
    rw [forgetE_get, if_pos hi] at e
    cases h : ε[i]? <;> rw [h] at e <;> cases e
  have fn0 : ∀ i ∈ own, ∀ d, ε0[i]? ≠ some (some d) := fun i hi d e => by
    rw [pg, if_pos hi] at e
    cases h : ε[i]? <;> rw [h] at e <;> cases e
  let Iv := fun (i m : Nat) (H : Hp) => m = ds.length - i ∧ i ≤ ds.length ∧ ∃ ε2 acc, (∀ i ∈ own, ∀ d, ε2[i]? ≠ some (some d)) ∧ SI X.K b.1 (wipe σ own) H ε2 (T ++ (R ++ (pd ++ [.lst true acc]))) (Tv ++ (Rv ++ (pv ++ [.ref D]))) ∧ vLcL own g tt te (ds.drop i) acc ε2 fun acc ε' => Q acc (restore rs pd ε')
  refine ⟨Iv, ⟨ds.length, rfl, Nat.zero_le _, ε0, [], fn0, ?_, q⟩, ?_⟩
  · have I0 := wipeI fn0 rfl Ip
    have := SI.laid (ds := []) (vs := []) (T := T ++ (R ++ pd)) (Tv := Tv ++ (Rv ++ pv)) (by simpa using I0) hlR nD (.lst []) (d := .lst true []) fun G H' F e r => ⟨D, [], F, rfl, e, rfl, r⟩
    simpa only [List.append_assoc] using this
  rintro i m H2 ⟨rfl, hi, ε2, acc, hn2, I2, z2⟩
  have lpa : (pd ++ [VL.D.lst true acc]).length = (pv ++ [V.ref D]).length := by simp [lp]
  have IR : SI X.K b.1 (wipe σ own) H2 ε2 ((T ++ (pd ++ [.lst true acc])) ++ R) ((Tv ++ (pv ++ [.ref D])) ++ Rv) := by
    have := SI.swap (A := R) (B := pd ++ [.lst true acc]) (C := []) (Av := Rv) (Bv := pv ++ [.ref D]) (Cv := []) (by simpa using I2) hl hr lpa
    simpa using this
  have hl2 : (T ++ (pd ++ [VL.D.lst true acc])).length = (Tv ++ (pv ++ [V.ref D])).length := by simp [hl, lp]
  obtain ⟨go, stop⟩ := wk b.1 (wipe σ own) H2 ε2 _ _ i hl2 IR
  by_cases hlt : i < ds.length
  · right
    rw [List.drop_eq_getElem_cons hlt] at z2
    obtain ⟨g0, gy⟩ := go ds[i] (List.getElem?_eq_getElem hlt)
    refine ⟨g0, Iv (i + 1) (ds.length - (i + 1)), fun H' y => ⟨ds.length - (i + 1), by omega, y⟩, fun x H' y c => ?_⟩
    have I3 := gy x H' y
    have I4 : SI X.K b.1 (wipe σ own) H' ε2 (T ++ (R ++ ((pd ++ [.lst true acc]) ++ [ds[i]]))) (Tv ++ (Rv ++ ((pv ++ [.ref D]) ++ [x]))) :=
      SI.swap (A := pd ++ [.lst true acc]) (B := R) (C := [ds[i]]) (Av := pv ++ [.ref D]) (Bv := Rv) (Cv := [x]) (by simpa only [List.append_assoc] using I3) hl lpa hr
    have hl3 : (T ++ (R ++ (pd ++ [VL.D.lst true acc]))).length = (Tv ++ (Rv ++ (pv ++ [V.ref D]))).length := by simp [hl, hr, lp]
    refine (gs c).2 b _ H' ε2 (T ++ (R ++ (pd ++ [.lst true acc]))) (Tv ++ (Rv ++ (pv ++ [.ref D]))) ds[i] x _ _ (by simpa only [List.append_assoc] using I4) hl3 z2 fun ε3 σ3 H3 hw I5 z3 => ?_
    refine ⟨by rw [hw, wipe_wipe], fun c2 => ?_⟩
    refine (ts c2).2 b σ3 H3 ε3 _ _ Wn noX _ _ I5 z3 (fun k4 ε4 H4 I6 z4 => ?_) xl
    have hw3 : wipe σ3 own = wipe σ own := by rw [hw, wipe_wipe]
    cases k4 with
    | false => exact ⟨rfl, hlt, forgetE own ε4, acc, fn, wipeI fn hw3 I6.forget, z4⟩
    | true =>
      intro c3
      refine (es c3).2 b σ3 H4 ε4 _ _ Wn noX _ _ I6 z4 (fun yd yv ε5 H5 I7 z5 => ?_) xl
      have hl4 : (T ++ (R ++ pd)).length = (Tv ++ (Rv ++ pv)).length := hlR
      obtain ⟨vs, hv, lv, I8⟩ := SI.accPush (T := T ++ (R ++ pd)) (Tv := Tv ++ (Rv ++ pv)) (acc := acc) (y := yd) (p := D) (v := yv) (by simpa only [List.append_assoc, List.cons_append, List.nil_append] using I7) hl4
      refine ⟨vs, hv, by rw [lv]; exact k1m z5.1, rfl, hlt, forgetE own ε5, acc ++ [yd], fn, wipeI fn hw3 (SI.forget ?_), z5.2⟩
      simpa only [List.append_assoc, List.cons_append, List.nil_append] using I8
  · left
    have e : i = ds.length := by omega
    subst e
    rw [List.drop_length] at z2
    refine ⟨stop (Nat.le_refl _), ?_⟩
    have I9 := unwipe hn2 I2
    have I10 := SI.midDrops I9 hl hr
    exact k acc (.ref D) _ H2 (SI.restore hl hh lp I10) z2
theorem ve_lc {elt tg iter : Expr} {ifs : List Expr} {scope : Scope} {own : List (Str × Nat)} {pos : Pos} {wi : VTA} {g : VTG} {tt : VTT} {te : VTE} (hc : X.calm = true) (hN : X.N.Nodup) (ok : BlkOk X.N X.env.scope scope own) (hk : ∀ i ∈ own.map (·.2), X.κ[i]? ≠ some true) (hi : VI X tg iter wi)
    (hg : ∀ c : BI, VTo (X.blk c.1 c.2.1 scope c.2.2.1 c.2.2.2.1 c.2.2.2.2) (own.map (·.2)) tg g) (ht : ∀ c : BI, VTs (X.blk c.1 c.2.1 scope c.2.2.1 c.2.2.2.1 c.2.2.2.2) ifs tt) (he : ∀ c : BI, VE (X.blk c.1 c.2.1 scope c.2.2.1 c.2.2.2.1 c.2.2.2.2) elt te)
    (hs : ∀ x, foldedSetIterable iter X.env x = pure x := by intro _; rfl) : VE X (.ListComp elt [⟨tg, iter, ifs, 0⟩] scope pos) (vLc (own.map (·.2)) wi g tt te) := by
  obtain ⟨wi', w1, w2⟩ := hi.ex
  obtain ⟨g', tt', te', h1, h2, h3, run⟩ := lc_run hk hg ht he
  refine ⟨fun W => tLc (wi' W) g' tt' te' (own.map (·.2)), fun W tk => pe_lc hc hN (w1 W tk) ok (fun s H C cl fp => h1 ⟨s, H, C, cl, fp⟩) (fun s H C cl fp => h2 ⟨s, H, C, cl, fp⟩) (fun s H C cl fp => h3 ⟨s, H, C, cl, fp⟩) hs, fun b σ H ε T Tv W N Q Q' I q k x => ?_⟩
  exact w2 b σ H ε T Tv W N _ _ I q (fun ds R Rv J ε1 H1 I1 hr wk z => run b σ H1 ε1 T Tv R Rv ds J _ Q' I1 I.lenT hr wk z fun acc v ε' H' I' z' => k _ v ε' H' I' z') x
/-- name = [..] on one line -/
theorem vs_setLc {i : Nat} {y : Str} {py : Pos} {elt tg iter : Expr} {ifs : List Expr} {scope : Scope} {own : List (Str × Nat)} {pos spos : Pos} {wi : VTA} {g : VTG} {tt : VTT} {te : VTE} (hc : X.calm = true) (hN : X.N.Nodup) (ok : BlkOk X.N X.env.scope scope own) (hk : ∀ i ∈ own.map (·.2), X.κ[i]? ≠ some true) (hi : VI X tg iter wi)
    (hg : ∀ c : BI, VTo (X.blk c.1 c.2.1 scope c.2.2.1 c.2.2.2.1 c.2.2.2.2) (own.map (·.2)) tg g) (ht : ∀ c : BI, VTs (X.blk c.1 c.2.1 scope c.2.2.1 c.2.2.2.1 c.2.2.2.2) ifs tt) (he : ∀ c : BI, VE (X.blk c.1 c.2.1 scope c.2.2.1 c.2.2.2.1 c.2.2.2.2) elt te)
    (hy : X.N[i]? = some y) (hyl : X.env.scope.names.lookup y = some .local) (hky : X.κ[i]? ≠ some true) (hsw : swapsWith (.ListComp elt [⟨tg, iter, ifs, 0⟩] scope pos) (some (.Name y py)) spos.line X.env = pure true)
    (hs : ∀ x, foldedSetIterable iter X.env x = pure x := by intro _; rfl) : VS X (.Assign [.Name y py] (.ListComp elt [⟨tg, iter, ifs, 0⟩] scope pos) spos) (vAsg i (vLc (own.map (·.2)) wi g tt te)) := by
  obtain ⟨wi', w1, w2⟩ := hi.ex
  obtain ⟨g', tt', te', h1, h2, h3, run⟩ := lc_run hk hg ht he
  refine ⟨fun W => tAsg (tLc (wi' W) g' tt' te' (own.map (·.2))) (gName i), fun W tk => ps_setLc hc hN hy hyl hsw (w1 W tk) ok (fun s H C cl fp => h1 ⟨s, H, C, cl, fp⟩) (fun s H C cl fp => h2 ⟨s, H, C, cl, fp⟩) (fun s H C cl fp => h3 ⟨s, H, C, cl, fp⟩) hs, fun b σ H ε T Tv W N E I q l x => ?_⟩
  exact w2 b σ H ε T Tv W N.rx _ _ I q (fun ds R Rv J ε1 H1 I1 hr wk z => run b σ H1 ε1 T Tv R Rv ds J (fun acc ε' => i < ε'.length ∧ N.nx (ε'.set i (some (.lst true acc)))) _ I1 I.lenT hr wk z fun acc v ε' H' I' z' => l.nx _ H' _ (I'.store I.lenT z'.1 (b.free hky)) z'.2) x
end
end VL
namespace VL
open PySem PySem.Spec PyProof.Rows L2 VL
def cutL {α : Type} (xs : List α) (lo hi : Option Int) : List α := (xs.drop (HT.sIx xs.length 0 lo)).take (HT.sIx xs.length xs.length hi - HT.sIx xs.length 0 lo)
section
variable {K : PySem.W.Frag} {G H : Hp}
theorem RpL.drop : ∀ {ds : List D} {vs : List V} (n : Nat), RpL K G H ds vs [] → RpL K G H (ds.drop n) (vs.drop n) []
  | _, _, 0, r => by simpa using r
  | [], vs, n + 1, r => by
    obtain ⟨rfl, _⟩ := r
    exact ⟨rfl, rfl⟩
  | d :: ds, vs, n + 1, r => by
    obtain ⟨v, vs', F1, F2, rfl, f, rd, rs⟩ := r
    obtain ⟨rfl, rfl⟩ := List.append_eq_nil_iff.mp f.symm
    simpa using RpL.drop n rs
theorem RpL.take : ∀ {ds : List D} {vs : List V} (n : Nat), RpL K G H ds vs [] → RpL K G H (ds.take n) (vs.take n) []
  | _, _, 0, r => by simp only [List.take_zero]; exact ⟨rfl, rfl⟩
  | [], vs, n + 1, r => by
    obtain ⟨rfl, _⟩ := r
    exact ⟨rfl, rfl⟩
  | d :: ds, vs, n + 1, r => by
    obtain ⟨v, vs', F1, F2, rfl, f, rd, rs⟩ := r
    obtain ⟨rfl, rfl⟩ := List.append_eq_nil_iff.mp f.symm
    exact ⟨v, vs'.take n, [], [], rfl, rfl, rd, RpL.take n rs⟩
theorem RpL.cut {ds : List D} {vs : List V} (r : RpL K G H ds vs []) (lo hi : Option Int) : RpL K G H (cutL ds lo hi) (cutV vs lo hi) [] := by
  unfold cutL cutV
  rw [r.len]
  exact (r.drop _).take _
theorem cutS_toS (s : Cs) (lo hi : Option Int) : cutS (toS s) lo hi = toS (cutL s lo hi) := by
  unfold cutS cutL
  rw [toS_len]
  have : (toS s).cps.toList = s := by simp [toS]
  rw [this]
  rfl
/-- a slice of a text, a list, a tuple, whose items stand still -/
def sliceD : D → Option Int → Option Int → Option D
  | .str s, lo, hi => if s.length < 1000000 then some (.str (cutL s lo hi)) else none
  | .lst _ ds, lo, hi => if isFzL ds = true then some (.lst true (cutL ds lo hi)) else none
  | .tup ds, lo, hi => if isFzL ds = true then some (.tup (cutL ds lo hi)) else none
  | _, _, _ => none
def rSlD (K : PySem.W.Frag) : V → Option Int → Option Int → Hp → VK → Prop := fun x lo hi H Q => rSlS x lo hi H Q ∨ rSlL K x lo hi H Q ∨ rSlA K x lo hi H Q
theorem sl_any {X : Cx} : SlR X (rSlD X.K) := SlR.or sl_str (SlR.or sl_list sl_tupA)
theorem sl_run (hs : Sub G H) {x d : D} {v : V} {F : List Addr} {lo hi : Option Int} {Q' : VK} (r : Rp K G H x v F) (h : sliceD x lo hi = some d) (k : ∀ v H', Nw K G H d v H' → Q' v H') : rSlD K v lo hi H Q' := by
  cases x with
  | str s =>
    have h : (if s.length < 1000000 then some (D.str (cutL s lo hi)) else none) = some d := h
    by_cases hz : s.length < 1000000
    · rw [if_pos hz] at h
      cases h
      obtain ⟨rfl, _⟩ := r
      refine .inl ⟨toS s, rfl, by rw [toS_len]; exact Nat.le_of_lt (k1m hz), ?_⟩
      rw [cutS_toS]
      exact k _ _ (nwS _)
    · rw [if_neg hz] at h; cases h
  | lst m xs =>
    have h : (if isFzL xs = true then some (D.lst true (cutL xs lo hi)) else none) = some d := h
    by_cases hf : isFzL xs = true
    · rw [if_pos hf] at h
      cases h
      have hx : ∃ a us, v = .ref a ∧ SqL K H a us ∧ RpL K G H xs us [] := by
        cases m with
        | false => obtain ⟨a, us, e, s, _, r⟩ := r; exact ⟨a, us, e, hs.sqL s, r⟩
        | true => obtain ⟨a, us, F', e, s, _, r⟩ := r; have := r.fz hf; subst this; exact ⟨a, us, e, SqL.of s, r⟩
      obtain ⟨a, us, rfl, s, r⟩ := hx
      exact .inr (.inl ⟨a, us, rfl, s, fun p hp => k _ _ (.lst (r.cut lo hi) hp)⟩)
    · rw [if_neg hf] at h; cases h
  | tup xs =>
    have h : (if isFzL xs = true then some (D.tup (cutL xs lo hi)) else none) = some d := h
    by_cases hf : isFzL xs = true
    · rw [if_pos hf] at h
      cases h
      obtain ⟨a, us, rfl, s, r⟩ := r
      have := r.fz hf; subst this
      refine .inr (.inr ⟨a, us, rfl, SqT.of (hs _ _ s), fun w => ?_, fun _ p hp => k _ _ (.tup (r.cut lo hi) hp)⟩)
      have e : cutL xs lo hi = xs := by
        unfold cutL
        rw [r.len, w.1, w.2, List.drop_zero, Nat.sub_zero, ← r.len, List.take_length]
      rw [e] at k
      exact k _ _ (.val fun G' H' s' => ⟨a, us, rfl, s' _ _ s, r.mono s' fun _ z => nomatch z⟩)
    · rw [if_neg hf] at h; cases h
  | _ => cases h
end
/-- a slice's part -/
abbrev VTO := WV → Ep → (Option Int → Ep → Prop) → Prop
section
variable {X : Cv}
structure VO (X : Cv) (e : Option Expr) (t : VTO) : Prop where
  ex : ∃ t' : WX → TO, (∀ W, Takes X.toCx W → PO X.toCx e (t' W)) ∧ ∀ (b : Bx X) σ H ε T Tv W N (Q : Option Int → Ep → Prop) (Q' : Option Int → Hp → Prop), SI X.K b.1 σ H ε T Tv → t N ε Q →
    (∀ o ε' H', SI X.K b.1 σ H' ε' T Tv → Q o ε' → Q' o H') → XL X.K b.1 T Tv W N → t' W σ H Q'
def vNoPart : VTO := fun _ ε Q => Q none ε
def vPart (t : VTE) : VTO := fun N ε Q => t N ε fun d ε1 => ∃ i, d = .int i ∧ Q (some i) ε1
theorem vo_none : VO X none vNoPart := ⟨fun _ => tNoPart, fun _ _ => po_none, fun b σ H ε T Tv W N Q Q' I q k x => k none ε H I q⟩
theorem vo_some {e : Expr} {t : VTE} (h : VE X e t) : VO X (some e) (vPart t) := by
  obtain ⟨t', h1, h2⟩ := h.ex
  refine ⟨fun W => tPart (t' W), fun W tk => po_some (h1 W tk), fun b σ H ε T Tv W N Q Q' I q k x => ?_⟩
  refine h2 b σ H ε T Tv W N _ _ I q (fun d v ε1 H1 J z => ?_) x
  obtain ⟨i, rfl, z⟩ := z
  obtain ⟨G, F, _, rv, _⟩ := J.last I.lenT
  exact ⟨i, rv, k (some i) ε1 H1 (J.pop I.lenT) z⟩
def vSl (r : Option Nat) (t : VTE) (tl th : VTO) : VTE := fun N ε Q => t N ε fun x ε1 => tl N ε1 fun lo ε2 => th N ε2 fun hi ε3 => ∃ d, sliceD x lo hi = some d ∧ Q d (restore [r] [x] ε3)
theorem ve_slice {e : Expr} {lo hi : Option Expr} {r : Option Nat} {t : VTE} {tl th : VTO} {pos p2 : Pos} (h : VG X e r t) (hl : VO X lo tl) (hh : VO X hi th) : VE X (.Subscript e (.Slice lo hi none p2) pos) (vSl r t tl th) := by
  obtain ⟨t', a1, a2⟩ := h.ex
  obtain ⟨l', b1, b2⟩ := hl.ex
  obtain ⟨h', c1, c2⟩ := hh.ex
  refine ⟨fun W => tSl (rSlD X.K) (t' W) (l' W) (h' W), fun W tk => pe_slice sl_any (a1 W tk) (b1 W tk) (c1 W tk), fun b σ H ε T Tv W N Q Q' I q k x => ?_⟩
  refine a2 b σ H ε T Tv W N _ _ I q (fun d v ε1 H1 J hd z => ?_) x
  refine b2 b σ H1 ε1 _ _ W N _ _ J z (fun o1 ε2 H2 J2 z2 => ?_) (x.more I.lenT rfl)
  refine c2 b σ H2 ε2 _ _ W N _ _ J2 z2 (fun o2 ε3 H3 J3 z3 => ?_) (x.more I.lenT rfl)
  obtain ⟨y, hy, z3⟩ := z3
  have op : OpN X.K (fun vs H Q => ∃ v, vs = [v] ∧ rSlD X.K v o1 o2 H Q) (fun ds Q => ∃ x d, ds = [x] ∧ sliceD x o1 o2 = some d ∧ Q d) := OpN.mk fun G H ds vs F Q Q' hs r q k => by
    obtain ⟨x, d, rfl, h, q⟩ := q
    obtain ⟨v, rfl, rx⟩ := r.one'
    exact ⟨v, rfl, sl_run hs rx h fun v H' nw => k d v H' nw q⟩
  obtain ⟨v', e', z'⟩ := op.run (ds := [d]) (vs := [v]) (rs := [r]) (Q := Q) (Q' := Q') I.lenT rfl J3 hd ⟨d, y, rfl, hy, z3⟩ k
  obtain ⟨rfl, _⟩ := List.cons.inj e'
  exact z'
/-- xs[::-1] -/
def sRev : List D → (D → Prop) → Prop := fun ds Q => ∃ m xs, ds = [.lst m xs] ∧ isFzL xs = true ∧ Q (.lst true xs.reverse)
theorem RpL.rev {K : PySem.W.Frag} {G H : Hp} : ∀ {ds : List D} {vs : List V}, RpL K G H ds vs [] → RpL K G H ds.reverse vs.reverse []
  | [], vs, r => by
    obtain ⟨rfl, _⟩ := r
    exact ⟨rfl, rfl⟩
  | d :: ds, vs, r => by
    obtain ⟨v, vs', F1, F2, rfl, f, rd, rs⟩ := r
    obtain ⟨rfl, rfl⟩ := List.append_eq_nil_iff.mp f.symm
    rw [List.reverse_cons, List.reverse_cons]
    have := (RpL.rev rs).append (RpL.one.mpr rd)
    simpa using this
theorem ve_rev {e : Expr} {r : Option Nat} {t : VTE} {k0 : Nat} {p1 p2 p3 pos : Pos} (h : VG X e r t) : VE X (.Subscript e (.Slice none none (some (.UnaryOp .USub (.Constant (.int 1) k0 p1) p2)) p3) pos) (vOp sRev [r] (va1 t)) := by
  obtain ⟨t', a1, a2⟩ := h.ex
  refine ⟨fun W => tRevL X.K (t' W), fun W tk => pe_revL (a1 W tk), fun b σ H ε T Tv W N Q Q' I q k x => ?_⟩
  refine a2 b σ H ε T Tv W N _ _ I q (fun d v ε1 H1 J hd z => ?_) x
  have op : OpN X.K (fun vs H Q => ∃ x, vs = [x] ∧ ∃ a xs, x = .ref a ∧ SqL X.K H a xs ∧ ∀ p, H p = none → Q (.ref p) (upd H p (.lst xs.reverse))) sRev := OpN.mk fun G H ds vs F Q Q' hs r q k => by
    obtain ⟨m, xs, rfl, hf, q⟩ := q
    obtain ⟨v, rfl, rx⟩ := r.one'
    have hx : ∃ a us, v = .ref a ∧ SqL X.K H a us ∧ RpL X.K G H xs us [] := by
      cases m with
      | false => obtain ⟨a, us, e, s, _, r⟩ := rx; exact ⟨a, us, e, hs.sqL s, r⟩
      | true => obtain ⟨a, us, F', e, s, _, r⟩ := rx; have := r.fz hf; subst this; exact ⟨a, us, e, SqL.of s, r⟩
    obtain ⟨a, us, rfl, s, rl⟩ := hx
    exact ⟨_, rfl, a, us, rfl, s, fun p hp => k _ _ _ (.lst rl.rev hp) q⟩
  obtain ⟨v', e', z'⟩ := op.run (ds := [d]) (vs := [v]) (rs := [r]) (Q := Q) (Q' := Q') I.lenT rfl J hd z k
  obtain ⟨rfl, _⟩ := List.cons.inj e'
  exact z'
/-- the value at a key, or x -/
def dget2D (c k x : D) : Option D := match c with
  | .dK _ ks ds => (keyD k).bind fun k => match kIx ks k with | some j => ds[j]? | none => some x
  | .dT _ ks ds => (keyT k).bind fun k => match kIx ks k with | some j => ds[j]? | none => some x
  | _ => none
def isDct : D → Bool
  | .dK _ _ _ => true
  | .dT _ _ _ => true
  | _ => false
def sDGet2 : List D → (D → Prop) → Prop := fun ds Q => ∃ c k x d, ds = [c, k, x] ∧ isFz x = true ∧ dget2D c k x = some d ∧ isFz d = true ∧ Q d
def vDGet2 (r : Option Nat) (tc tk tx : VTE) : VTE := fun N ε Q => tc N ε fun c ε1 => isDct c = true ∧ tk N ε1 fun k ε2 => tx N ε2 fun x ε3 => sDGet2 [c, k, x] fun d => Q d (restore [r] [c] ε3)
def likeD (ks : List Kc) (xs : List D) (ls : List Kc) (ys : List D) : Prop := xs.length = ys.length ∧ ∀ (j : Nat) k x, ks[j]? = some k → xs[j]? = some x → flatD x = true ∧ ∃ i, kIx ls k = some i ∧ ys[i]? = some x
def sEqD (c : Bool) : List D → (D → Prop) → Prop := fun ds Q => ∃ m ks xs n ls ys, ds = [.dK m ks xs, .dK n ls ys] ∧ likeD ks xs ls ys ∧ Q (.bl c)
end
end VL
namespace VL
open PySem PySem.Spec PyProof.Rows L2 VL
abbrev oSub := sI2 fun i j => .int (i - j)
abbrev oLt := sI2 fun i j => .bl (decide (i < j))
abbrev oGt := sI2 fun i j => .bl (decide (j < i))
abbrev oGe := sI2 fun i j => .bl (decide (j ≤ i))
abbrev oMod := sI2c (fun _ j => j ≠ 0) fun i j => .int (pmod i j)
abbrev oDiv := sI2c CDv fun i j => .int (pdiv i j)
abbrev oPow := sI2c CPow fun i j => .int (i ^ j.toNat)
def oNeg : List D → (D → Prop) → Prop := fun ds Q => ∃ i, ds = [.int i] ∧ Q (.int (-i))
theorem opn_neg {K : PySem.W.Frag} : OpN K (r1N (rU fun i => .int (-i))) oNeg := OpN.pure fun G H ds vs F Q Q' hs r q k => by
  obtain ⟨i, rfl, q⟩ := q
  obtain ⟨v, rfl, rfl, _⟩ := r.one'
  exact ⟨_, rfl, i, rfl, k (.int (-i)) _ (fun _ _ _ => ⟨rfl, rfl⟩) q⟩
section
variable {X : Cv}
theorem nv (i : Nat) {x : Str} {pos : Pos} (hN : X.N[i]? = some x := by rfl) (hv : Vis X.env.scope x := by first | exact Or.inl rfl | exact Or.inr (Or.inl rfl) | exact Or.inr (Or.inr rfl)) (hd : (x == ("__debug__" : Str)) = false := by decide) (hcd : (x == ("__classdict__" : Str)) = false := by decide) : VE X (.Name x pos) (vVar i) := ve_var hN hv hd hcd
theorem nm (i : Nat) {x : Str} {pos : Pos} (hN : X.N[i]? = some x := by rfl) (hv : Vis X.env.scope x := by first | exact Or.inl rfl | exact Or.inr (Or.inl rfl) | exact Or.inr (Or.inr rfl)) (hd : (x == ("__debug__" : Str)) = false := by decide) (hcd : (x == ("__classdict__" : Str)) = false := by decide) : VE X (.Name x pos) (vMov i) := ve_mov hN hv hd hcd
theorem nf (i : Nat) {x : Str} {pos : Pos} (hN : X.N[i]? = some x := by rfl) (hv : Vis X.env.scope x := by first | exact Or.inl rfl | exact Or.inr (Or.inl rfl) | exact Or.inr (Or.inr rfl)) (hd : (x == ("__debug__" : Str)) = false := by decide) (hcd : (x == ("__classdict__" : Str)) = false := by decide) : VE X (.Name x pos) (vFrz i) := ve_frz hN hv hd hcd
theorem nq (i : Nat) {x : Str} {pos : Pos} (hN : X.N[i]? = some x := by rfl) (hv : Vis X.env.scope x := by first | exact Or.inl rfl | exact Or.inr (Or.inl rfl) | exact Or.inr (Or.inr rfl)) (hd : (x == ("__debug__" : Str)) = false := by decide) (hcd : (x == ("__classdict__" : Str)) = false := by decide) : VQ X (.Name x pos) (vVar i) := vq_var hN hv hd hcd
theorem np (i : Nat) {x : Str} {pos : Pos} (hN : X.N[i]? = some x := by rfl) (hv : Vis X.env.scope x := by first | exact Or.inl rfl | exact Or.inr (Or.inl rfl) | exact Or.inr (Or.inr rfl)) (hd : (x == ("__debug__" : Str)) = false := by decide) (hcd : (x == ("__classdict__" : Str)) = false := by decide) : VP X (.Name x pos) i (vpName i) := vp_name hN hv hd hcd
theorem ng (i : Nat) {x : Str} {pos : Pos} (hN : X.N[i]? = some x := by rfl) (hv : Vis X.env.scope x := by first | exact Or.inl rfl | exact Or.inr (Or.inl rfl) | exact Or.inr (Or.inr rfl)) (hd : (x == ("__debug__" : Str)) = false := by decide) (hcd : (x == ("__classdict__" : Str)) = false := by decide) : VG X (.Name x pos) (some i) (vMov i) := vg_ref hN hv hd hcd
theorem sa (i : Nat) {x : Str} {e : Expr} {t : VTE} {pos pos' : Pos} (hN : X.N.Nodup) (h : VE X e t) (hi : X.N[i]? = some x := by rfl) (hx : Loc X.env.scope x := by first | exact Or.inl rfl | exact Or.inr rfl) (hk : X.κ[i]? ≠ some true := by exact ne_of_beq_false rfl) (hs : swapsWith e (some (.Name x pos')) pos.line X.env = pure false := by rfl)
    (hf : X.fn x = true ∨ X.env.scope.names.lookup x = some .local := by first | exact .inl rfl | exact .inr rfl) : VS X (.Assign [.Name x pos'] e pos) (vAsg i t) := vs_asg hN hi hx hk h hs hf
theorem tn (i : Nat) {x : Str} {pos : Pos} (hN : X.N.Nodup) (hi : X.N[i]? = some x := by rfl) (hx : Loc X.env.scope x := by first | exact Or.inl rfl | exact Or.inr rfl) (hk : X.κ[i]? ≠ some true := by exact ne_of_beq_false rfl)
    (hf : X.fn x = true ∨ X.env.scope.names.lookup x = some .local := by first | exact .inl rfl | exact .inr rfl) : VTa X (.Name x pos) (vName i) := vt_name hN hi hx hk hf
theorem m_app (i : Nat) {y : Str} {opos : Pos} {e : Expr} {es : List Expr} {rs : List (Option Nat)} {te : VTA} {apos cpos : Pos} (he : VA X (e :: es) rs te) (hrs : rs.all (· == none) = true := by rfl) (hN : X.N[i]? = some y := by rfl) (hv : Vis X.env.scope y := by first | exact Or.inl rfl | exact Or.inr (Or.inl rfl) | exact Or.inr (Or.inr rfl))
    (hd : (y == ("__debug__" : Str)) = false := by decide) (hcd : (y == ("__classdict__" : Str)) = false := by decide)
    (hbase : attributeBase (.Name y opos) "append" X.env (eval (.Name y opos) X.env) = eval (.Name y opos) X.env := by rfl)
    (hfew : ((backTo cpos (starEach (e :: es) X.env)).all (fun x => !x.1) && (backToKw cpos (keywordEach [] X.env)).all (fun x => x.1.isSome) && decide ((e :: es).length + ([] : List Keyword).length + (if ([] : List Keyword).isEmpty then 0 else 1) < 30)) = true := by rfl)
    (hline : (apos.endLine == cpos.line) = true := by rfl) (hs : starEach (e :: es) X.env = (false, eval e X.env) :: starEach es X.env := by rfl) (hplain : (backTo cpos (starEach es X.env)).any (·.1) = false := by rfl) :
    VE X (.Call (.Attribute (.Name y opos) "append" apos) (e :: es) [] cpos) (vMutN muAppend i te) := ve_mutN hN hv he hrs mu_append PySem.F.slot_list_append PySem.F.type_list_append mt_append hd hcd hbase hfew hline hs hplain
/-- a name as an argument: moved out behind the arguments that follow -/
def vaLate (i : Nat) (u : VTA) : VTA := fun N ε Q => (∃ d, ε[i]? = some (some d)) ∧ u N ε fun ds ε1 => ∃ d, ε1[i]? = some (some d) ∧ Q (d :: ds) (ε1.set i none)
theorem va_late {i : Nat} {x : Str} {pos : Pos} {es : List Expr} {rs : List (Option Nat)} {u : VTA} (k : VA X es rs u) (hN : X.N[i]? = some x) (hv : Vis X.env.scope x) (hd : (x == ("__debug__" : Str)) = false := by decide) (hcd : (x == ("__classdict__" : Str)) = false := by decide)
    (hs : starEach (.Name x pos :: es) X.env = (false, eval (.Name x pos) X.env) :: starEach es X.env := by rfl) : VA X (.Name x pos :: es) (some i :: rs) (vaLate i u) := by
  obtain ⟨u', k1, k2⟩ := k.ex
  refine ⟨fun W => tCons (tVar i) (u' W), fun W tk => pa_cons (pe_var hN hv hd hcd) (k1 W tk) hs, fun b σ H ε T Tv W N Q Q' I q z x => ?_⟩
  obtain ⟨⟨d0, e0⟩, q⟩ := q
  obtain ⟨v, hs, _⟩ := I.mov e0
  refine ⟨v, hs, k2 b σ H ε T Tv W N _ _ I q (fun ds vs ε2 H2 J l hh q2 => ?_) x⟩
  obtain ⟨d, e, q2⟩ := q2
  obtain ⟨v', hs', J2⟩ := J.mov e
  rw [hs] at hs'
  cases hs'
  have J3 := SI.swap (A := ds) (B := [d]) (C := []) (Av := vs) (Bv := [v]) (Cv := []) (by simpa only [List.append_assoc, List.append_nil] using J2) I.lenT l rfl
  exact z (d :: ds) (v :: vs) _ H2 (by simpa using J3) (by simp [l]) ⟨hs, hh⟩ q2
theorem al (i : Nat) {x : Str} {pos : Pos} {es : List Expr} {rs : List (Option Nat)} {u : VTA} (k : VA X es rs u) (hN : X.N[i]? = some x := by rfl) (hv : Vis X.env.scope x := by first | exact Or.inl rfl | exact Or.inr (Or.inl rfl) | exact Or.inr (Or.inr rfl)) (hd : (x == ("__debug__" : Str)) = false := by decide) (hcd : (x == ("__classdict__" : Str)) = false := by decide)
    (hs : starEach (.Name x pos :: es) X.env = (false, eval (.Name x pos) X.env) :: starEach es X.env := by rfl) : VA X (.Name x pos :: es) (some i :: rs) (vaLate i u) := va_late k hN hv hd hcd hs
/-- a module's constant -/
theorem ve_globI {x : Str} {i : Int} {pos : Pos} (hg : Gl X.toCx x) (hm : ∃ t, X.mg x = some (.int i t)) (hd : (x == ("__debug__" : Str)) = false := by decide) : VE X (.Name x pos) (vC (.int i)) :=
  let ⟨t, h⟩ := hm; ve_glob hg h (v := .int i) ⟨t, rfl⟩ (fun _ _ => ⟨rfl, rfl⟩) hd
end
def FnAt (K : PySem.W.Frag) (mg : Str → Option Value) (x : Str) (st : Stmt) : Prop := ∃ f fd, mg x = some (.ref f) ∧ FunD K x x (defArgs st) (defBody st) (defScope st) [] [] f fd
theorem fnAt_of {K : PySem.W.Frag} {mg : Str → Option Value} {x : Str} {st : Stmt} {h : Heap} {a : Str × Option Str} (X : K.In h) (G : h.Ns mainGlobals mg) (c : (He.Fa.glo x).ok K = true) (ha : a = (x, none)) (d : ∃ fd, FunD K x x (defArgs st) (defBody st) (defScope st) [] [] (He.fAd K a) fd) : FnAt K mg x st := by
  subst ha
  obtain ⟨fd, d⟩ := d
  exact ⟨_, fd, He.glo_ok X G c, d⟩
/-- a body's reading keeps the promise -/
def Rd (n : Nat) (κ : List Bool) (m : Nat) (vsp : VSp) (t : VTS) : Prop := ∀ ds Q Ex, ds.length = n → vsp ds Q Ex → t { nx := fun ε => n ≤ ε.length ∧ Q .non (finalL κ ds ε), rt := fun r ε => n ≤ ε.length ∧ Q r (finalL κ ds ε), rx := fun cls row ε => n ≤ ε.length ∧ Ex cls row (finalL κ ds ε) } (startE m ds)
theorem Fv.mk2 {P : Program} {w : World} {K : PySem.W.Frag} {mg : Str → Option Value} {base : Heap} {x : Str} {st : Stmt} {N ps : List Str} {κ : List Bool} {k n : Nat} {vsp : VSp} {t : VTS} (F : FnAt K mg x st) (S : FnScope N ps (defScope st))
    (hb : ∀ {f fd}, FunD K x x (defArgs st) (defBody st) (defScope st) [] [] f fd → Binds K fd ps []) (hn : ps.length = n) (hN : n ≤ N.length)
    (hbody : ∀ (f : Addr) (cdv : Value) (A : Around) (outer : List Env) (s : Shared) (H : Hp) (E : XK), Room k (A.deeper (envOfC x (defScope st) s.heap.objs.size f cdv)) → VSs (bodyX P w K mg base N κ x (defScope st) f cdv A outer s H E) (defBody st) t)
    (hm : Mono vsp) (hsp : Rd n κ N.length vsp t) : Fv P w K mg base x (k + 1) n vsp := by
  obtain ⟨f, fd, h1, F⟩ := F
  exact ⟨f, fd, ps, h1, F.kp, hb F, fn_ok F S hn hN (hbody f) hm hsp⟩
theorem cx_no {P : Program} : ∀ (w : World) (H : Hp) (s : Shared) (e : Value) (s' : Shared), VL.CX P w [] H s (fun _ _ _ => False) e s' → False := fun _ _ _ _ _ h => by
  obtain ⟨_, _, _, _, _, _, _, _, _, _, _, _, z⟩ := h
  exact z
/-- the script as a tree -/
def scriptD (ns : List Int) : D := .lst false (ns.map D.int)
theorem ints_rp {K : PySem.W.Frag} {G H : Hp} : ∀ ns : List Int, RpL K G H (ns.map D.int) (ns.map V.int) []
  | [] => ⟨rfl, rfl⟩
  | n :: ns => ⟨.int n, ns.map V.int, [], [], rfl, rfl, ⟨rfl, rfl⟩, ints_rp ns⟩
theorem lawAt {l : PySem.W.OpenLaw} {w : World} {K : PySem.W.Frag} {k j : Nat} {p : Str} {mg : Str → Option Value} {fa : Addr} {h : Heap} {st : Stmt} {vsp : VSp}
    (hmg : mg ("law" : Str) = some (.ref fa)) (F : FnAt K mg "law" st)
    (hb : ∀ {f fd}, FunD K "law" "law" (defArgs st) (defBody st) (defScope st) [] [] f fd → ∀ (s : Shared) (u : Value), BindsTo s fd ⟨[u], []⟩ [(p, u)])
    (hp : ∀ {base : Heap} {f : Addr} {fd : FuncData}, FunD K "law" "law" (defArgs st) (defBody st) (defScope st) [] [] f fd → FnOk l.prog w K mg base (VL.CX l.prog w) k f fd [p] (Lift K 1 vsp))
    (hm : Mono vsp) (ht : ∀ ns : List Int, ns.length ≤ 63 → (∀ z ∈ ns, Builtin.Int.intBits z ≤ 1048576) → vsp [scriptD ns] (fun r _ => r = .bl true) (fun _ _ _ => False)) (hj : k + 300 ≤ 3 * j := by decide) :
    LamX.LawAtS l w K (VL.CX l.prog w) j 63 p mg fa h := by
  obtain ⟨f, fd, h1, F⟩ := F
  rw [hmg] at h1
  cases h1
  refine ⟨fd, [], Lift K 1 vsp, (fun _ z => nomatch z), (fun _ z => nomatch z), (fun _ z => nomatch z), hb F, fun H a ns hl hbits _ hS => ?_, fun base _ _ _ => (hp F).lib hj⟩
  refine ⟨H, [], [scriptD ns], ⟨Sub.refl, Sub.refl, ⟨rfl, rfl⟩, RpL.one.mpr ⟨a, ns.map V.int, rfl, hS, rfl, ints_rp ns⟩, List.nodup_nil, (fun _ z => nomatch z), (fun _ z => nomatch z), (fun a o e => .inl e), (fun a o e _ => e), fun j v e => by simp [callB] at e⟩, rfl, ?_⟩
  refine hm _ _ _ _ _ (fun r ds z v H' I => ?_) (fun _ _ _ z => z.elim) (ht ns hl hbits)
  subst z
  obtain ⟨G, F, su, rv, _⟩ := SI.last I (by
    have := I.lenT
    simpa using this)
  exact rv
end VL
namespace VL
open PySem PySem.Spec PyProof.Rows L2 VL
section
variable {Q : D → Prop} {x y c k : D} {i j : Int} {s t : Cs} {xs ys : List D} {m n : Bool}
theorem e_sI2 {f : Int → Int → D} : sI2 f [.int i, .int j] Q ↔ Q (f i j) := ⟨fun ⟨_, _, e, q⟩ => by cases e; exact q, fun q => ⟨_, _, rfl, q⟩⟩
theorem e_sI2c {cc : Int → Int → Prop} {f : Int → Int → D} : sI2c cc f [.int i, .int j] Q ↔ cc i j ∧ Q (f i j) := ⟨fun ⟨_, _, e, q⟩ => by cases e; exact q, fun q => ⟨_, _, rfl, q⟩⟩
theorem e_neg : oNeg [.int i] Q ↔ Q (.int (-i)) := ⟨fun ⟨_, e, q⟩ => by cases e; exact q, fun q => ⟨_, rfl, q⟩⟩
theorem e_addI : sAdd [.int i, .int j] Q ↔ Q (.int (i + j)) := ⟨fun ⟨_, _, _, e, h, q⟩ => by cases e; cases h; exact q, fun q => ⟨_, _, _, rfl, rfl, q⟩⟩
theorem e_addS : sAdd [.str s, .str t] Q ↔ s.length + t.length < 1000000 ∧ Q (.str (s ++ t)) := by
  constructor
  · rintro ⟨_, _, d, e, h, q⟩
    cases e
    have h : (if s.length + t.length < 1000000 then some (D.str (s ++ t)) else none) = some d := h
    by_cases z : s.length + t.length < 1000000
    · rw [if_pos z] at h; cases h; exact ⟨z, q⟩
    · rw [if_neg z] at h; cases h
  · rintro ⟨z, q⟩
    exact ⟨_, _, _, rfl, if_pos z, q⟩
theorem e_addT : sAdd [.tup xs, .tup ys] Q ↔ (isFzL xs = true ∧ isFzL ys = true ∧ xs.length + ys.length < 1000000) ∧ Q (.tup (xs ++ ys)) := by
  constructor
  · rintro ⟨_, _, d, e, h, q⟩
    cases e
    have h : (if (isFzL xs && isFzL ys) = true then (if xs.length + ys.length < 1000000 then some (D.tup (xs ++ ys)) else none) else none) = some d := h
    by_cases z : (isFzL xs && isFzL ys) = true
    · rw [if_pos z] at h
      by_cases z2 : xs.length + ys.length < 1000000
      · rw [if_pos z2] at h; cases h
        exact ⟨⟨(Bool.and_eq_true_iff.mp z).1, (Bool.and_eq_true_iff.mp z).2, z2⟩, q⟩
      · rw [if_neg z2] at h; cases h
    · rw [if_neg z] at h; cases h
  · rintro ⟨⟨a, b, z⟩, q⟩
    exact ⟨_, _, _, rfl, (if_pos (Bool.and_eq_true_iff.mpr ⟨a, b⟩)).trans (if_pos z), q⟩
theorem e_addL : sAdd [.lst m xs, .lst n ys] Q ↔ (isFzL xs = true ∧ isFzL ys = true ∧ xs.length + ys.length < 1000000) ∧ Q (.lst true (xs ++ ys)) := by
  constructor
  · rintro ⟨_, _, d, e, h, q⟩
    cases e
    have h : (if (isFzL xs && isFzL ys) = true then (if xs.length + ys.length < 1000000 then some (D.lst true (xs ++ ys)) else none) else none) = some d := h
    by_cases z : (isFzL xs && isFzL ys) = true
    · rw [if_pos z] at h
      by_cases z2 : xs.length + ys.length < 1000000
      · rw [if_pos z2] at h; cases h
        exact ⟨⟨(Bool.and_eq_true_iff.mp z).1, (Bool.and_eq_true_iff.mp z).2, z2⟩, q⟩
      · rw [if_neg z2] at h; cases h
    · rw [if_neg z] at h; cases h
  · rintro ⟨⟨a, b, z⟩, q⟩
    exact ⟨_, _, _, rfl, (if_pos (Bool.and_eq_true_iff.mpr ⟨a, b⟩)).trans (if_pos z), q⟩
theorem e_mulI : sMul [.int i, .int j] Q ↔ CMl i j ∧ Q (.int (i * j)) := by
  constructor
  · rintro (⟨_, _, e, h, q⟩ | ⟨_, _, e, _⟩)
    · cases e; exact ⟨h, q⟩
    · cases e
  · rintro ⟨h, q⟩
    exact .inl ⟨_, _, rfl, h, q⟩
theorem e_divmod : sDivmod [.int i, .int j] Q ↔ CDv i j ∧ Q (.tup [.int (pdiv i j), .int (pmod i j)]) := ⟨fun ⟨_, _, e, q⟩ => by cases e; exact q, fun q => ⟨_, _, rfl, q⟩⟩
/-- what == asks -/
def eqOk (x y : D) : Prop := scalD x y = true ∨ (okD 64 x = true ∧ okD 64 y = true)
theorem e_eq : sEq [x, y] Q ↔ eqOk x y ∧ Q (.bl (deq x y)) := ⟨fun ⟨_, _, e, h, q⟩ => by cases e; exact ⟨h, q⟩, fun ⟨h, q⟩ => ⟨_, _, rfl, h, q⟩⟩
theorem e_ne : sNe [x, y] Q ↔ eqOk x y ∧ Q (.bl (!deq x y)) := ⟨fun ⟨_, _, e, h, q⟩ => by cases e; exact ⟨h, q⟩, fun ⟨h, q⟩ => ⟨_, _, rfl, h, q⟩⟩
theorem eqOk_i : eqOk (.int i) (.int j) ↔ True := ⟨fun _ => trivial, fun _ => .inl rfl⟩
theorem eqOk_s : eqOk (.str s) (.str t) ↔ True := ⟨fun _ => trivial, fun _ => .inl rfl⟩
theorem eqOk_b {a b : Bool} : eqOk (.bl a) (.bl b) ↔ True := ⟨fun _ => trivial, fun _ => .inl rfl⟩
theorem eqOk_si : eqOk (.str s) (.int j) ↔ True := ⟨fun _ => trivial, fun _ => .inl rfl⟩
theorem eqOk_is : eqOk (.int i) (.str s) ↔ True := ⟨fun _ => trivial, fun _ => .inl rfl⟩
theorem deq_i : deq (.int i) (.int j) = decide (i = j) := by rw [deq, Bool.eq_iff_iff, beq_iff_eq, decide_eq_true_iff]
theorem deq_s : deq (.str s) (.str t) = decide (s = t) := by rw [deq, Bool.eq_iff_iff, beq_iff_eq, decide_eq_true_iff]
theorem deq_b {a b : Bool} : deq (.bl a) (.bl b) = decide (a = b) := by cases a <;> cases b <;> rfl
theorem deq_si : deq (.str s) (.int j) = false := rfl
theorem deq_is : deq (.int i) (.str s) = false := rfl
theorem e_isN : sIsN [x, .non] Q ↔ x ≠ .hole ∧ Q (.bl (isNon x)) := ⟨fun ⟨_, e, h, q⟩ => by cases e; exact ⟨h, q⟩, fun ⟨h, q⟩ => ⟨_, rfl, h, q⟩⟩
theorem e_notN : sNotN [x, .non] Q ↔ x ≠ .hole ∧ Q (.bl (!isNon x)) := ⟨fun ⟨_, e, h, q⟩ => by cases e; exact ⟨h, q⟩, fun ⟨h, q⟩ => ⟨_, rfl, h, q⟩⟩
theorem e_isi {T : String} : sIsi [x, .ty T] Q ↔ ∃ t, tyNm x = some t ∧ T ∈ tys ∧ Q (.bl (isT t T)) := ⟨fun ⟨_, t, _, e, h1, h2, q⟩ => by cases e; exact ⟨t, h1, h2, q⟩, fun ⟨t, h1, h2, q⟩ => ⟨_, t, _, rfl, h1, h2, q⟩⟩
theorem e_lenS : sLen [.str s] Q ↔ s.length < 1000000 ∧ Q (.int s.length) := by
  constructor
  · rintro ⟨_, l, e, h, q⟩
    cases e
    have h : (if s.length < 1000000 then some s.length else none) = some l := h
    by_cases z : s.length < 1000000
    · rw [if_pos z] at h; cases h; exact ⟨z, q⟩
    · rw [if_neg z] at h; cases h
  · rintro ⟨z, q⟩
    exact ⟨_, _, rfl, if_pos z, q⟩
theorem e_lenL : sLen [.lst m xs] Q ↔ Q (.int xs.length) := ⟨fun ⟨_, _, e, h, q⟩ => by cases e; cases h; exact q, fun q => ⟨_, _, rfl, rfl, q⟩⟩
theorem e_lenT : sLen [.tup xs] Q ↔ Q (.int xs.length) := ⟨fun ⟨_, _, e, h, q⟩ => by cases e; cases h; exact q, fun q => ⟨_, _, rfl, rfl, q⟩⟩
theorem e_lenK {ks : List Kc} : sLen [.dK m ks xs] Q ↔ Q (.int xs.length) := ⟨fun ⟨_, _, e, h, q⟩ => by cases e; cases h; exact q, fun q => ⟨_, _, rfl, rfl, q⟩⟩
theorem e_lenDT {ks : List (List Kc)} : sLen [.dT m ks xs] Q ↔ Q (.int xs.length) := ⟨fun ⟨_, _, e, h, q⟩ => by cases e; cases h; exact q, fun q => ⟨_, _, rfl, rfl, q⟩⟩
theorem e_ix : sIx [c, k] Q ↔ ∃ d, ixD c k = some d ∧ isFz d = true ∧ Q d := ⟨fun ⟨_, _, d, e, h, z, q⟩ => by cases e; exact ⟨d, h, z, q⟩, fun ⟨d, h, z, q⟩ => ⟨_, _, d, rfl, h, z, q⟩⟩
theorem ixD_l : ixD (.lst m xs) (.int i) = (ixN xs.length i).bind fun j => xs[j]? := rfl
theorem ixD_t : ixD (.tup xs) (.int i) = (ixN xs.length i).bind fun j => xs[j]? := rfl
theorem e_in {b : Bool} : sIn b [x, c] Q ↔ ∃ r, memD x c = some r ∧ Q (.bl (if b then !r else r)) := ⟨fun ⟨_, _, r, e, h, q⟩ => by cases e; exact ⟨r, h, q⟩, fun ⟨r, h, q⟩ => ⟨_, _, r, rfl, h, q⟩⟩
theorem e_min : sMin [.int i, .int j] Q ↔ Q (.int (min i j)) := ⟨fun ⟨_, _, e, q⟩ => by cases e; exact q, fun q => ⟨_, _, rfl, q⟩⟩
theorem e_max : sMax [.int i, .int j] Q ↔ Q (.int (max i j)) := ⟨fun ⟨_, _, e, q⟩ => by cases e; exact q, fun q => ⟨_, _, rfl, q⟩⟩
theorem e_list : sList [x] Q ↔ ∃ ys, listD x = some ys ∧ isFzL ys = true ∧ Q (.lst true ys) := ⟨fun ⟨_, ys, e, h, z, q⟩ => by cases e; exact ⟨ys, h, z, q⟩, fun ⟨ys, h, z, q⟩ => ⟨_, ys, rfl, h, z, q⟩⟩
theorem e_tuple : sTuple [x] Q ↔ ∃ ys, seqD x = some ys ∧ isFzL ys = true ∧ Q (.tup ys) := ⟨fun ⟨_, ys, e, h, z, q⟩ => by cases e; exact ⟨ys, h, z, q⟩, fun ⟨ys, h, z, q⟩ => ⟨_, ys, rfl, h, z, q⟩⟩
theorem e_dict {ks : List Kc} : sDict [.dK m ks xs] Q ↔ isFzL xs = true ∧ Q (.dK true ks xs) := ⟨fun ⟨_, _, _, e, z, q⟩ => by cases e; exact ⟨z, q⟩, fun ⟨z, q⟩ => ⟨_, _, _, rfl, z, q⟩⟩
theorem e_rev : sRev [.lst m xs] Q ↔ isFzL xs = true ∧ Q (.lst true xs.reverse) := ⟨fun ⟨_, _, e, z, q⟩ => by cases e; exact ⟨z, q⟩, fun ⟨z, q⟩ => ⟨_, _, rfl, z, q⟩⟩
theorem e_dget2 : sDGet2 [c, k, x] Q ↔ isFz x = true ∧ ∃ d, dget2D c k x = some d ∧ isFz d = true ∧ Q d := ⟨fun ⟨_, _, _, d, e, h1, h2, z, q⟩ => by cases e; exact ⟨h1, d, h2, z, q⟩, fun ⟨h1, d, h2, z, q⟩ => ⟨_, _, _, d, rfl, h1, h2, z, q⟩⟩
theorem e_eqD {b : Bool} {ks ls : List Kc} : sEqD b [.dK m ks xs, .dK n ls ys] Q ↔ likeD ks xs ls ys ∧ Q (.bl b) := ⟨fun ⟨_, _, _, _, _, _, e, h, q⟩ => by cases e; exact ⟨h, q⟩, fun ⟨h, q⟩ => ⟨_, _, _, _, _, _, rfl, h, q⟩⟩
theorem e_slS {lo hi : Option Int} {P : D → Prop} : (∃ d, sliceD (.str s) lo hi = some d ∧ P d) ↔ s.length < 1000000 ∧ P (.str (cutL s lo hi)) := by
  constructor
  · rintro ⟨d, h, q⟩
    have h : (if s.length < 1000000 then some (D.str (cutL s lo hi)) else none) = some d := h
    by_cases z : s.length < 1000000
    · rw [if_pos z] at h; cases h; exact ⟨z, q⟩
    · rw [if_neg z] at h; cases h
  · rintro ⟨z, q⟩
    exact ⟨_, if_pos z, q⟩
theorem e_slL {lo hi : Option Int} {P : D → Prop} : (∃ d, sliceD (.lst m xs) lo hi = some d ∧ P d) ↔ isFzL xs = true ∧ P (.lst true (cutL xs lo hi)) := by
  constructor
  · rintro ⟨d, h, q⟩
    have h : (if isFzL xs = true then some (D.lst true (cutL xs lo hi)) else none) = some d := h
    by_cases z : isFzL xs = true
    · rw [if_pos z] at h; cases h; exact ⟨z, q⟩
    · rw [if_neg z] at h; cases h
  · rintro ⟨z, q⟩
    exact ⟨_, if_pos z, q⟩
theorem e_slT {lo hi : Option Int} {P : D → Prop} : (∃ d, sliceD (.tup xs) lo hi = some d ∧ P d) ↔ isFzL xs = true ∧ P (.tup (cutL xs lo hi)) := by
  constructor
  · rintro ⟨d, h, q⟩
    have h : (if isFzL xs = true then some (D.tup (cutL xs lo hi)) else none) = some d := h
    by_cases z : isFzL xs = true
    · rw [if_pos z] at h; cases h; exact ⟨z, q⟩
    · rw [if_neg z] at h; cases h
  · rintro ⟨z, q⟩
    exact ⟨_, if_pos z, q⟩
end
theorem isDct_K {m : Bool} {ks : List Kc} {xs : List D} : isDct (.dK m ks xs) = true := rfl
theorem isDct_T {m : Bool} {ks : List (List Kc)} {xs : List D} : isDct (.dT m ks xs) = true := rfl
/-- handed arg a, with pre a, it answers r with post a r, the arguments being out a r then -/
def Psp {α : Type} (arg : α → List D) (pre : α → Prop) (post : α → D → Prop) (out : α → D → List D := fun a _ => arg a) : VSp := fun ds Q _ => ∃ a, ds = arg a ∧ pre a ∧ ∀ r, post a r → Q r (out a r)
theorem Psp.mono {α : Type} {arg : α → List D} {pre : α → Prop} {post : α → D → Prop} {out : α → D → List D} : Mono (Psp arg pre post out) := fun _ _ _ _ _ h _ ⟨a, e, p, q⟩ => ⟨a, e, p, fun r z => h _ _ (q r z)⟩
/-- the same by a function of the arguments -/
def Fsp {α : Type} (arg : α → List D) (pre : α → Prop) (res : α → D) (out : α → List D := arg) : VSp := fun ds Q _ => ∃ a, ds = arg a ∧ pre a ∧ Q (res a) (out a)
theorem Fsp.mono {α : Type} {arg : α → List D} {pre : α → Prop} {res : α → D} {out : α → List D} : Mono (Fsp arg pre res out) := fun _ _ _ _ _ h _ ⟨a, e, p, q⟩ => ⟨a, e, p, h _ _ q⟩
end VL
namespace VL
open PySem PySem.Spec PyProof.Rows L2 VL
theorem pmod_lit (i : Int) (n : Nat) [NeZero n] : pmod i (no_index (OfNat.ofNat n)) = i % (OfNat.ofNat n) := if_pos (by
  have : 0 < n := Nat.pos_of_ne_zero (NeZero.ne n)
  show (0 : Int) < (n : Int)
  omega)
theorem pdiv_lit (i : Int) (n : Nat) [NeZero n] : pdiv i (no_index (OfNat.ofNat n)) = i / (OfNat.ofNat n) := if_pos (by
  have : 0 < n := Nat.pos_of_ne_zero (NeZero.ne n)
  show (0 : Int) < (n : Int)
  omega)
theorem pmod_pos {i j : Int} (h : 0 < j) : pmod i j = i % j := if_pos h
theorem cml_r {i j : Int} (h : j.natAbs < 18446744073709551616) : CMl i j ↔ True := ⟨fun _ => trivial, fun _ => .inl (.inr h)⟩
theorem cml_l {i j : Int} (h : i.natAbs < 18446744073709551616) : CMl i j ↔ True := ⟨fun _ => trivial, fun _ => .inl (.inl h)⟩
theorem cml_lit_r (i : Int) (n : Nat) (h : n < 18446744073709551616) : CMl i (no_index (OfNat.ofNat n)) ↔ True := cml_r h
theorem cml_lit_l (i : Int) (n : Nat) (h : n < 18446744073709551616) : CMl (no_index (OfNat.ofNat n)) i ↔ True := cml_l h
theorem cpow_lit (m n : Nat) (h1 : n ≤ 1000000) (h2 : m < 18446744073709551616) : CPow (no_index (OfNat.ofNat m)) (no_index (OfNat.ofNat n)) ↔ True := ⟨fun _ => trivial, fun _ => ⟨Int.natCast_nonneg n, by show ((n : Nat) : Int) ≤ 1000000; omega, h2⟩⟩
theorem cdv_of {i j : Int} (h : j ≠ 0) (h2 : j.natAbs < 18446744073709551616) : CDv i j := ⟨h, by
  have h3 : j.natAbs ≠ 0 := by omega
  have : j.natAbs.log2 < 64 := (Nat.log2_lt h3).mpr h2
  omega⟩
theorem cdv_lit (i : Int) (n : Nat) [NeZero n] (h : n < 18446744073709551616) : CDv i (no_index (OfNat.ofNat n)) ↔ True := ⟨fun _ => trivial, fun _ => cdv_of (by
  have : 0 < n := Nat.pos_of_ne_zero (NeZero.ne n)
  show (n : Int) ≠ 0
  omega) h⟩
theorem ixN_nat {n i : Nat} (h : i < n) : ixN n (i : Int) = some i := by
  unfold ixN
  rw [if_pos (by omega), if_pos (by omega), Int.toNat_natCast]
theorem ixN_pos {n : Nat} {i : Int} (h0 : 0 ≤ i) (h : i < n) : ixN n i = some i.toNat := by
  unfold ixN
  rw [if_pos h0, if_pos h]
theorem ixN_lit (n i : Nat) (h : i < n) : ixN n (no_index (OfNat.ofNat i)) = some i := ixN_nat h
theorem getP_nilE {d : D} : getP d [] = some d := getP_nil d
theorem setP_nilE {d e : D} : setP d [] e = e := by cases d <;> rfl
theorem e_forU {N : VEnds} {ε : Ep} {g : VTG} {b b' : VTS} {d : D} {ds : List D} (h : b = b') : vForL g b (d :: ds) N ε ↔ g d ε fun ε1 => b' { N with nx := fun ε' => vForL g b ds N ε', ct := fun ε' => vForL g b ds N ε', bk := N.nx } ε1 := by subst h; rfl
theorem e_app {ds : List D} {y : D} {P : List D → D → Prop} : (∃ ds' res, muAppend ds [y] = some (ds', res) ∧ P ds' res) ↔ ds.length < 1000000 ∧ P (ds ++ [y]) .non := by
  constructor
  · rintro ⟨ds', res, h, p⟩
    have h : (if ds.length < 1000000 then some (ds ++ [y], D.non) else none) = some (ds', res) := h
    by_cases z : ds.length < 1000000
    · rw [if_pos z] at h; cases h; exact ⟨z, p⟩
    · rw [if_neg z] at h; cases h
  · rintro ⟨z, p⟩
    exact ⟨_, _, if_pos z, p⟩
theorem lst_inj {m n : Bool} {a b : List D} : (D.lst m a = D.lst n b) = (m = n ∧ a = b) := D.lst.injEq ..
theorem isT_nonetype_int : isT "NoneType" "int" = false := by decide
theorem isT_nonetype_bool : isT "NoneType" "bool" = false := by decide
theorem isT_nonetype_str : isT "NoneType" "str" = false := by decide
theorem isT_nonetype_list : isT "NoneType" "list" = false := by decide
theorem isT_nonetype_tuple : isT "NoneType" "tuple" = false := by decide
theorem isT_nonetype_dict : isT "NoneType" "dict" = false := by decide
theorem isT_int_int : isT "int" "int" = true := by decide
theorem isT_int_bool : isT "int" "bool" = false := by decide
theorem isT_int_str : isT "int" "str" = false := by decide
theorem isT_int_list : isT "int" "list" = false := by decide
theorem isT_int_tuple : isT "int" "tuple" = false := by decide
theorem isT_int_dict : isT "int" "dict" = false := by decide
theorem isT_bool_int : isT "bool" "int" = true := by decide
theorem isT_bool_bool : isT "bool" "bool" = true := by decide
theorem isT_bool_str : isT "bool" "str" = false := by decide
theorem isT_bool_list : isT "bool" "list" = false := by decide
theorem isT_bool_tuple : isT "bool" "tuple" = false := by decide
theorem isT_bool_dict : isT "bool" "dict" = false := by decide
theorem isT_str_int : isT "str" "int" = false := by decide
theorem isT_str_bool : isT "str" "bool" = false := by decide
theorem isT_str_str : isT "str" "str" = true := by decide
theorem isT_str_list : isT "str" "list" = false := by decide
theorem isT_str_tuple : isT "str" "tuple" = false := by decide
theorem isT_str_dict : isT "str" "dict" = false := by decide
theorem isT_list_int : isT "list" "int" = false := by decide
theorem isT_list_bool : isT "list" "bool" = false := by decide
theorem isT_list_str : isT "list" "str" = false := by decide
theorem isT_list_list : isT "list" "list" = true := by decide
theorem isT_list_tuple : isT "list" "tuple" = false := by decide
theorem isT_list_dict : isT "list" "dict" = false := by decide
theorem isT_tuple_int : isT "tuple" "int" = false := by decide
theorem isT_tuple_bool : isT "tuple" "bool" = false := by decide
theorem isT_tuple_str : isT "tuple" "str" = false := by decide
theorem isT_tuple_list : isT "tuple" "list" = false := by decide
theorem isT_tuple_tuple : isT "tuple" "tuple" = true := by decide
theorem isT_tuple_dict : isT "tuple" "dict" = false := by decide
theorem isT_dict_int : isT "dict" "int" = false := by decide
theorem isT_dict_bool : isT "dict" "bool" = false := by decide
theorem isT_dict_str : isT "dict" "str" = false := by decide
theorem isT_dict_list : isT "dict" "list" = false := by decide
theorem isT_dict_tuple : isT "dict" "tuple" = false := by decide
theorem isT_dict_dict : isT "dict" "dict" = true := by decide
theorem inT_int : ("int" ∈ tys) = True := eq_true (by decide)
theorem inT_bool : ("bool" ∈ tys) = True := eq_true (by decide)
theorem inT_str : ("str" ∈ tys) = True := eq_true (by decide)
theorem inT_list : ("list" ∈ tys) = True := eq_true (by decide)
theorem inT_tuple : ("tuple" ∈ tys) = True := eq_true (by decide)
theorem inT_dict : ("dict" ∈ tys) = True := eq_true (by decide)
end VL
namespace VL
open PySem PySem.Spec PyProof.Rows L2 VL
section
variable {K : PySem.W.Frag} {G H H' : Hp}
theorem Rp.view (hs : Sub G H) {d : D} {v : V} {F : List Addr} (r : Rp K G H d v F) : Rp K H H (frz d) v [] := Rp.freeze hs (fun _ _ => rfl) r
theorem Rp.up {d : D} {v : V} (r : Rp K H H d v []) (h : Sub H H') : Rp K H' H' d v [] := r.mono h fun _ z => nomatch z
theorem RpL.up {ds : List D} {vs : List V} (r : RpL K H H ds vs []) (h : Sub H H') : RpL K H' H' ds vs [] := r.mono h fun _ z => nomatch z
theorem si_view {ds : List D} {vs : List V} (r : RpL K H H ds vs []) : SIx K (callB H H []) H [] [] [] H [] ds vs :=
  ⟨Sub.refl, Sub.refl, ⟨rfl, rfl⟩, r, List.nodup_nil, (fun _ z => nomatch z), (fun _ z => nomatch z), (fun a o e => .inl e), (fun a o e _ => e), fun j v e => by simp [callB] at e⟩
end
/-- a view's reading: the slots stay as they are -/
abbrev VTV := Ep → (D → Prop) → Prop
abbrev VTVs := Ep → (List D → Prop) → Prop
structure VV (X : Cv) (e : Expr) (t : VTV) : Prop where
  ex : ∃ t' : WX → TE, (∀ W, Takes X.toCx W → PE X.toCx e (t' W)) ∧ ∀ (b : Bx X) σ H ε T Tv W (Q : D → Prop) (Q' : VK), SI X.K b.1 σ H ε T Tv → t ε Q →
    (∀ d v H', Sub H H' → Rp X.K H' H' d v [] → Q d → Q' v H') → t' W σ H Q'
structure VVs (X : Cv) (es : List Expr) (t : VTVs) : Prop where
  ex : ∃ t' : WX → TA, (∀ W, Takes X.toCx W → PA X.toCx es (t' W)) ∧ ∀ (b : Bx X) σ H ε T Tv W (Q : List D → Prop) (Q' : List V → Hp → Prop), SI X.K b.1 σ H ε T Tv → t ε Q →
    (∀ ds vs H', Sub H H' → RpL X.K H' H' ds vs [] → ds.length = es.length → Q ds → Q' vs H') → t' W σ H Q'
section
variable {X : Cv}
def wName (i : Nat) : VTV := fun ε Q => ∃ d, ε[i]? = some (some d) ∧ Q (frz d)
def wC (d : D) : VTV := fun _ Q => Q d
def wNil : VTVs := fun _ Q => Q []
def wCons (t : VTV) (u : VTVs) : VTVs := fun ε Q => t ε fun d => u ε fun ds => Q (d :: ds)
def wOp (op : List D → (D → Prop) → Prop) (t : VTVs) : VTV := fun ε Q => t ε fun ds => op ds fun d => Q (frz d)
def w2 (a b : VTV) : VTVs := wCons a (wCons b wNil)
def w1 (a : VTV) : VTVs := wCons a wNil
def wCall (vsp : VSp) (t : VTVs) : VTV := fun ε Q => t ε fun ds => vsp ds (fun r _ => Q (frz r)) (fun _ _ _ => False)
def wTup (t : VTVs) : VTV := fun ε Q => t ε fun ds => ds.length ≤ 1000 ∧ Q (.tup ds)
def vView (t : VTV) : VTE := fun _ ε Q => t ε fun d => flatD d = true ∧ Q d ε
def vViewT (t : VTV) : VTT := fun _ ε Q => t ε fun d => ∃ c, d = .bl c ∧ Q c ε
theorem wv_name (i : Nat) {x : Str} {pos : Pos} (hN : X.N[i]? = some x := by rfl) (hv : Vis X.env.scope x := by first | exact Or.inl rfl | exact Or.inr (Or.inl rfl) | exact Or.inr (Or.inr rfl)) (hd : (x == ("__debug__" : Str)) = false := by decide) (hcd : (x == ("__classdict__" : Str)) = false := by decide) : VV X (.Name x pos) (wName i) := by
  refine ⟨fun _ => tVar i, fun _ _ => pe_var hN hv hd hcd, fun b σ H ε T Tv W Q Q' I h k => ?_⟩
  obtain ⟨d, e, q⟩ := h
  obtain ⟨v, hs, J⟩ := I.mov e
  obtain ⟨G, F, su, r⟩ := J.last I.lenT
  exact ⟨v, hs, k (frz d) v H Sub.refl (r.view su) q⟩
theorem wv_of {e : Expr} {v : V} {d : D} (h : PE X.toCx e (tC v)) (r : ∀ G H, Rp X.K G H d v []) : VV X e (wC d) :=
  ⟨fun _ => tC v, fun _ _ => h, fun b σ H ε T Tv W Q Q' I q k => k d v H Sub.refl (r H H) q⟩
theorem wv_int {i j pos} : VV X (.Constant (.int i) j pos) (wC (.int i)) := wv_of pe_int fun _ _ => ⟨rfl, rfl⟩
theorem wv_ty {x : Str} {T : String} {pos : Pos} (hg : Gl X.toCx x) (hm : X.mg x = none) (hv : bootBuiltins x = some (.type T)) (hn : x ≠ "__name__" := by decide) (hd : (x == ("__debug__" : Str)) = false := by decide) : VV X (.Name x pos) (wC (.ty T)) :=
  wv_of (pe_bltn hg hm hv (v := .ty T) rfl hn hd) fun _ _ => ⟨rfl, rfl⟩
theorem wvs_nil : VVs X [] wNil := ⟨fun _ => tNil, fun _ _ => pa_nil, fun b σ H ε T Tv W Q Q' I q k => k [] [] H Sub.refl ⟨rfl, rfl⟩ rfl q⟩
theorem wvs_cons {e : Expr} {es : List Expr} {t : VTV} {u : VTVs} (h : VV X e t) (k : VVs X es u) (hs : starEach (e :: es) X.env = (false, eval e X.env) :: starEach es X.env := by rfl) : VVs X (e :: es) (wCons t u) := by
  obtain ⟨t', h1, h2⟩ := h.ex
  obtain ⟨u', k1, k2⟩ := k.ex
  refine ⟨fun W => tCons (t' W) (u' W), fun W tk => pa_cons (h1 W tk) (k1 W tk) hs, fun b σ H ε T Tv W Q Q' I q z => ?_⟩
  refine h2 b σ H ε T Tv W _ _ I q fun d v H1 s1 r1 q1 => ?_
  refine k2 b σ H1 ε T Tv W _ _ (I.grow s1) q1 fun ds vs H2 s2 r2 l q2 => ?_
  exact z (d :: ds) (v :: vs) H2 (s1.trans s2) ⟨v, vs, [], [], rfl, rfl, r1.up s2, r2⟩ (by simp [l]) q2
/-- an operation on views -/
theorem OpN.look {K : PySem.W.Frag} {r : List V → Hp → VK → Prop} {op : List D → (D → Prop) → Prop} (h : OpN K r op) {H : Hp} {ds : List D} {vs : List V} {Q : D → Prop} {Q' : VK} (rr : RpL K H H ds vs []) (q : op ds fun d => Q (frz d))
    (k : ∀ d v H', Sub H H' → Rp K H' H' d v [] → Q d → Q' v H') : r vs H Q' := by
  have I : SI K (callB H H []) [] H [] ([] ++ ds) ([] ++ vs) := ⟨H, [], [], si_view rr⟩
  refine h (callB H H []) [] H [] [] [] ds vs _ Q' rfl rr.len I q fun d v H' s J z => ?_
  have J2 : SI K (callB H H []) [] H' [] (ds ++ [d]) (vs ++ [v]) := by simpa using J
  obtain ⟨G, F, su, rd⟩ := J2.last rr.len
  exact k (frz d) v H' s (rd.view su) z
theorem wv_bin {e1 e2 : Expr} {o : Operator} {ta tb : VTV} {r : R2} {op : List D → (D → Prop) → Prop} {pos : Pos} (ho : OpR X.toCx (binaryOp o) r) (hp : OpN X.K (r2N r) op) (ha : VV X e1 ta) (hb : VV X e2 tb) : VV X (.BinOp e1 o e2 pos) (wOp op (w2 ta tb)) := by
  obtain ⟨ta', a1, a2⟩ := ha.ex
  obtain ⟨tb', b1, b2⟩ := hb.ex
  refine ⟨fun W => tOp r (ta' W) (tb' W), fun W tk => pe_op ho (a1 W tk) (b1 W tk), fun b σ H ε T Tv W Q Q' I q k => ?_⟩
  refine a2 b σ H ε T Tv W _ _ I q fun d v H1 s1 r1 q1 => b2 b σ H1 ε T Tv W _ _ (I.grow s1) q1 fun d2 v2 H2 s2 r2 q2 => ?_
  obtain ⟨v', w', e, z⟩ := hp.look (ds := [d, d2]) (vs := [v, v2]) (H := H2) (Q' := Q') ⟨v, _, [], [], rfl, rfl, r1.up s2, v2, [], [], [], rfl, rfl, r2, rfl, rfl⟩ q2 fun d v H' s r z => k d v H' ((s1.trans s2).trans s) r z
  obtain ⟨rfl, e2⟩ := List.cons.inj e
  obtain ⟨rfl, _⟩ := List.cons.inj e2
  exact z
theorem wv_cmp {e1 e2 : Expr} {o : CmpOp} {ta tb : VTV} {r : R2} {op : List D → (D → Prop) → Prop} {pos : Pos} (ho : OpR X.toCx (compareOp o) r) (hp : OpN X.K (r2N r) op) (ha : VV X e1 ta) (hb : VV X e2 tb) (hm : behindInMarks o e2 = false) : VV X (.Compare e1 [o] [e2] pos) (wOp op (w2 ta tb)) := by
  obtain ⟨ta', a1, a2⟩ := ha.ex
  obtain ⟨tb', b1, b2⟩ := hb.ex
  refine ⟨fun W => tOp r (ta' W) (tb' W), fun W tk => pe_cmpR ho (a1 W tk) (b1 W tk) hm, fun b σ H ε T Tv W Q Q' I q k => ?_⟩
  refine a2 b σ H ε T Tv W _ _ I q fun d v H1 s1 r1 q1 => b2 b σ H1 ε T Tv W _ _ (I.grow s1) q1 fun d2 v2 H2 s2 r2 q2 => ?_
  obtain ⟨v', w', e, z⟩ := hp.look (ds := [d, d2]) (vs := [v, v2]) (H := H2) (Q' := Q') ⟨v, _, [], [], rfl, rfl, r1.up s2, v2, [], [], [], rfl, rfl, r2, rfl, rfl⟩ q2 fun d v H' s r z => k d v H' ((s1.trans s2).trans s) r z
  obtain ⟨rfl, e2⟩ := List.cons.inj e
  obtain ⟨rfl, _⟩ := List.cons.inj e2
  exact z
theorem vt_cmpW {e1 e2 : Expr} {o : CmpOp} {ta tb : VTV} {r : R2} {op : List D → (D → Prop) → Prop} {pos : Pos} (ho : OpR X.toCx (compareOp o) r) (hp : OpN X.K (r2N r) op) (ha : VV X e1 ta) (hb : VV X e2 tb) (hm : behindInMarks o e2 = false) : VT X (.Compare e1 [o] [e2] pos) (vViewT (wOp op (w2 ta tb))) := by
  obtain ⟨ta', a1, a2⟩ := ha.ex
  obtain ⟨tb', b1, b2⟩ := hb.ex
  refine ⟨fun W => tTest (tOp r (ta' W) (tb' W)), fun W tk => pt_cmpR ho (a1 W tk) (b1 W tk) hm, fun b σ H ε T Tv W N Q Q' I q k x => ?_⟩
  refine a2 b σ H ε T Tv W _ _ I q fun d v H1 s1 r1 q1 => b2 b σ H1 ε T Tv W _ _ (I.grow s1) q1 fun d2 v2 H2 s2 r2 q2 => ?_
  obtain ⟨v', w', e, z⟩ := hp.look (ds := [d, d2]) (vs := [v, v2]) (H := H2) (Q := fun d => ∃ c, d = .bl c ∧ Q c ε) (Q' := fun u H' => ∃ c, u = .bl c ∧ Q' c H') ⟨v, _, [], [], rfl, rfl, r1.up s2, v2, [], [], [], rfl, rfl, r2, rfl, rfl⟩ q2 fun d v H' s r z => by
    obtain ⟨c, rfl, z⟩ := z
    obtain ⟨rfl, _⟩ := r
    exact ⟨c, rfl, k c ε H' (I.grow ((s1.trans s2).trans s)) z⟩
  obtain ⟨rfl, e2⟩ := List.cons.inj e
  obtain ⟨rfl, _⟩ := List.cons.inj e2
  exact z
theorem wv_ix {a bb : Expr} {ta tb : VTV} {pos : Pos} {k : Nat} (hr : Room k X.A) (ha : VV X a ta) (hb : VV X bb tb) (hs : PlainIx bb) : VV X (.Subscript a bb pos) (wOp sIx (w2 ta tb)) := by
  obtain ⟨ta', a1, a2⟩ := ha.ex
  obtain ⟨tb', b1, b2⟩ := hb.ex
  refine ⟨fun W => tOp (rIxA X.K) (ta' W) (tb' W), fun W tk => pe_ix (ix_any hr) (a1 W tk) (b1 W tk) hs, fun b σ H ε T Tv W Q Q' I q k => ?_⟩
  refine a2 b σ H ε T Tv W _ _ I q fun d v H1 s1 r1 q1 => b2 b σ H1 ε T Tv W _ _ (I.grow s1) q1 fun d2 v2 H2 s2 r2 q2 => ?_
  obtain ⟨v', w', e, z⟩ := opn_ix.look (ds := [d, d2]) (vs := [v, v2]) (H := H2) (Q' := Q') ⟨v, _, [], [], rfl, rfl, r1.up s2, v2, [], [], [], rfl, rfl, r2, rfl, rfl⟩ q2 fun d v H' s r z => k d v H' ((s1.trans s2).trans s) r z
  obtain ⟨rfl, e2⟩ := List.cons.inj e
  obtain ⟨rfl, _⟩ := List.cons.inj e2
  exact z
theorem wv_callB {x : Str} {id : String} {p pos : Pos} {e : Expr} {es : List Expr} {t : VTVs} {r : List V → Hp → VK → Prop} {op : List D → (D → Prop) → Prop} (hc : CallR X.toCx (.builtin id) r) (hp : OpN X.K r op) (hg : Gl X.toCx x) (hm : X.mg x = none) (hv : bootBuiltins x = some (.builtin id)) (ha : VVs X (e :: es) t)
    (hn : x ≠ "__name__" := by decide) (hdb : (x == ("__debug__" : Str)) = false := by decide) (he : starEach (e :: es) X.env = (false, eval e X.env) :: starEach es X.env := by rfl) (hpl : (backTo pos (starEach es X.env)).any (·.1) = false := by rfl) : VV X (.Call (.Name x p) (e :: es) [] pos) (wOp op t) := by
  obtain ⟨t', a1, a2⟩ := ha.ex
  refine ⟨fun W => tCB r (t' W), fun W tk => pe_callB hc hg hm hv (a1 W tk) hn hdb he hpl, fun b σ H ε T Tv W Q Q' I q k => ?_⟩
  exact a2 b σ H ε T Tv W _ _ I q fun ds vs H1 s1 rr _ z => hp.look rr z fun d v H' s r z => k d v H' (s1.trans s) r z
theorem ve_view {e : Expr} {t : VTV} (h : VV X e t) : VE X e (vView t) := by
  obtain ⟨t', h1, h2⟩ := h.ex
  refine ⟨t', h1, fun b σ H ε T Tv W N Q Q' I q k x => ?_⟩
  refine h2 b σ H ε T Tv W _ _ I q fun d v H1 s1 r1 z => ?_
  refine k d v ε H1 ((I.grow s1).push fun G => ?_) z.2
  obtain ⟨z, _⟩ := z
  cases d <;> first | (exfalso; revert z; simp [flatD]; done) | exact r1
theorem vt_viewV {e : Expr} {t : VTV} (h : VV X e t) (he : ∀ whole, isTrue e X.env whole = (do let v ← whole; standAt e.pos; holding [v] (truthy v)) := by intro _; rfl) : VT X e (vViewT t) := by
  obtain ⟨t', h1, h2⟩ := h.ex
  refine ⟨fun W => tB (t' W), fun W tk => pt_val (h1 W tk) he, fun b σ H ε T Tv W N Q Q' I q k x => ?_⟩
  refine h2 b σ H ε T Tv W _ _ I q fun d v H1 s1 r1 z => ?_
  obtain ⟨c, rfl, z⟩ := z
  obtain ⟨rfl, _⟩ := r1
  exact ⟨c, rfl, k c ε H1 (I.grow s1) z⟩
def vNever : VTS := fun _ _ => False
theorem vs_never {st : Stmt} : VS X st vNever := ⟨fun _ => fun _ _ _ => False, fun _ _ => ⟨fun _ _ _ _ _ _ h => h.elim⟩, fun _ _ _ _ _ _ _ _ _ _ q _ _ => q.elim⟩
def isLst : D → Bool
  | .lst _ _ => true
  | _ => false
def isStr : D → Bool
  | .str _ => true
  | _ => false
def tyOk (T : String) (d : D) : Bool := (decide (T = "list") && isLst d) || (decide (T = "str") && isStr d)
theorem tyOk_run {K : PySem.W.Frag} {H : Hp} {T : String} {d : D} {v : V} {G : Hp} {F : List Addr} (hs : Sub G H) (h : tyOk T d = true) (r : Rp K G H d v F) : tyV K T v H := by
  unfold tyOk at h
  rw [Bool.or_eq_true, Bool.and_eq_true, Bool.and_eq_true, decide_eq_true_iff, decide_eq_true_iff] at h
  rcases h with ⟨rfl, h⟩ | ⟨rfl, h⟩
  · cases d with
    | lst m xs =>
      obtain ⟨p, vs, F', rfl, hq, _⟩ := r.seqD hs rfl
      rcases hq with hq | hq
      · exact .inl ⟨rfl, vs, hq⟩
      · cases m with
        | false => obtain ⟨a, us, e, s, _⟩ := r; cases e; exact .inl ⟨rfl, us, hs.sqL s⟩
        | true => obtain ⟨a, us, F2, e, s, _⟩ := r; cases e; exact .inl ⟨rfl, us, SqL.of s⟩
    | _ => cases h
  · cases d with
    | str s => obtain ⟨rfl, _⟩ := r; exact rfl
    | _ => cases h
def wMeth (T : String) (op : List D → (D → Prop) → Prop) (o : VTV) (t : VTVs) : VTV := fun ε Q => o ε fun c => tyOk T c = true ∧ t ε fun ds => op (c :: ds) fun d => Q (frz d)
theorem wv_meth {o e : Expr} {es : List Expr} {to : VTV} {t : VTVs} {T : String} {name : Str} {id : String} {r : V → List V → Hp → VK → Prop} {op : List D → (D → Prop) → Prop} {apos cpos : Pos} (pa : PlainAttrs T) (sl : Slot T name id) (ty : typeOf (.builtin id) = pure (.type "method_descriptor")) (mt : MtR X.toCx id r)
    (hp : OpN X.K (fun vs H Q => ∃ x xs, vs = x :: xs ∧ r x xs H Q) op) (ho : VV X o to) (ha : VVs X (e :: es) t)
    (hbase : attributeBase o name X.env (eval o X.env) = eval o X.env := by rfl)
    (hfew : ((backTo cpos (starEach (e :: es) X.env)).all (fun x => !x.1) && (backToKw cpos (keywordEach [] X.env)).all (fun x => x.1.isSome) && decide ((e :: es).length + ([] : List Keyword).length + (if ([] : List Keyword).isEmpty then 0 else 1) < 30)) = true := by rfl)
    (hline : (apos.endLine == cpos.line) = true := by rfl) (hs : starEach (e :: es) X.env = (false, eval e X.env) :: starEach es X.env := by rfl) (hplain : (backTo cpos (starEach es X.env)).any (·.1) = false := by rfl) :
    VV X (.Call (.Attribute o name apos) (e :: es) [] cpos) (wMeth T op to t) := by
  obtain ⟨o', a1, a2⟩ := ho.ex
  obtain ⟨t', b1, b2⟩ := ha.ex
  refine ⟨fun W => tBM X.K T r (o' W) (t' W), fun W tk => pe_bm pa sl ty mt (a1 W tk) (b1 W tk) hbase hfew hline hs hplain, fun b σ H ε T Tv W Q Q' I q k => ?_⟩
  refine a2 b σ H ε T Tv W _ _ I q fun d v H1 s1 r1 q1 => ?_
  refine ⟨tyOk_run Sub.refl q1.1 r1, b2 b σ H1 ε T Tv W _ _ (I.grow s1) q1.2 fun ds vs H2 s2 r2 l q2 => ?_⟩
  obtain ⟨x, xs, e0, z⟩ := hp.look (ds := d :: ds) (vs := v :: vs) (H := H2) (Q' := Q') ⟨v, vs, [], [], rfl, rfl, r1.up s2, r2⟩ q2 fun d v H' s r z => k d v H' ((s1.trans s2).trans s) r z
  obtain ⟨rfl, rfl⟩ := List.cons.inj e0
  exact z
/-- xs.index(x) -/
def sIndex : List D → (D → Prop) → Prop := fun ds Q => ∃ m ys x j, ds = [.lst m ys, x] ∧ ((flatD x && ys.all flatD) = true ∨ (okD 64 x && okD 64 (.lst m ys)) = true) ∧ ys.findIdx? (fun y => deq y x) = some j ∧ Q (.int (j : Nat))
def rIndexA (K : PySem.W.Frag) : V → List V → Hp → VK → Prop := fun x xs H Q => rIndex K x xs H Q ∨ rIndexD K x xs H Q
theorem mt_indexA {k : Nat} (hr : Room k X.A) : MtR X.toCx "list.index" (rIndexA X.K) := MtR.or mt_index (mt_indexD (by have := hr.un; omega))
end
end VL
namespace VL
open PySem PySem.Spec PyProof.Rows L2 VL
section
variable {K : PySem.W.Frag} {G H : Hp}
theorem RpL.getF {ds : List D} {vs : List V} {F : List Addr} {i : Nat} {d : D} (r : RpL K G H ds vs F) (h : ds[i]? = some d) : ∃ v B, vs[i]? = some v ∧ Rp K G H d v B := by
  obtain ⟨v, A, B, C, hv, _, rv, _⟩ := r.focus h
  exact ⟨v, B, hv, rv⟩
theorem pdL_get : ∀ {ys : List D} {j : Nat}, (pdL ys)[j]? = (ys[j]?).map pd
  | [], j => by simp [pdL]
  | y :: ys, 0 => by simp [pdL]
  | y :: ys, j + 1 => by
    have := pdL_get (ys := ys) (j := j)
    simpa [pdL] using this
theorem okDL_get {n : Nat} {ys : List D} (h : okDL n ys = true) {j : Nat} {y : D} (e : ys[j]? = some y) : okD n y = true := by
  rw [okDL_all] at h
  exact List.all_eq_true.mp h y (List.mem_of_getElem? e)
theorem opn_index : OpN K (fun vs H Q => ∃ x xs, vs = x :: xs ∧ rIndexA K x xs H Q) sIndex := OpN.pure fun G H ds vs F Q Q' hs r q k => by
  obtain ⟨m, ys, x, j, rfl, hk, hj, q⟩ := q
  obtain ⟨v, w, F1, F2, rfl, rl, rx⟩ := r.two
  refine ⟨v, [w], rfl, ?_⟩
  have fin : Q' (.int (j : Nat)) H := k (.int (j : Nat)) _ (fun _ _ _ => ⟨rfl, rfl⟩) q
  have hx : ∃ a us F', v = .ref a ∧ SqL K H a us ∧ RpL K G H ys us F' := by
    cases m with
    | false => obtain ⟨a, us, e, s, _, r⟩ := rl; exact ⟨a, us, _, e, hs.sqL s, r⟩
    | true => obtain ⟨a, us, F', e, s, _, r⟩ := rl; exact ⟨a, us, _, e, SqL.of s, r⟩
  obtain ⟨hjl, hjt, hjf⟩ := List.findIdx?_eq_some_iff_getElem.mp hj
  rcases hk with hk | hk
  · obtain ⟨a1, a2⟩ := Bool.and_eq_true_iff.mp hk
    obtain ⟨a, us, F', rfl, s, r⟩ := hx
    obtain ⟨i1, _⟩ := r.flat a2
    obtain ⟨z, B, hz, rz⟩ := r.getF (List.getElem?_eq_getElem hjl)
    refine .inl ⟨a, us, w, j, z, rfl, rfl, s, rx.flat a1, i1, hz, ?_, fun i z' hi hz' => ?_, fin⟩
    · rw [rz.flatEq (List.all_eq_true.mp a2 _ (List.getElem_mem hjl)) a1 rx]
      exact hjt
    · have hil : i < ys.length := by omega
      obtain ⟨z2, B2, hz2, rz2⟩ := r.getF (List.getElem?_eq_getElem hil)
      rw [hz'] at hz2
      cases hz2
      rw [rz2.flatEq (List.all_eq_true.mp a2 _ (List.getElem_mem hil)) a1 rx]
      have := hjf i hi
      simpa using this
  · obtain ⟨a1, a2⟩ := Bool.and_eq_true_iff.mp hk
    have rdp := rl.dp hs a2
    obtain ⟨a, us, F', rfl, s, r⟩ := hx
    have a3 : okDL 63 ys = true := by simpa [okD] using a2
    refine .inr ⟨a, w, pd x, pdL ys, j, pd ys[j], rfl, rfl, rdp, rx.dp hs a1, shp a2, shp a1, by rw [pdL_get, List.getElem?_eq_getElem hjl]; rfl, ?_, fun i z' hi hz' => ?_, fin⟩
    · rw [deq_pd (okDL_get a3 (List.getElem?_eq_getElem hjl)) a1]
      exact hjt
    · have hil : i < ys.length := by omega
      rw [pdL_get, List.getElem?_eq_getElem hil] at hz'
      cases hz'
      rw [deq_pd (okDL_get a3 (List.getElem?_eq_getElem hil)) a1]
      have := hjf i hi
      simpa using this
def idxOk (m : Bool) (ys : List D) (x : D) : Prop := (flatD x && ys.all flatD) = true ∨ (okD 64 x && okD 64 (.lst m ys)) = true
def idxAt (ys : List D) (x : D) : Option Nat := ys.findIdx? (fun y => deq y x)
theorem e_index {m : Bool} {ys : List D} {x : D} {Q : D → Prop} : sIndex [.lst m ys, x] Q ↔ idxOk m ys x ∧ ∃ j, idxAt ys x = some j ∧ Q (.int (j : Nat)) :=
  ⟨fun ⟨_, _, _, j, e, h, hj, q⟩ => by cases e; exact ⟨h, j, hj, q⟩, fun ⟨h, j, hj, q⟩ => ⟨_, _, _, j, rfl, h, hj, q⟩⟩
/-- any, all of a list of truths -/
def blsD : List D → Option (List Bool)
  | [] => some []
  | .bl b :: ds => (blsD ds).map (b :: ·)
  | _ => none
def sAny : List D → (D → Prop) → Prop := fun ds Q => ∃ m xs bs, ds = [.lst m xs] ∧ blsD xs = some bs ∧ Q (.bl (bs.any id))
def sAll : List D → (D → Prop) → Prop := fun ds Q => ∃ m xs bs, ds = [.lst m xs] ∧ blsD xs = some bs ∧ Q (.bl (bs.all id))
theorem e_any {m : Bool} {xs : List D} {Q : D → Prop} : sAny [.lst m xs] Q ↔ ∃ bs, blsD xs = some bs ∧ Q (.bl (bs.any id)) := ⟨fun ⟨_, _, bs, e, h, q⟩ => by cases e; exact ⟨bs, h, q⟩, fun ⟨bs, h, q⟩ => ⟨_, _, bs, rfl, h, q⟩⟩
theorem e_all {m : Bool} {xs : List D} {Q : D → Prop} : sAll [.lst m xs] Q ↔ ∃ bs, blsD xs = some bs ∧ Q (.bl (bs.all id)) := ⟨fun ⟨_, _, bs, e, h, q⟩ => by cases e; exact ⟨bs, h, q⟩, fun ⟨bs, h, q⟩ => ⟨_, _, bs, rfl, h, q⟩⟩
end
section
variable {X : Cv}
/-- x.pop() at a place -/
theorem mp_pop {o : Expr} {i : Nat} {t : VTP} {apos cpos : Pos} (h : VP X o i t)
    (hbase : attributeBase o "pop" X.env (eval o X.env) = eval o X.env := by rfl) (hline : (apos.endLine == cpos.line) = true := by rfl) : VE X (.Call (.Attribute o "pop" apos) [] [] cpos) (vMut muPop i t vaNil) :=
  ve_mut0 h mu_pop PySem.F.slot_list_pop PySem.F.type_list_pop mt_pop hbase hline
/-- name op= e, ints -/
def vAug (f : Int → Int → Int) (i : Nat) (t : VTE) : VTS := fun N ε => ∃ x : Int, ε[i]? = some (some (.int x)) ∧ t N.rx ε fun d ε1 => ∃ y, d = .int y ∧ i < ε1.length ∧ N.nx (ε1.set i (some (.int (f x y))))
end
end VL
namespace VL
open PySem PySem.Spec PyProof.Rows L2 VL
theorem kap_of {κ : List Bool} {is : List Nat} (h : (is.all fun i => !(κ[i]? == some true)) = true) : ∀ i ∈ is, κ[i]? ≠ some true := fun i hi e => by
  have := List.all_eq_true.mp h i hi
  rw [e] at this
  cases this
section
variable {X : Cv}
theorem vs_setLcF {i : Nat} {y : Str} {py : Pos} {elt tg iter : Expr} {ifs : List Expr} {scope : Scope} {own : List (Str × Nat)} {pos spos : Pos} {wi : VTA} {g : VTG} {tt : VTT} {te : VTE} (hc : X.calm = true) (hN : X.N.Nodup) (ok : BlkOk X.N X.env.scope scope own) (hk : ∀ i ∈ own.map (·.2), X.κ[i]? ≠ some true) (hi : VI X tg iter wi)
    (hg : ∀ c : BI, VTo (X.blk c.1 c.2.1 scope c.2.2.1 c.2.2.2.1 c.2.2.2.2) (own.map (·.2)) tg g) (ht : ∀ c : BI, VTs (X.blk c.1 c.2.1 scope c.2.2.1 c.2.2.2.1 c.2.2.2.2) ifs tt) (he : ∀ c : BI, VE (X.blk c.1 c.2.1 scope c.2.2.1 c.2.2.2.1 c.2.2.2.2) elt te)
    (hy : X.N[i]? = some y) (hyl : X.env.scope.names.lookup y = some .local) (hky : X.κ[i]? ≠ some true) (hsw : swapsWith (.ListComp elt [⟨tg, iter, ifs, 0⟩] scope pos) (some (.Name y py)) spos.line X.env = pure true)
    (hs : ∀ x, foldedSetIterable iter X.env x = pure x := by intro _; rfl) : VS X (.Assign [.Name y py] (.ListComp elt [⟨tg, iter, ifs, 0⟩] scope pos) spos) (vAsg i (vStill (vLc (own.map (·.2)) wi g tt te))) := by
  obtain ⟨wi', w1, w2⟩ := hi.ex
  obtain ⟨g', tt', te', h1, h2, h3, run⟩ := lc_run hk hg ht he
  refine ⟨fun W => tAsg (tLc (wi' W) g' tt' te' (own.map (·.2))) (gName i), fun W tk => ps_setLc hc hN hy hyl hsw (w1 W tk) ok (fun s H C cl fp => h1 ⟨s, H, C, cl, fp⟩) (fun s H C cl fp => h2 ⟨s, H, C, cl, fp⟩) (fun s H C cl fp => h3 ⟨s, H, C, cl, fp⟩) hs, fun b σ H ε T Tv W N E I q l x => ?_⟩
  exact w2 b σ H ε T Tv W N.rx _ _ I q (fun ds R Rv J ε1 H1 I1 hr wk z => run b σ H1 ε1 T Tv R Rv ds J (fun acc ε' => i < ε'.length ∧ N.nx (ε'.set i (some (frz (.lst true acc))))) _ I1 I.lenT hr wk z fun acc v ε' H' I' z' => l.nx _ H' _ ((I'.freeze I.lenT).store I.lenT z'.1 (b.free hky)) z'.2) x
def wLst (t : VTVs) : VTV := fun ε Q => t ε fun ds => ds.length ≤ 1000 ∧ Q (.lst false ds)
theorem wv_lst {es : List Expr} {t : VTVs} {pos : Pos} (h : VVs X es t) : VV X (.List es pos) (wLst t) := by
  obtain ⟨t', h1, h2⟩ := h.ex
  refine ⟨fun W => tLst (t' W), fun W tk => pe_lst (h1 W tk), fun b σ H ε T Tv W Q Q' I q k => ?_⟩
  refine h2 b σ H ε T Tv W _ _ I q fun ds vs H1 s1 rr l z => ?_
  refine ⟨k1000 (by rw [← rr.len]; exact z.1), fun p hp => k (.lst false ds) _ _ (s1.trans (Sub.laid hp)) ⟨p, vs, rfl, SqL.of upd_same, rfl, rr.up (Sub.laid hp)⟩ z.2⟩
end
end VL
namespace VL
open PySem PySem.Spec PyProof.Rows L2 VL
def setAt {α : Type} (l : List α) (z : α) (i : Nat) (x : α) : List α := (l ++ List.replicate (i + 1 - l.length) z).set i x
/-- the context in which slot i is kept -/
abbrev Cv.kp (X : Cv) (i : Nat) : Cv := { X with κ := setAt X.κ false i true }
section
variable {X : Cv} {tg : Expr}
/-- for over a list of ours in slot i, moved out for the while -/
def vForO (i : Nat) (w : List D → List D) (g : VTG) (body : VTS) : VTS := fun N ε => ∃ m xs, ε[i]? = some (some (.lst m xs)) ∧ isFzL xs = true ∧
  vForL g body (w xs) { nx := fun ε' => N.nx (ε'.set i (some (.lst m xs))), rt := fun d ε' => N.rt d (ε'.set i (some (.lst m xs))), rx := N.rx } (ε.set i none)
end
end VL
namespace VL
open PySem PySem.Spec PyProof.Rows L2 VL
section
variable {K : PySem.W.Frag} {b : Bs} {σ : L2.St} {H : Hp} {ε : Ep} {T : List D} {Tv : List V}
theorem SI.pick {xs : List D} {a : Addr} {k : Nat} {d : D} (I : SI K b σ H ε (T ++ [.lst true xs]) (Tv ++ [.ref a])) (hl : T.length = Tv.length) (h : xs[k]? = some d) :
    ∃ u vs, H a = some (.lst vs) ∧ vs[k]? = some u ∧ SI K b σ H ε (T ++ [.lst true (xs.set k (.val u)), d]) (Tv ++ [.ref a, u]) := by
  obtain ⟨G, F, Ft, J⟩ := I
  obtain ⟨F1, F2, rfl, r1, r2⟩ := J.temps.split2 hl
  obtain ⟨a', vs, F', e, s, rfl, r⟩ := RpL.one.mp r2
  cases e
  obtain ⟨u, A, B, C, hu, rfl, rd, back⟩ := r.focus h
  have q := back G H (.val u) u [] Sub.refl (fun _ _ => rfl) ⟨rfl, rfl⟩
  rw [setSelf hu, List.append_nil] at q
  have pm : (F ++ (F1 ++ (a :: (A ++ B ++ C)))).Perm (F ++ (F1 ++ ((a :: (A ++ C)) ++ B))) := by
    apply List.perm_iff_count.mpr
    intro z
    simp only [List.count_append, List.count_cons]
    omega
  refine ⟨u, vs, s, hu, G, F, _, J.s0, J.sub, J.slots, r1.append (F2 := (a :: (A ++ C)) ++ B) ?_, pm.nodup_iff.mp J.nd, fun z hz => J.fr z (pm.mem_iff.mpr hz), fun z hz => J.own z (pm.mem_iff.mpr hz), J.gn, J.keep, J.kept⟩
  exact ⟨.ref a, [u], a :: (A ++ C), B, rfl, rfl, ⟨a, vs, A ++ C, rfl, s, rfl, q⟩, RpL.one.mpr rd⟩
theorem SI.unpick {xs : List D} {a : Addr} {k : Nat} {d : D} {u : V} (I : SI K b σ H ε (T ++ [.lst true xs, d]) (Tv ++ [.ref a, u])) (hl : T.length = Tv.length) (h : xs[k]? = some (.val u)) : SI K b σ H ε (T ++ [.lst true (xs.set k d)]) (Tv ++ [.ref a]) := by
  obtain ⟨G, F, Ft, J⟩ := I
  obtain ⟨F1, F2, rfl, r1, r2⟩ := J.temps.split2 hl
  obtain ⟨v', vs', X1, X2, e1, rfl, ra, v2, vs2, X3, X4, e2, rfl, rd, rfl, rfl⟩ := r2
  cases e1
  cases e2
  obtain ⟨a', vs, F', e, s, rfl, r⟩ := ra
  cases e
  obtain ⟨w, A, B, C, hw, rfl, rv, back⟩ := r.focus h
  obtain ⟨rfl, rfl⟩ := rv
  have q := back G H d w X3 Sub.refl (fun _ _ => rfl) rd
  rw [setSelf hw] at q
  have pm : (F ++ (F1 ++ (a :: (A ++ [] ++ C) ++ (X3 ++ [])))).Perm (F ++ (F1 ++ (a :: (A ++ X3 ++ C)))) := by
    apply List.perm_iff_count.mpr
    intro z
    simp only [List.count_append, List.count_cons, List.cons_append, List.count_nil]
    omega
  exact ⟨G, F, _, J.s0, J.sub, J.slots, r1.append (RpL.one.mpr ⟨a, vs, A ++ X3 ++ C, rfl, s, rfl, q⟩), pm.nodup_iff.mp J.nd, fun z hz => J.fr z (pm.mem_iff.mpr hz), fun z hz => J.own z (pm.mem_iff.mpr hz), J.gn, J.keep, J.kept⟩
end
theorem vss_never {X : Cv} {st : List Stmt} : VSs X st vNever := ⟨fun _ => fun _ _ _ => False, fun _ _ => ⟨fun _ _ _ _ _ _ h => h.elim⟩, fun _ _ _ _ _ _ _ _ _ _ q _ _ => q.elim⟩
end VL
namespace VL
open PySem PySem.Spec PyProof.Rows L2 VL
/-- an operand: a number, a name -/
abbrev Opd := Sum Int Cs
def opD : Opd → D
  | .inl i => .int i
  | .inr s => .str s
theorem opD_fz (a : Opd) : isFz (opD a) = true := by cases a <;> rfl
def Cs.good (s : Cs) : Bool := s.all fun c => decide (c < 1114112)
def Opd.good : Opd → Bool
  | .inl _ => true
  | .inr s => Cs.good s
theorem opD_ok {a : Opd} (h : a.good = true) (n : Nat) : okD n (opD a) = true := by
  cases a with
  | inl i => cases n <;> rfl
  | inr s => cases n <;> exact h
/-- a node of a graph -/
inductive Nd where
  | sum (x : Cs) (a : Opd) (s : Cs) (b : Opd) (to : Nat)
  | test (a : Opd) (s : Cs) (b : Opd) (y n : Nat)
  | fin
  | spin
abbrev cSum : Cs := [115, 117, 109]
abbrev cTest : Cs := [116, 101, 115, 116]
abbrev cEnd : Cs := [101, 110, 100]
abbrev cSpin : Cs := [115, 112, 105, 110]
def ndL : Nd → List D
  | .sum x a s b to => [.str cSum, .str x, opD a, .str s, opD b, .int (to : Int)]
  | .test a s b y n => [.str cTest, opD a, .str s, opD b, .int (y : Int), .int (n : Int)]
  | .fin => [.str cEnd]
  | .spin => [.str cSpin]
def ndD (x : Nd) : D := .tup (ndL x)
/-- its ways, the no ahead -/
def goals : Nd → List Nat
  | .sum _ _ _ _ to => [to]
  | .test _ _ _ y n => [n, y]
  | _ => []
def waysN : Nd → List Nat
  | .sum _ _ _ _ to => [to]
  | .test _ _ _ y n => [y, n]
  | _ => []
theorem waysN_eq (x : Nd) : waysN x = (goals x).reverse := by cases x <;> rfl
def Nd.good : Nd → Bool
  | .sum x a s b _ => Cs.good x && (a.good && (Cs.good s && b.good))
  | .test a s b _ _ => a.good && (Cs.good s && b.good)
  | _ => true
def Nd.ok (n : Nat) (x : Nd) : Prop := ∀ g ∈ goals x, g < n
theorem isFzL_nd (x : Nd) : isFzL (ndL x) = true := by cases x <;> simp [ndL, isFzL, isFz, opD_fz]
theorem isFz_nd (x : Nd) : isFz (ndD x) = true := isFzL_nd x
theorem frz_nd (x : Nd) : frz (ndD x) = ndD x := frz_id (isFz_nd x)
theorem isFzL_nds (g : List Nd) : isFzL (g.map ndD) = true := by rw [isFzL_all]; simp [isFz_nd]
theorem frzL_nds (g : List Nd) : frzL (g.map ndD) = g.map ndD := by
  rw [frzL_map, List.map_map]
  exact List.map_congr_left fun x _ => frz_nd x
theorem okD_nd {x : Nd} (h : x.good = true) {n : Nat} (hn : 1 ≤ n) : okD n (ndD x) = true := by
  obtain ⟨m, rfl⟩ : ∃ m, n = m + 1 := ⟨n - 1, by omega⟩
  show okDL m (ndL x) = true
  rw [okDL_all]
  cases x with
  | sum x a s b to =>
    simp only [Nd.good, Bool.and_eq_true] at h
    simp only [ndL, List.all_cons, List.all_nil, Bool.and_true, Bool.and_eq_true]
    refine ⟨?_, ?_, opD_ok h.2.1 m, ?_, opD_ok h.2.2.2 m, ?_⟩
    · cases m <;> rfl
    · cases m <;> exact h.1
    · cases m <;> exact h.2.2.1
    · cases m <;> rfl
  | test a s b y n =>
    simp only [Nd.good, Bool.and_eq_true] at h
    simp only [ndL, List.all_cons, List.all_nil, Bool.and_true, Bool.and_eq_true]
    refine ⟨?_, opD_ok h.1 m, ?_, opD_ok h.2.2 m, ?_, ?_⟩
    · cases m <;> rfl
    · cases m <;> exact h.2.1
    · cases m <;> rfl
    · cases m <;> rfl
  | fin => cases m <;> rfl
  | spin => cases m <;> rfl
theorem okDL_nds {g : List Nd} (h : ∀ x ∈ g, x.good = true) {n : Nat} (hn : 1 ≤ n) : okDL n (g.map ndD) = true := by
  rw [okDL_all, List.all_map]
  exact List.all_eq_true.mpr fun x hx => okD_nd (h x hx) hn
theorem okD_lnds {g : List Nd} (h : ∀ x ∈ g, x.good = true) (m : Bool) : okD 64 (.lst m (g.map ndD)) = true := okDL_nds h (n := 63) (by decide)
theorem deqL_self : ∀ {n : Nat} {xs : List D}, okDL n xs = true → deqL xs xs = true := by
  intro n xs h
  suffices key : ∀ (n : Nat) (d : D), okD n d = true → deq d d = true by
    induction xs with
    | nil => rfl
    | cons x xs ih =>
      obtain ⟨a, b⟩ := Bool.and_eq_true_iff.mp (show (okD n x && okDL n xs) = true by simpa [okDL] using h)
      show (deq x x && deqL xs xs) = true
      rw [key n x a, ih b]
      rfl
  intro n
  induction n with
  | zero =>
    intro d h
    cases d <;> first | rfl | (simp [okD] at h; done) | (simp [deq]; done)
  | succ n ih =>
    have l : ∀ xs : List D, okDL n xs = true → deqL xs xs = true := fun xs h => by
      induction xs with
      | nil => rfl
      | cons x xs ih2 =>
        obtain ⟨a, b⟩ := Bool.and_eq_true_iff.mp (show (okD n x && okDL n xs) = true by simpa [okDL] using h)
        show (deq x x && deqL xs xs) = true
        rw [ih x a, ih2 b]
        rfl
    intro d h
    cases d with
    | tup xs => exact l xs (by simpa [okD] using h)
    | lst m xs => exact l xs (by simpa [okD] using h)
    | _ => first | rfl | (simp [okD] at h; done) | (simp [deq]; done)
theorem deq_self {n : Nat} {d : D} (h : okD n d = true) : deq d d = true := by
  have : deqL [d] [d] = true := deqL_self (n := n) (by simp [okDL, h])
  simpa [deqL] using this
structure Wst where
  begun : List Nat
  trail : List (Nat × Nat)
  done : List Nat
section
variable (gl : Nat → List Nat)
def wstep : Wst → Wst
  | ⟨b, [], d⟩ => ⟨b, [], d⟩
  | ⟨b, (h, s) :: t, d⟩ => match (gl h)[s]? with
    | none => ⟨b, t, d ++ [h]⟩
    | some g => if g ∈ b then ⟨b, (h, s + 1) :: t, d⟩ else ⟨b ++ [g], (g, 0) :: (h, s + 1) :: t, d⟩
def wrun : Nat → Wst → Wst
  | 0, s => s
  | n + 1, s => if s.trail = [] then s else wrun n (wstep gl s)
/-- the numbers of the nodes, the one finished last ahead -/
def wfuel (n : Nat) : Nat := ((List.range n).map fun x => (gl x).length + 2).sum
def orderAt (n st : Nat) : List Nat := (wrun gl (wfuel gl n) ⟨[st], [(st, 0)], []⟩).done.reverse
def wmu (n : Nat) (s : Wst) : Nat := (((List.range n).filter fun x => decide (x ∉ s.begun)).map fun x => (gl x).length + 2).sum + (s.trail.map fun p => (gl p.1).length - p.2 + 1).sum
/-- what holds all along -/
structure WInvS (n st : Nat) (s : Wst) : Prop where
  rng : ∀ x ∈ s.begun, x < n
  le : ∀ p ∈ s.trail, p.2 ≤ (gl p.1).length
  mem : ∀ x, x ∈ s.begun ↔ x ∈ s.done ++ s.trail.map (·.1)
  nd : (s.done ++ s.trail.map (·.1)).Nodup
  nb : s.begun.Nodup
  last : (s.done ++ s.trail.map (·.1)).getLast? = some st
  dn : ∀ x ∈ s.done, ∀ g ∈ gl x, g ∈ s.begun
  tr : ∀ p ∈ s.trail, ∀ i g, i < p.2 → (gl p.1)[i]? = some g → g ∈ s.begun
  par : ∀ x ∈ s.done ++ s.trail.map (·.1), x ≠ st → ∃ A B p, s.done ++ s.trail.map (·.1) = A ++ x :: B ∧ p ∈ B ∧ x ∈ gl p
end
section
variable {gl : Nat → List Nat} {n : Nat}
theorem WInvS.start {st : Nat} (h0 : st < n) : WInvS gl n st ⟨[st], [(st, 0)], []⟩ where
  rng := fun x hx => by simp at hx; omega
  le := fun p hp => by simp at hp; subst hp; exact Nat.zero_le _
  mem := fun x => by simp
  nd := by simp
  nb := by simp
  last := rfl
  dn := fun x hx => by simp at hx
  tr := fun p hp i g hi => by simp at hp; subst hp; omega
  par := fun x hx hne => by simp at hx; exact absurd hx hne
theorem wstep_none {b : List Nat} {h k : Nat} {t : List (Nat × Nat)} {d : List Nat} (e : (gl h)[k]? = none) : wstep gl ⟨b, (h, k) :: t, d⟩ = ⟨b, t, d ++ [h]⟩ := by
  simp only [wstep, e]
theorem wstep_some {b : List Nat} {h k g : Nat} {t : List (Nat × Nat)} {d : List Nat} (e : (gl h)[k]? = some g) : wstep gl ⟨b, (h, k) :: t, d⟩ = if g ∈ b then ⟨b, (h, k + 1) :: t, d⟩ else ⟨b ++ [g], (g, 0) :: (h, k + 1) :: t, d⟩ := by
  simp only [wstep, e]
theorem WInvS.step {st : Nat} (hg : ∀ x < n, ∀ g ∈ gl x, g < n) {s : Wst} (I : WInvS gl n st s) : WInvS gl n st (wstep gl s) := by
  obtain ⟨b, t, d⟩ := s
  cases t with
  | nil => exact I
  | cons p t =>
    obtain ⟨h, k⟩ := p
    have hb : h ∈ b := (I.mem h).mpr (by simp)
    have kle : k ≤ (gl h).length := I.le (h, k) (by simp)
    cases e : (gl h)[k]? with
    | none =>
      rw [wstep_none e]
      have hk : k = (gl h).length := by
        have := List.getElem?_eq_none_iff.mp e
        omega
      have eo : (d ++ [h]) ++ t.map (·.1) = d ++ ((h, k) :: t).map (·.1) := by simp
      refine ⟨I.rng, fun p hp => I.le p (List.mem_cons_of_mem _ hp), fun x => ?_, ?_, I.nb, ?_, fun x hx g hgx => ?_, fun p hp => I.tr p (List.mem_cons_of_mem _ hp), ?_⟩
      · show x ∈ b ↔ x ∈ (d ++ [h]) ++ t.map (·.1)
        rw [eo]; exact I.mem x
      · show ((d ++ [h]) ++ t.map (·.1)).Nodup
        rw [eo]; exact I.nd
      · show ((d ++ [h]) ++ t.map (·.1)).getLast? = some st
        rw [eo]; exact I.last
      · rcases List.mem_append.mp hx with hx | hx
        · exact I.dn x hx g hgx
        · simp at hx
          subst hx
          obtain ⟨i, hi⟩ := List.mem_iff_getElem?.mp hgx
          exact I.tr (x, k) (by simp) i g (by rw [hk]; exact (List.getElem?_eq_some_iff.mp hi).1) hi
      · show ∀ x ∈ (d ++ [h]) ++ t.map (·.1), x ≠ st → ∃ A B p, (d ++ [h]) ++ t.map (·.1) = A ++ x :: B ∧ p ∈ B ∧ x ∈ gl p
        rw [eo]; exact I.par
    | some g =>
      have kl := (List.getElem?_eq_some_iff.mp e).1
      have gm : g ∈ gl h := List.mem_of_getElem? e
      rw [wstep_some e]
      split
      · rename_i hgb
        have em : ((h, k + 1) :: t).map (·.1) = ((h, k) :: t).map (·.1) := rfl
        refine ⟨I.rng, fun p hp => ?_, I.mem, I.nd, I.nb, I.last, I.dn, fun p hp i y hi hy => ?_, I.par⟩
        · rcases List.mem_cons.mp hp with rfl | hp
          · exact kl
          · exact I.le p (List.mem_cons_of_mem _ hp)
        · rcases List.mem_cons.mp hp with rfl | hp
          · by_cases hik : i = k
            · subst hik
              have : some g = some y := e.symm.trans hy
              cases this
              exact hgb
            · exact I.tr (h, k) (by simp) i y (by simp at hi; omega) hy
          · exact I.tr p (List.mem_cons_of_mem _ hp) i y hi hy
      · rename_i hgb
        have gn : g ∉ d ++ ((h, k) :: t).map (·.1) := fun z => hgb ((I.mem g).mpr z)
        have em : d ++ ((g, 0) :: (h, k + 1) :: t).map (·.1) = d ++ g :: ((h, k) :: t).map (·.1) := rfl
        refine ⟨fun x hx => ?_, fun p hp => ?_, fun x => ?_, ?_, List.nodup_append.mpr ⟨I.nb, by simp, fun a ha c hc e2 => by simp at hc; exact hgb (by rw [← hc, ← e2]; exact ha)⟩, ?_, fun x hx y hy => List.mem_append_left _ (I.dn x hx y hy), fun p hp i y hi hy => ?_, ?_⟩
        · rcases List.mem_append.mp hx with hx | hx
          · exact I.rng x hx
          · simp at hx; subst hx; exact hg h (I.rng h hb) x gm
        · rcases List.mem_cons.mp hp with rfl | hp
          · exact Nat.zero_le _
          rcases List.mem_cons.mp hp with rfl | hp
          · exact kl
          · exact I.le p (List.mem_cons_of_mem _ hp)
        · show x ∈ b ++ [g] ↔ x ∈ d ++ ((g, 0) :: (h, k + 1) :: t).map (·.1)
          rw [em, List.mem_append, I.mem x]
          simp only [List.mem_append, List.mem_cons, List.not_mem_nil, or_false]
          constructor
          · rintro ((h1 | h1) | h1)
            · exact .inl h1
            · exact .inr (.inr h1)
            · exact .inr (.inl h1)
          · rintro (h1 | h1 | h1)
            · exact .inl (.inl h1)
            · exact .inr h1
            · exact .inl (.inr h1)
        · show (d ++ g :: ((h, k) :: t).map (·.1)).Nodup
          have pm : (d ++ g :: ((h, k) :: t).map (·.1)).Perm (g :: (d ++ ((h, k) :: t).map (·.1))) := List.perm_middle
          exact pm.nodup_iff.mpr (List.nodup_cons.mpr ⟨gn, I.nd⟩)
        · show (d ++ g :: ((h, k) :: t).map (·.1)).getLast? = some st
          have h1 := I.last
          have : ∀ (A B : List Nat), B ≠ [] → (A ++ B).getLast? = B.getLast? := fun A B hB => by
            rw [List.getLast?_append]
            cases hq : B.getLast? with
            | none => exact absurd (List.getLast?_eq_none_iff.mp hq) hB
            | some z => rfl
          have h2 : (d ++ ((h, k) :: t).map (·.1)).getLast? = (((h, k) :: t).map (·.1)).getLast? := this _ _ (by simp)
          have h1' : (d ++ ((h, k) :: t).map (·.1)).getLast? = some st := h1
          rw [this _ _ (by simp), List.getLast?_cons]
          rw [h2] at h1'
          rw [h1']
          rfl
        · rcases List.mem_cons.mp hp with rfl | hp
          · simp at hi
          rcases List.mem_cons.mp hp with rfl | hp
          · by_cases hik : i = k
            · subst hik
              have : some g = some y := e.symm.trans hy
              cases this
              simp
            · exact List.mem_append_left _ (I.tr (h, k) (by simp) i y (by simp at hi; omega) hy)
          · exact List.mem_append_left _ (I.tr p (List.mem_cons_of_mem _ hp) i y hi hy)
        · show ∀ x ∈ d ++ g :: ((h, k) :: t).map (·.1), x ≠ st → ∃ A B p, d ++ g :: ((h, k) :: t).map (·.1) = A ++ x :: B ∧ p ∈ B ∧ x ∈ gl p
          intro x hx hne
          by_cases hxg : x = g
          · subst hxg
            exact ⟨d, ((h, k) :: t).map (·.1), h, rfl, by simp, gm⟩
          · have hx2 : x ∈ d ++ ((h, k) :: t).map (·.1) := by
              rcases List.mem_append.mp hx with hx | hx
              · exact List.mem_append_left _ hx
              · rcases List.mem_cons.mp hx with hx | hx
                · exact absurd hx hxg
                · exact List.mem_append_right _ hx
            obtain ⟨A, B, p, eo, hp, hxp⟩ := I.par x hx2 hne
            have eo : d ++ ((h, k) :: t).map (·.1) = A ++ x :: B := eo
            rcases List.append_eq_append_iff.mp eo with ⟨C, e1, e2⟩ | ⟨C, e1, e2⟩
            · -- A = d ++ C
              exact ⟨d ++ g :: C, B, p, by rw [e2]; simp, hp, hxp⟩
            · -- d = A ++ C
              cases C with
              | nil =>
                have e2' : x :: B = ((h, k) :: t).map (·.1) := e2
                exact ⟨d ++ [g], B, p, by rw [← e2']; simp, hp, hxp⟩
              | cons c C =>
                obtain ⟨rfl, rfl⟩ := List.cons.inj e2
                refine ⟨A, C ++ g :: ((h, k) :: t).map (·.1), p, by rw [e1]; simp, ?_, hxp⟩
                rcases List.mem_append.mp hp with hp | hp
                · exact List.mem_append_left _ hp
                · exact List.mem_append_right _ (List.mem_cons_of_mem _ hp)
theorem sum_without {f : Nat → Nat} {P : Nat → Bool} {g : Nat} : ∀ {l : List Nat}, l.Nodup → g ∈ l → P g = true → ((l.filter fun x => P x && !(x == g)).map f).sum + f g = ((l.filter P).map f).sum
  | [], _, h, _ => by cases h
  | x :: l, nd, h, hp => by
    obtain ⟨n1, n2⟩ := List.nodup_cons.mp nd
    by_cases e : x = g
    · subst e
      have : (l.filter fun y => P y && !(y == x)) = l.filter P := by
        apply List.filter_congr
        intro y hy
        have : (y == x) = false := by
          rw [beq_eq_false_iff_ne]
          exact fun z => n1 (z ▸ hy)
        rw [this]
        simp
      rw [List.filter_cons_of_neg (by simp), List.filter_cons_of_pos hp, this, List.map_cons, List.sum_cons]
      omega
    · have hl : g ∈ l := by
        rcases List.mem_cons.mp h with h | h
        · exact absurd h.symm e
        · exact h
      have ih := sum_without (f := f) (P := P) n2 hl hp
      have hx : (x == g) = false := by rw [beq_eq_false_iff_ne]; exact e
      cases hP : P x with
      | true =>
        rw [List.filter_cons_of_pos (by rw [hP, hx]; rfl), List.filter_cons_of_pos hP, List.map_cons, List.map_cons, List.sum_cons, List.sum_cons]
        omega
      | false =>
        rw [List.filter_cons_of_neg (by rw [hP]; simp), List.filter_cons_of_neg (by rw [hP]; simp)]
        exact ih
theorem wmu_step {st : Nat} (hg : ∀ x < n, ∀ g ∈ gl x, g < n) {s : Wst} (I : WInvS gl n st s) (ht : s.trail ≠ []) : wmu gl n (wstep gl s) < wmu gl n s := by
  obtain ⟨b, t, d⟩ := s
  cases t with
  | nil => exact absurd rfl ht
  | cons p t =>
    obtain ⟨h, k⟩ := p
    have hb : h ∈ b := (I.mem h).mpr (by simp)
    have kle : k ≤ (gl h).length := I.le (h, k) (by simp)
    cases e : (gl h)[k]? with
    | none =>
      rw [wstep_none e]
      simp only [wmu, List.map_cons, List.sum_cons]
      omega
    | some g =>
      have kl := (List.getElem?_eq_some_iff.mp e).1
      rw [wstep_some e]
      split
      · simp only [wmu, List.map_cons, List.sum_cons]
        omega
      · rename_i hgb
        have gn : g < n := hg h (I.rng h hb) g (List.mem_of_getElem? e)
        have := sum_without (f := fun x => (gl x).length + 2) (P := fun x => decide (x ∉ b)) (g := g) List.nodup_range (List.mem_range.mpr gn) (by simpa using hgb)
        have ef : ((List.range n).filter fun x => decide (x ∉ b ++ [g])) = (List.range n).filter fun x => decide (x ∉ b) && !(x == g) := by
          apply List.filter_congr
          intro x _
          by_cases h1 : x ∈ b <;> by_cases h2 : x = g <;> simp [h1, h2]
        simp only [wmu, List.map_cons, List.sum_cons]
        rw [ef]
        omega
theorem wrun_inv {st : Nat} (hg : ∀ x < n, ∀ g ∈ gl x, g < n) : ∀ {m : Nat} {s : Wst}, WInvS gl n st s → wmu gl n s ≤ m → WInvS gl n st (wrun gl m s) ∧ (wrun gl m s).trail = []
  | 0, s, I, h => by
    refine ⟨I, ?_⟩
    show s.trail = []
    cases e : s.trail with
    | nil => rfl
    | cons p t =>
      have : s.trail ≠ [] := by rw [e]; simp
      have := wmu_step hg I this
      omega
  | m + 1, s, I, h => by
    unfold wrun
    split
    · rename_i e; exact ⟨I, e⟩
    · rename_i e
      exact wrun_inv hg (I.step hg) (by have := wmu_step hg I e; omega)
theorem wmu_start {st : Nat} (h0 : st < n) : wmu gl n ⟨[st], [(st, 0)], []⟩ ≤ wfuel gl n := by
  have := sum_without (f := fun x => (gl x).length + 2) (P := fun _ => true) (g := st) List.nodup_range (List.mem_range.mpr h0) rfl
  have ef : ((List.range n).filter fun x => decide (x ∉ [st])) = (List.range n).filter fun x => true && !(x == st) := by
    apply List.filter_congr
    intro x _
    by_cases h2 : x = st <;> simp [h2]
  have e2 : ((List.range n).filter fun _ => true) = List.range n := by simp
  rw [e2] at this
  simp only [wmu, wfuel, List.map_cons, List.map_nil, List.sum_cons, List.sum_nil]
  rw [ef]
  omega
inductive Pthv (f : Nat → List Nat) (S : Nat → Prop) (a : Nat) : Nat → Prop
  | self : S a → Pthv f S a a
  | step {k t : Nat} : Pthv f S a k → t ∈ f k → S t → Pthv f S a t
theorem Pthv.mono {f : Nat → List Nat} {S S' : Nat → Prop} {a k : Nat} (h : ∀ y, S y → S' y) (p : Pthv f S a k) : Pthv f S' a k := by
  induction p with
  | self s => exact .self (h _ s)
  | step _ m s ih => exact .step ih m (h _ s)
def Anc (gl : Nat → List Nat) (L : List Nat) (g x : Nat) : Prop := List.Sublist [g, x] L ∨ Pthv gl (fun y => y = g ∨ List.Sublist [y, g] L) g x
theorem Anc.mono {L L' : List Nat} {g x : Nat} (h : L.Sublist L') : Anc gl L g x → Anc gl L' g x
  | .inl a => .inl (a.trans h)
  | .inr p => .inr (p.mono fun _ hy => hy.imp id fun z => z.trans h)
structure WAnc (gl : Nat → List Nat) (s : Wst) : Prop where
  ch : ∀ (i : Nat) (p q : Nat × Nat), s.trail[i]? = some p → s.trail[i + 1]? = some q → p.1 ∈ gl q.1
  dn : ∀ x ∈ s.done, ∀ g ∈ gl x, Anc gl (s.done ++ s.trail.map (·.1)) g x
  tr : ∀ p ∈ s.trail, ∀ i g, i < p.2 → (gl p.1)[i]? = some g → Anc gl (s.done ++ s.trail.map (·.1)) g p.1
theorem trail_path {L : List Nat} : ∀ (t : List (Nat × Nat)) (g : Nat), (∀ (i : Nat) (p q : Nat × Nat), t[i]? = some p → t[i + 1]? = some q → p.1 ∈ gl q.1) → (t.map (·.1)).Sublist L → g ∈ t.map (·.1) → ∀ h, (t.map (·.1)).head? = some h → Pthv gl (fun y => y = g ∨ List.Sublist [y, g] L) g h
  | [], g, _, _, hg, _, _ => by cases hg
  | [p], g, _, _, hg, h, hh => by
    simp at hg hh
    subst hg
    subst hh
    exact .self (.inl rfl)
  | p :: q :: t, g, ch, sl, hg, h, hh => by
    simp at hh
    subst hh
    by_cases e : g = p.1
    · subst e; exact .self (.inl rfl)
    · have hg2 : g ∈ (q :: t).map (·.1) := by
        rcases List.mem_cons.mp hg with z | z
        · exact absurd z e
        · exact z
      have sl2 : ((q :: t).map (·.1)).Sublist L := (List.sublist_cons_self p.1 _).trans sl
      have ih := trail_path (q :: t) g (fun i a b h1 h2 => ch (i + 1) a b h1 h2) sl2 hg2 q.1 rfl
      refine .step ih (ch 0 p q rfl rfl) (.inr (List.Sublist.trans ?_ sl))
      exact List.Sublist.cons_cons p.1 (List.singleton_sublist.mpr hg2)
theorem WAnc.start {st : Nat} : WAnc gl ⟨[st], [(st, 0)], []⟩ where
  ch := fun i p q _ h2 => by simp at h2
  dn := fun x hx => by simp at hx
  tr := fun p hp i g hi => by simp at hp; subst hp; omega
theorem WAnc.step {st : Nat} {s : Wst} (I : WInvS gl n st s) (J : WAnc gl s) : WAnc gl (wstep gl s) := by
  obtain ⟨b, t, d⟩ := s
  cases t with
  | nil => exact J
  | cons p t =>
    obtain ⟨h, k⟩ := p
    have kle : k ≤ (gl h).length := I.le (h, k) (by simp)
    cases e : (gl h)[k]? with
    | none =>
      rw [wstep_none e]
      have hk : k = (gl h).length := by
        have := List.getElem?_eq_none_iff.mp e
        omega
      have eo : (d ++ [h]) ++ t.map (·.1) = d ++ ((h, k) :: t).map (·.1) := by simp
      refine ⟨fun i p q h1 h2 => J.ch (i + 1) p q h1 h2, fun x hx g hg => ?_, fun p hp i g hi hgi => ?_⟩
      · show Anc gl ((d ++ [h]) ++ t.map (·.1)) g x
        rw [eo]
        rcases List.mem_append.mp hx with hx | hx
        · exact J.dn x hx g hg
        · simp at hx
          subst hx
          obtain ⟨i, hi⟩ := List.mem_iff_getElem?.mp hg
          exact J.tr (x, k) (by simp) i g (by rw [hk]; exact (List.getElem?_eq_some_iff.mp hi).1) hi
      · show Anc gl ((d ++ [h]) ++ t.map (·.1)) g p.1
        rw [eo]
        exact J.tr p (List.mem_cons_of_mem _ hp) i g hi hgi
    | some g =>
      have gm : g ∈ gl h := List.mem_of_getElem? e
      have hch : ∀ (i : Nat) (p q : Nat × Nat), ((h, k + 1) :: t)[i]? = some p → ((h, k + 1) :: t)[i + 1]? = some q → p.1 ∈ gl q.1 := fun i p q h1 h2 => by
        cases i with
        | zero =>
          cases h1
          exact J.ch 0 (h, k) q rfl h2
        | succ i => exact J.ch (i + 1) p q h1 h2
      rw [wstep_some e]
      split
      · rename_i hgb
        have hA : Anc gl (d ++ ((h, k) :: t).map (·.1)) g h := by
          rcases List.mem_append.mp ((I.mem g).mp hgb) with hd | ht
          · left
            exact List.Sublist.append (l₁ := [g]) (r₁ := [h]) (List.singleton_sublist.mpr hd) (List.singleton_sublist.mpr (by simp))
          · right
            exact trail_path ((h, k) :: t) g J.ch (List.sublist_append_right d _) ht h rfl
        refine ⟨hch, J.dn, fun p hp i y hi hy => ?_⟩
        show Anc gl (d ++ ((h, k) :: t).map (·.1)) y p.1
        rcases List.mem_cons.mp hp with rfl | hp
        · by_cases hik : i = k
          · subst hik
            have : some g = some y := e.symm.trans hy
            cases this
            exact hA
          · exact J.tr (h, k) (by simp) i y (by simp at hi; omega) hy
        · exact J.tr p (List.mem_cons_of_mem _ hp) i y hi hy
      · have sl : (d ++ ((h, k) :: t).map (·.1)).Sublist (d ++ ((g, 0) :: (h, k + 1) :: t).map (·.1)) := List.Sublist.append (List.Sublist.refl d) (List.sublist_cons_self g _)
        refine ⟨fun i p q h1 h2 => ?_, fun x hx y hy => (J.dn x hx y hy).mono sl, fun p hp i y hi hy => ?_⟩
        · cases i with
          | zero =>
            cases h1
            cases h2
            exact gm
          | succ i => exact hch i p q h1 h2
        · rcases List.mem_cons.mp hp with rfl | hp
          · simp at hi
          rcases List.mem_cons.mp hp with rfl | hp
          · by_cases hik : i = k
            · subst hik
              have : some g = some y := e.symm.trans hy
              cases this
              left
              exact List.Sublist.trans (List.Sublist.cons_cons g (List.singleton_sublist.mpr (by simp))) (List.sublist_append_right d _)
            · exact (J.tr (h, k) (by simp) i y (by simp at hi; omega) hy).mono sl
          · exact (J.tr p (List.mem_cons_of_mem _ hp) i y hi hy).mono sl
theorem wrun_anc {st : Nat} (hg : ∀ x < n, ∀ g ∈ gl x, g < n) : ∀ {m : Nat} {s : Wst}, WInvS gl n st s → WAnc gl s → WAnc gl (wrun gl m s)
  | 0, s, I, J => J
  | m + 1, s, I, J => by
    unfold wrun
    split
    · exact J
    · exact wrun_anc hg (I.step hg) (J.step I)
theorem idx_lt {a b : Nat} : ∀ {l : List Nat}, l.Nodup → List.Sublist [a, b] l → l.idxOf a < l.idxOf b
  | [], _, h => by cases h
  | c :: l, nd, h => by
    obtain ⟨n1, n2⟩ := List.nodup_cons.mp nd
    cases h with
    | cons _ h =>
      have ha : a ∈ l := h.subset (by simp)
      have hb : b ∈ l := h.subset (by simp)
      have e1 : (c == a) = false := beq_eq_false_iff_ne.mpr fun z => n1 (z ▸ ha)
      have e2 : (c == b) = false := beq_eq_false_iff_ne.mpr fun z => n1 (z ▸ hb)
      rw [List.idxOf_cons, List.idxOf_cons, e1, e2]
      have := idx_lt n2 h
      simpa using this
    | cons_cons _ h =>
      have hb : b ∈ l := h.subset (by simp)
      have e2 : (a == b) = false := beq_eq_false_iff_ne.mpr fun z => n1 (z ▸ hb)
      rw [List.idxOf_cons, List.idxOf_cons, e2]
      simp
/-- what is known of the numbers -/
structure OrdOk (gl : Nat → List Nat) (n st : Nat) (os : List Nat) : Prop where
  nd : os.Nodup
  rng : ∀ x ∈ os, x < n
  head : os.head? = some st
  closed : ∀ x ∈ os, ∀ g ∈ gl x, g ∈ os
  par : ∀ x ∈ os, x ≠ st → ∃ A B p, os = A ++ x :: B ∧ p ∈ A ∧ x ∈ gl p
  anc : ∀ x ∈ os, ∀ g ∈ gl x, List.Sublist [x, g] os ∨ Pthv gl (fun y => y = g ∨ List.Sublist [g, y] os) g x
theorem order_ok {st : Nat} (h0 : st < n) (hg : ∀ x < n, ∀ g ∈ gl x, g < n) : OrdOk gl n st (orderAt gl n st) := by
  obtain ⟨I, ht⟩ := wrun_inv hg (WInvS.start (gl := gl) h0) (wmu_start h0)
  have J := wrun_anc hg (m := wfuel gl n) (WInvS.start (gl := gl) h0) WAnc.start
  generalize hs : wrun gl (wfuel gl n) ⟨[st], [(st, 0)], []⟩ = s at I ht J
  have eo : s.done ++ s.trail.map (·.1) = s.done := by rw [ht]; simp
  have e : orderAt gl n st = s.done.reverse := by unfold orderAt; rw [hs]
  rw [e]
  have rv : ∀ a b : Nat, List.Sublist [a, b] s.done → List.Sublist [b, a] s.done.reverse := fun a b h => h.reverse
  refine ⟨?_, fun x hx => ?_, ?_, fun x hx g hgx => ?_, fun x hx hne => ?_, fun x hx g hgx => ?_⟩
  · have := I.nd
    rw [eo] at this
    exact (List.reverse_perm _).nodup_iff.mpr this
  · exact I.rng x ((I.mem x).mpr (by rw [eo]; exact List.mem_reverse.mp hx))
  · have := I.last
    rw [eo] at this
    rw [List.head?_reverse]
    exact this
  · have := I.dn x (List.mem_reverse.mp hx) g hgx
    rw [I.mem, eo] at this
    exact List.mem_reverse.mpr this
  · obtain ⟨A, B, p, e1, hp, hxp⟩ := I.par x (by rw [eo]; exact List.mem_reverse.mp hx) hne
    rw [eo] at e1
    refine ⟨B.reverse, A.reverse, p, ?_, List.mem_reverse.mpr hp, hxp⟩
    rw [e1]
    simp
  · have := J.dn x (List.mem_reverse.mp hx) g hgx
    rw [eo] at this
    rcases this with h | h
    · exact .inl (rv _ _ h)
    · exact .inr (h.mono fun y hy => hy.imp id (rv _ _))
def mapSt (p : Nat → Nat) (s : Wst) : Wst := ⟨s.begun.map p, s.trail.map fun q => (p q.1, q.2), s.done.map p⟩
structure Ren (gl gl' : Nat → List Nat) (S : Nat → Prop) (p : Nat → Nat) : Prop where
  inj : ∀ x y, S x → S y → p x = p y → x = y
  gls : ∀ x, S x → gl' (p x) = (gl x).map p
  clo : ∀ x, S x → ∀ g ∈ gl x, S g
structure InS (S : Nat → Prop) (s : Wst) : Prop where
  b : ∀ x ∈ s.begun, S x
  t : ∀ q ∈ s.trail, S q.1
theorem wstep_map {gl gl' : Nat → List Nat} {S : Nat → Prop} {p : Nat → Nat} (R : Ren gl gl' S p) {s : Wst} (I : InS S s) : wstep gl' (mapSt p s) = mapSt p (wstep gl s) ∧ InS S (wstep gl s) := by
  obtain ⟨b, t, d⟩ := s
  cases t with
  | nil => exact ⟨rfl, I⟩
  | cons q t =>
    obtain ⟨h, k⟩ := q
    have hS : S h := I.t (h, k) List.mem_cons_self
    have e1 : (gl' (p h))[k]? = ((gl h)[k]?).map p := by rw [R.gls h hS, List.getElem?_map]
    cases e : (gl h)[k]? with
    | none =>
      rw [e] at e1
      rw [wstep_none e]
      refine ⟨?_, I.b, fun q hq => I.t q (List.mem_cons_of_mem _ hq)⟩
      show wstep gl' ⟨b.map p, (p h, k) :: t.map (fun q => (p q.1, q.2)), d.map p⟩ = _
      rw [wstep_none e1]
      simp [mapSt]
    | some g =>
      rw [e] at e1
      have e1 : (gl' (p h))[k]? = some (p g) := e1
      have gS : S g := R.clo h hS g (List.mem_of_getElem? e)
      have em : p g ∈ b.map p ↔ g ∈ b := by
        constructor
        · intro z
          obtain ⟨y, hy, e2⟩ := List.mem_map.mp z
          rw [← R.inj y g (I.b y hy) gS e2]
          exact hy
        · exact fun z => List.mem_map.mpr ⟨g, z, rfl⟩
      rw [wstep_some e]
      have e3 : wstep gl' (mapSt p ⟨b, (h, k) :: t, d⟩) = if p g ∈ b.map p then ⟨b.map p, (p h, k + 1) :: t.map (fun q => (p q.1, q.2)), d.map p⟩ else ⟨b.map p ++ [p g], (p g, 0) :: (p h, k + 1) :: t.map (fun q => (p q.1, q.2)), d.map p⟩ := wstep_some e1
      rw [e3]
      by_cases hg : g ∈ b
      · rw [if_pos hg, if_pos (em.mpr hg)]
        refine ⟨rfl, I.b, fun q hq => ?_⟩
        rcases List.mem_cons.mp hq with rfl | hq
        · exact hS
        · exact I.t q (List.mem_cons_of_mem _ hq)
      · rw [if_neg hg, if_neg fun z => hg (em.mp z)]
        refine ⟨by simp [mapSt], fun x hx => ?_, fun q hq => ?_⟩
        · rcases List.mem_append.mp hx with hx | hx
          · exact I.b x hx
          · rw [List.mem_singleton.mp hx]; exact gS
        · rcases List.mem_cons.mp hq with rfl | hq
          · exact gS
          rcases List.mem_cons.mp hq with rfl | hq
          · exact hS
          · exact I.t q (List.mem_cons_of_mem _ hq)
theorem wrun_map {gl gl' : Nat → List Nat} {S : Nat → Prop} {p : Nat → Nat} (R : Ren gl gl' S p) : ∀ (m : Nat) {s : Wst}, InS S s → wrun gl' m (mapSt p s) = mapSt p (wrun gl m s)
  | 0, _, _ => rfl
  | m + 1, s, I => by
    unfold wrun
    by_cases h : s.trail = []
    · have h2 : (mapSt p s).trail = [] := by simp [mapSt, h]
      rw [if_pos h, if_pos h2]
    · have h2 : ¬(mapSt p s).trail = [] := by simp [mapSt, h]
      rw [if_neg h, if_neg h2]
      obtain ⟨e, I2⟩ := wstep_map R I
      rw [e]
      exact wrun_map R m I2
theorem wrun_end {gl : Nat → List Nat} : ∀ (m : Nat) {s : Wst}, s.trail = [] → wrun gl m s = s
  | 0, _, _ => rfl
  | m + 1, s, h => by unfold wrun; rw [if_pos h]
theorem wrun_add {gl : Nat → List Nat} : ∀ (m k : Nat) {s : Wst}, wrun gl (m + k) s = wrun gl k (wrun gl m s)
  | 0, k, s => by rw [Nat.zero_add]; rfl
  | m + 1, k, s => by
    have e : m + 1 + k = (m + k) + 1 := by omega
    rw [e]
    by_cases h : s.trail = []
    · rw [wrun_end _ h, wrun_end _ h, wrun_end _ h]
    · have e1 : wrun gl (m + k + 1) s = wrun gl (m + k) (wstep gl s) := by
        show (if s.trail = [] then s else wrun gl (m + k) (wstep gl s)) = _
        rw [if_neg h]
      have e2 : wrun gl (m + 1) s = wrun gl m (wstep gl s) := by
        show (if s.trail = [] then s else wrun gl m (wstep gl s)) = _
        rw [if_neg h]
      rw [e1, e2]
      exact wrun_add m k
theorem wrun_any {gl : Nat → List Nat} {m k : Nat} {s : Wst} (h1 : (wrun gl m s).trail = []) (h2 : (wrun gl k s).trail = []) : wrun gl m s = wrun gl k s := by
  have e1 : wrun gl (m + k) s = wrun gl m s := by rw [wrun_add, wrun_end k h1]
  have e2 : wrun gl (k + m) s = wrun gl k s := by rw [wrun_add, wrun_end m h2]
  rw [← e1, ← e2, Nat.add_comm]
theorem orderAt_map {gl gl' : Nat → List Nat} {S : Nat → Prop} {p : Nat → Nat} {n n' st : Nat} (R : Ren gl gl' S p) (hS : S st) (h0 : st < n) (hg : ∀ x < n, ∀ g ∈ gl x, g < n) (h0' : p st < n') (hg' : ∀ x < n', ∀ g ∈ gl' x, g < n') :
    orderAt gl' n' (p st) = (orderAt gl n st).map p := by
  have t1 := (wrun_inv hg (WInvS.start (gl := gl) h0) (wmu_start h0)).2
  have t2 := (wrun_inv hg' (WInvS.start (gl := gl') h0') (wmu_start h0')).2
  have I : InS S ⟨[st], [(st, 0)], []⟩ := ⟨fun x hx => by rw [List.mem_singleton.mp hx]; exact hS, fun q hq => by rw [List.mem_singleton.mp hq]; exact hS⟩
  have e := wrun_map R (wfuel gl n) I
  have e2 : mapSt p ⟨[st], [(st, 0)], []⟩ = ⟨[p st], [(p st, 0)], []⟩ := rfl
  rw [e2] at e
  have t3 : (wrun gl' (wfuel gl n) ⟨[p st], [(p st, 0)], []⟩).trail = [] := by rw [e]; simp [mapSt, t1]
  have e3 := wrun_any t2 t3
  unfold orderAt
  rw [e3, e, List.map_reverse]
  rfl
theorem map_idx {os : List Nat} (nd : os.Nodup) : (os.map fun x => os.idxOf x) = List.range os.length := by
  apply List.ext_getElem
  · simp
  · intro i h1 h2
    simp only [List.length_map] at h1
    rw [List.getElem_map, List.getElem_range]
    exact nd.idxOf_getElem i h1
end
def glOf (raw : List Nd) (x : Nat) : List Nat := match raw[x]? with
  | some nd => goals nd
  | none => []
def Nd.ren (f : Nat → Nat) : Nd → Nd
  | .sum x a s b to => .sum x a s b (f to)
  | .test a s b y n => .test a s b (f y) (f n)
  | .fin => .fin
  | .spin => .spin
theorem goals_ren (f : Nat → Nat) (x : Nd) : goals (x.ren f) = (goals x).map f := by cases x <;> rfl
theorem good_ren (f : Nat → Nat) (x : Nd) : (x.ren f).good = x.good := by cases x <;> rfl
def graphAt (raw : List Nd) (st : Nat) : List Nd :=
  let os := orderAt (glOf raw) raw.length st
  os.map fun o => ((raw[o]?).getD .fin).ren fun x => os.idxOf x
/-- a graph: its ways lead within it; each node but the first has a way in from an earlier one -/
structure GOk (g : List Nd) : Prop where
  pos : 0 < g.length
  ok : ∀ x ∈ g, x.ok g.length
  good : ∀ x ∈ g, x.good = true
  par : ∀ (k : Nat), 0 < k → k < g.length → ∃ p x, p < k ∧ g[p]? = some x ∧ k ∈ goals x
  anc : ∀ k t : Nat, t ≤ k → t ∈ glOf g k → Pthv (glOf g) (fun y => t ≤ y) t k
  can : orderAt (glOf g) g.length 0 = List.range g.length
theorem nodup_get {l : List Nat} (nd : l.Nodup) {i j : Nat} (hi : i < l.length) (hj : j < l.length) (e : l[i] = l[j]) : i = j := by
  have h := List.pairwise_iff_getElem.mp nd
  rcases Nat.lt_trichotomy i j with q | q | q
  · exact absurd e (h i j hi hj q)
  · exact q
  · exact absurd e.symm (h j i hj hi q)
theorem nodup_len : ∀ {n : Nat} {os : List Nat}, os.Nodup → (∀ x ∈ os, x < n) → os.length ≤ n
  | 0, [], _, _ => Nat.le_refl _
  | 0, x :: os, _, h => absurd (h x List.mem_cons_self) (Nat.not_lt_zero _)
  | n + 1, os, nd, h => by
    have h1 := nodup_len (n := n) (os := os.filter fun x => !(x == n)) (nd.filter _) fun x hx => by
      obtain ⟨a, c⟩ := List.mem_filter.mp hx
      have := h x a
      have : x ≠ n := by simpa using c
      omega
    have h2 : os.length = (os.filter fun x => !(x == n)).length + os.count n := by
      rw [List.length_eq_countP_add_countP (fun x => !(x == n)) (l := os), List.countP_eq_length_filter]
      congr 1
      show _ = os.countP (· == n)
      congr 1
      funext x
      cases x == n <;> simp
    have h3 : os.count n ≤ 1 := List.nodup_iff_count.mp nd n
    omega
theorem graph_okAt {raw : List Nd} {st : Nat} (h0 : st < raw.length) (hr : ∀ x ∈ raw, x.ok raw.length) (hg : ∀ x ∈ raw, x.good = true) : GOk (graphAt raw st) ∧ (graphAt raw st).length ≤ raw.length := by
  have gl_lt : ∀ x < raw.length, ∀ g ∈ glOf raw x, g < raw.length := fun x hx g hgx => by
    unfold glOf at hgx
    rw [List.getElem?_eq_getElem hx] at hgx
    exact hr _ (List.getElem_mem hx) g hgx
  have O : OrdOk (glOf raw) raw.length st (orderAt (glOf raw) raw.length st) := order_ok h0 gl_lt
  generalize hos : orderAt (glOf raw) raw.length st = os at O
  have eg : graphAt raw st = os.map fun o => ((raw[o]?).getD .fin).ren fun x => os.idxOf x := by unfold graphAt; rw [hos]
  have lg : (graphAt raw st).length = os.length := by rw [eg, List.length_map]
  have glo : ∀ o ∈ os, ∃ nd, raw[o]? = some nd ∧ nd ∈ raw ∧ glOf raw o = goals nd := fun o ho => by
    have h := O.rng o ho
    refine ⟨raw[o], List.getElem?_eq_getElem h, List.getElem_mem h, ?_⟩
    unfold glOf
    rw [List.getElem?_eq_getElem h]
  have glg : ∀ y ∈ os, glOf (graphAt raw st) (os.idxOf y) = (glOf raw y).map fun x => os.idxOf x := fun y hy => by
    obtain ⟨nd, e1, _, e3⟩ := glo y hy
    have hi := List.idxOf_lt_length_iff.mpr hy
    rw [e3, ← goals_ren]
    unfold glOf
    rw [eg, List.getElem?_map, List.getElem?_eq_getElem hi, List.getElem_idxOf hi]
    show (match some (((raw[y]?).getD .fin).ren fun x => os.idxOf x) with | some nd => goals nd | none => []) = _
    rw [e1]
    rfl
  have sto : st ∈ os := List.mem_of_mem_head? (by rw [O.head]; rfl)
  have clo2 : ∀ x ∈ graphAt raw st, x.ok os.length := by
    intro x hx g hgx
    rw [eg] at hx
    obtain ⟨o, ho, rfl⟩ := List.mem_map.mp hx
    obtain ⟨nd, e1, _, e3⟩ := glo o ho
    rw [e1] at hgx
    have hgx : g ∈ goals (nd.ren fun x => os.idxOf x) := hgx
    rw [goals_ren] at hgx
    obtain ⟨y, hy, rfl⟩ := List.mem_map.mp hgx
    exact List.idxOf_lt_length_iff.mpr (O.closed o ho y (by rw [e3]; exact hy))
  refine ⟨⟨?_, ?_, ?_, ?_, ?_, ?_⟩, ?_⟩
  · rw [lg]
    cases os with
    | nil => have := O.head; simp at this
    | cons a os => simp
  · rw [lg]
    exact clo2
  · intro x hx
    rw [eg] at hx
    obtain ⟨o, ho, rfl⟩ := List.mem_map.mp hx
    obtain ⟨nd, e1, e2, _⟩ := glo o ho
    rw [e1]
    show (nd.ren _).good = true
    rw [good_ren]
    exact hg nd e2
  · intro k hk hk2
    rw [lg] at hk2
    have hx := List.getElem_mem hk2
    have h0' : os[k] ≠ st := fun z => by
      have hp : 0 < os.length := by omega
      have hh : os[0] = st := by
        have := O.head
        rw [List.head?_eq_getElem?, List.getElem?_eq_getElem hp] at this
        exact Option.some.inj this
      have := nodup_get O.nd hk2 hp (by rw [z, hh])
      omega
    obtain ⟨A, B, p, e, hp, hkp⟩ := O.par _ hx h0'
    obtain ⟨i, hi, rfl⟩ := List.mem_iff_getElem.mp hp
    have hAk : A.length = k := by
      have hAl : A.length < os.length := by rw [e]; simp
      have e2 : os[A.length] = os[k] := by
        have : os[A.length]? = some os[k] := by
          rw [show os[A.length]? = (A ++ os[k] :: B)[A.length]? from congrArg (fun l => l[A.length]?) e]
          simp
        rw [List.getElem?_eq_getElem hAl] at this
        exact Option.some.inj this
      exact nodup_get O.nd hAl hk2 e2
    have hil : i < os.length := by omega
    have ei : os[i] = A[i] := by
      have : os[i]? = some A[i] := by
        rw [show os[i]? = (A ++ os[k] :: B)[i]? from congrArg (fun l => l[i]?) e, List.getElem?_append_left hi]
        exact List.getElem?_eq_getElem hi
      rw [List.getElem?_eq_getElem hil] at this
      exact Option.some.inj this
    obtain ⟨nd, e1, _, e3⟩ := glo A[i] (by rw [← ei]; exact List.getElem_mem hil)
    refine ⟨i, nd.ren fun x => os.idxOf x, by omega, ?_, ?_⟩
    · rw [eg, List.getElem?_map, List.getElem?_eq_getElem hil, ei]
      show some (((raw[A[i]]?).getD .fin).ren _) = _
      rw [e1]
      rfl
    · rw [goals_ren]
      refine List.mem_map.mpr ⟨os[k], by rw [← e3]; exact hkp, ?_⟩
      exact O.nd.idxOf_getElem k hk2
  · intro k t hle ht
    by_cases hk : k < os.length
    · have hx := List.getElem_mem hk
      have ek : os.idxOf os[k] = k := O.nd.idxOf_getElem k hk
      have hg := glg _ hx
      rw [ek] at hg
      rw [hg] at ht
      obtain ⟨g, hgx, rfl⟩ := List.mem_map.mp ht
      rcases O.anc _ hx g hgx with h | h
      · have := idx_lt O.nd h
        omega
      · have go : ∀ z, Pthv (glOf raw) (fun y => y = g ∨ List.Sublist [g, y] os) g z → z ∈ os ∧ Pthv (glOf (graphAt raw st)) (fun y => os.idxOf g ≤ y) (os.idxOf g) (os.idxOf z) := by
          intro z hz
          induction hz with
          | self _ => exact ⟨O.closed _ hx g hgx, .self (Nat.le_refl _)⟩
          | @step a c _ m sc ih =>
            refine ⟨O.closed _ ih.1 c m, .step ih.2 (by rw [glg _ ih.1]; exact List.mem_map.mpr ⟨c, m, rfl⟩) ?_⟩
            rcases sc with rfl | sc
            · exact Nat.le_refl _
            · exact Nat.le_of_lt (idx_lt O.nd sc)
        have := (go _ h).2
        rw [ek] at this
        exact this
    · unfold glOf at ht
      rw [List.getElem?_eq_none (by rw [lg]; omega)] at ht
      cases ht
  · have R : Ren (glOf raw) (glOf (graphAt raw st)) (· ∈ os) (fun x => os.idxOf x) := ⟨fun x y hx hy e => by
      have h1 := List.getElem_idxOf (List.idxOf_lt_length_iff.mpr hx)
      have h2 := List.getElem_idxOf (List.idxOf_lt_length_iff.mpr hy)
      have e : os.idxOf x = os.idxOf y := e
      rw [← h1, ← h2]
      congr 1, glg, O.closed⟩
    have i0 : os.idxOf st = 0 := by
      have hp : 0 < os.length := by cases os with | nil => cases sto | cons a os => simp
      have hh : os[0] = st := by
        have := O.head
        rw [List.head?_eq_getElem?, List.getElem?_eq_getElem hp] at this
        exact Option.some.inj this
      have := O.nd.idxOf_getElem 0 hp
      rw [hh] at this
      exact this
    have h0' : os.idxOf st < os.length := List.idxOf_lt_length_iff.mpr sto
    have := orderAt_map (n' := os.length) R sto h0 gl_lt h0' fun x hx g hgx => by
      unfold glOf at hgx
      rw [List.getElem?_eq_getElem (by rw [lg]; exact hx)] at hgx
      exact clo2 _ (List.getElem_mem _) g hgx
    rw [hos, map_idx O.nd] at this
    rw [lg, ← this]
    show _ = orderAt (glOf (graphAt raw st)) os.length (os.idxOf st)
    rw [i0]
  · rw [lg]
    exact nodup_len O.nd O.rng
end VL
namespace VL
open PySem PySem.Spec PyProof.Rows L2 VL
theorem script_fz (ns : List Int) : isFz (scriptD ns) = true := by show (!false && isFzL (ns.map D.int)) = true; rw [isFzL_all]; simp [isFz]
theorem script_len {ns : List Int} {Q : D → Prop} : sLen [scriptD ns] Q ↔ Q (.int ns.length) := by unfold scriptD; rw [e_lenL, List.length_map]
theorem ints_inj {a b : List Int} (h : a.map D.int = b.map D.int) : a = b := (List.map_inj_right (fun _ _ h => D.int.inj h)).mp h
def natsD (xs : List Nat) : List D := xs.map fun k : Nat => D.int (k : Int)
theorem natsD_fz (xs : List Nat) : isFzL (natsD xs) = true := by unfold natsD; rw [isFzL_all]; simp [isFz]
theorem natsD_frz (xs : List Nat) : frzL (natsD xs) = natsD xs := by
  rw [frzL_map]
  unfold natsD
  rw [List.map_map]
  rfl
theorem natsD_len (xs : List Nat) : (natsD xs).length = xs.length := by unfold natsD; rw [List.length_map]
theorem nd_inj : ∀ {x y : Nd}, ndD x = ndD y → x = y := by
  intro x y h
  have h := D.tup.inj h
  have op : ∀ {a b : Opd}, opD a = opD b → a = b := fun {a b} h => by cases a <;> cases b <;> simp only [opD, D.int.injEq, D.str.injEq, reduceCtorEq] at h <;> rw [h]
  cases x <;> cases y <;> simp only [ndL, List.cons.injEq, D.str.injEq, D.int.injEq, reduceCtorEq, and_true, List.cons.injEq, Nat.reduceEqDiff, false_and, and_false, List.nil_eq, List.cons_ne_nil, true_and] at h
  · obtain ⟨h1, h2, h3, h4, h5⟩ := h
    rw [h1, op h2, h3, op h4, show _ = _ from Int.ofNat.inj h5]
  · obtain ⟨h2, h3, h4, h5, h6⟩ := h
    rw [op h2, h3, op h4, show _ = _ from Int.ofNat.inj h5, show _ = _ from Int.ofNat.inj h6]
  · rfl
  · rfl
theorem tyOk_L {m : Bool} {xs : List D} : tyOk "list" (.lst m xs) = true := rfl
theorem e_pop {ds : List D} {y : D} {P : List D → D → Prop} : (∃ ds' res, muPop (ds ++ [y]) [] = some (ds', res) ∧ P ds' res) ↔ P ds y := by
  have h : muPop (ds ++ [y]) [] = some (ds, y) := by
    show (((ds ++ [y])[(ds ++ [y]).length - 1]?).map fun z => ((ds ++ [y]).dropLast, z)) = _
    simp
  rw [h]
  exact ⟨fun ⟨_, _, e, p⟩ => by cases e; exact p, fun p => ⟨_, _, rfl, p⟩⟩
theorem names1 {i : Nat} {a : D} {ε : Ep} {Q : Ep → Prop} : vNames [i] (.tup [a]) ε Q ↔ i < ε.length ∧ Q (ε.set i (some a)) :=
  ⟨fun ⟨_, e, _, h, q⟩ => by cases e; exact ⟨h i (by simp), q⟩, fun ⟨h, q⟩ => ⟨_, rfl, rfl, fun j hj => by simp at hj; subst hj; exact h, q⟩⟩
theorem names2 {i j : Nat} {a b : D} {ε : Ep} {Q : Ep → Prop} : vNames [i, j] (.tup [a, b]) ε Q ↔ i < ε.length ∧ j < ε.length ∧ Q ((ε.set i (some a)).set j (some b)) :=
  ⟨fun ⟨_, e, _, h, q⟩ => by cases e; exact ⟨h i (by simp), h j (by simp), q⟩, fun ⟨h, h2, q⟩ => ⟨_, rfl, rfl, fun j hj => by simp at hj; rcases hj with rfl | rfl <;> assumption, q⟩⟩
theorem names3 {i j k : Nat} {a b c : D} {ε : Ep} {Q : Ep → Prop} : vNames [i, j, k] (.tup [a, b, c]) ε Q ↔ i < ε.length ∧ j < ε.length ∧ k < ε.length ∧ Q (((ε.set i (some a)).set j (some b)).set k (some c)) :=
  ⟨fun ⟨_, e, _, h, q⟩ => by cases e; exact ⟨h i (by simp), h j (by simp), h k (by simp), q⟩, fun ⟨h, h2, h3, q⟩ => ⟨_, rfl, rfl, fun j hj => by simp at hj; rcases hj with rfl | rfl | rfl <;> assumption, q⟩⟩
theorem ix_at {xs : List D} {k : Nat} {d : D} (h : xs[k]? = some d) (z : isFz d = true) {n : Nat} (hn : xs.length = n) {P : D → Prop} : (∃ d, ((ixN n (k : Int)).bind fun j => xs[j]?) = some d ∧ isFz d = true ∧ P d) ↔ P d := by
  have hk := (List.getElem?_eq_some_iff.mp h).1
  rw [ixN_nat (by omega)]
  show (∃ d, xs[k]? = some d ∧ isFz d = true ∧ P d) ↔ P d
  rw [h]
  exact ⟨fun ⟨_, e, _, p⟩ => by cases e; exact p, fun p => ⟨_, rfl, z, p⟩⟩
theorem ix_nds {raw : List Nd} {k : Nat} {x : Nd} (h : raw[k]? = some x) {P : D → Prop} : (∃ d, ((ixN raw.length (k : Int)).bind fun j => (raw.map ndD)[j]?) = some d ∧ isFz d = true ∧ P d) ↔ P (ndD x) :=
  ix_at (by rw [List.getElem?_map, h]; rfl) (isFz_nd x) (by simp)
theorem ix_nats {xs : List Nat} {k g : Nat} (h : xs[k]? = some g) {P : D → Prop} : (∃ d, ((ixN xs.length (k : Int)).bind fun j => (natsD xs)[j]?) = some d ∧ isFz d = true ∧ P d) ↔ P (.int (g : Int)) :=
  ix_at (by unfold natsD; rw [List.getElem?_map, h]; rfl) rfl (natsD_len xs)
theorem any_nats {b : List Nat} {g : Nat} : ((natsD b).any fun y => deq y (.int (g : Int))) = decide (g ∈ b) := by
  unfold natsD
  rw [List.any_map, Bool.eq_iff_iff, List.any_eq_true, decide_eq_true_iff]
  constructor
  · rintro ⟨x, hx, h⟩
    have h : deq (.int (x : Int)) (.int (g : Int)) = true := h
    rw [deq_i, decide_eq_true_iff] at h
    have : x = g := by omega
    rw [← this]; exact hx
  · intro h
    exact ⟨g, h, by show deq (.int (g : Int)) (.int (g : Int)) = true; rw [deq_i]; simp⟩
theorem natsD_flat (b : List Nat) : (natsD b).all flatD = true := by unfold natsD; rw [List.all_map]; simp [flatD]
theorem mem_nats {m : Bool} {b : List Nat} {g : Nat} : memD (.int (g : Int)) (.lst m (natsD b)) = some (decide (g ∈ b)) := by
  show (if (flatD (.int (g : Int)) && (natsD b).all flatD) = true then some ((natsD b).any fun y => deq y (.int (g : Int))) else _) = _
  rw [if_pos (by rw [natsD_flat]; rfl), any_nats]
theorem vmem_nats {m : Bool} {b : List Nat} {g : Nat} {P : Bool → Prop} : (∃ r, memD (.int (g : Int)) (.lst m (natsD b)) = some r ∧ P r) ↔ P (decide (g ∈ b)) := by
  rw [mem_nats]
  exact ⟨fun ⟨_, e, p⟩ => by cases e; exact p, fun p => ⟨_, rfl, p⟩⟩
theorem natsD_app (a : List Nat) (k : Nat) : natsD a ++ [.int (k : Int)] = natsD (a ++ [k]) := by unfold natsD; simp
theorem natsD_rev (a : List Nat) : (natsD a).reverse = natsD a.reverse := by unfold natsD; rw [List.map_reverse]
theorem cutL_take {α : Type} (xs : List α) (k : Nat) : cutL xs none (some (no_index (OfNat.ofNat k))) = xs.take k := by
  show (xs.drop 0).take (HT.sIx xs.length xs.length (some ((k : Nat) : Int)) - 0) = _
  rw [HT.sIx_nat, List.drop_zero, Nat.sub_zero]
  by_cases h : k ≤ xs.length
  · rw [Nat.min_eq_left h]
  · rw [Nat.min_eq_right (by omega), List.take_length, List.take_of_length_le (by omega)]
theorem cutL_drop {α : Type} (xs : List α) (k : Nat) : cutL xs (some (no_index (OfNat.ofNat k))) none = xs.drop k := by
  show (xs.drop (HT.sIx xs.length 0 (some ((k : Nat) : Int)))).take (xs.length - HT.sIx xs.length 0 (some ((k : Nat) : Int))) = _
  rw [HT.sIx_nat]
  by_cases h : k ≤ xs.length
  · rw [Nat.min_eq_left h, List.take_of_length_le (by simp)]
  · rw [Nat.min_eq_right (by omega), List.drop_length, List.drop_of_length_le (by omega)]
    simp
theorem frz_op (a : Opd) : frz (opD a) = opD a := by cases a <;> rfl
section
variable {own : List Nat} {g : VTG} {tt : VTT} {te te' : VTE} {d : D} {ds acc : List D} {ε : Ep} {Q : List D → Ep → Prop}
theorem e_lcU (h : te = te') : vLcL own g tt te (d :: ds) acc ε Q ↔ g d ε fun ε1 => tt noX ε1 fun c ε2 => if c = true then te' noX ε2 fun y ε3 => acc.length < 1000000 ∧ vLcL own g tt te ds (acc ++ [y]) (forgetE own ε3) Q else vLcL own g tt te ds acc (forgetE own ε2) Q := by subst h; exact Iff.rfl
theorem rng0 (n : Nat) : rng 0 n = (List.range n).map fun k : Nat => D.int (k : Int) := by
  unfold rng
  exact List.map_congr_left fun k _ => by rw [Int.zero_add]
theorem rngN (n : Nat) : rng 0 n = natsD (List.range n) := rng0 n
end
mutual
/-- plain data that stands still, nested to depth n at most, of short lists -/
def plD : Nat → D → Bool
  | _, .non => true
  | _, .bl _ => true
  | _, .int _ => true
  | _, .str _ => true
  | n + 1, .tup xs => decide (xs.length < 1000000) && plDL n xs
  | n + 1, .lst m xs => !m && (decide (xs.length < 1000000) && plDL n xs)
  | _, _ => false
def plDL : Nat → List D → Bool
  | _, [] => true
  | n, d :: ds => plD n d && plDL n ds
end
theorem plDL_all : ∀ (n : Nat) (ds : List D), plDL n ds = ds.all (plD n)
  | _, [] => by rw [plDL]; rfl
  | n, d :: ds => by rw [plDL, plDL_all n ds, List.all_cons]
theorem plD_fz : ∀ (n : Nat) (d : D), plD n d = true → isFz d = true := by
  intro n
  induction n with
  | zero => intro d h; cases d <;> first | rfl | (simp [plD] at h; done)
  | succ n ih =>
    have l : ∀ xs, plDL n xs = true → isFzL xs = true := fun xs h => by
      rw [plDL_all] at h
      rw [isFzL_all]
      exact List.all_eq_true.mpr fun x hx => ih x (List.all_eq_true.mp h x hx)
    intro d h
    cases d with
    | tup xs => exact l xs (by simp [plD] at h; exact h.2)
    | lst m xs =>
      cases m with
      | true => simp [plD] at h
      | false => show (!false && isFzL xs) = true; rw [l xs (by simp [plD] at h; exact h.2)]; rfl
    | _ => first | rfl | (simp [plD] at h; done)
theorem plDL_fz {n : Nat} {xs : List D} (h : plDL n xs = true) : isFzL xs = true := by
  rw [plDL_all] at h
  rw [isFzL_all]
  exact List.all_eq_true.mpr fun x hx => plD_fz n x (List.all_eq_true.mp h x hx)
theorem pl_op (n : Nat) (a : Opd) : plD n (opD a) = true := by cases a <;> cases n <;> rfl
theorem pl_nd (n : Nat) (x : Nd) : plD (n + 1) (ndD x) = true := by
  show (decide ((ndL x).length < 1000000) && plDL n (ndL x)) = true
  have : plDL n (ndL x) = true := by
    rw [plDL_all]
    cases x <;> simp only [ndL, List.all_cons, List.all_nil, Bool.and_true, Bool.and_eq_true, pl_op, and_true, true_and]
    · refine ⟨?_, ?_, ?_, ?_⟩ <;> cases n <;> rfl
    · refine ⟨?_, ?_, ?_, ?_⟩ <;> cases n <;> rfl
    · cases n <;> rfl
    · cases n <;> rfl
  rw [this]
  cases x <;> rfl
theorem pl_nds (n : Nat) {g : List Nd} (h : g.length < 1000000) : plD (n + 2) (.lst false (g.map ndD)) = true := by
  show (!false && (decide ((g.map ndD).length < 1000000) && plDL (n + 1) (g.map ndD))) = true
  rw [plDL_all, List.all_map, List.length_map]
  simp only [h, decide_true, Bool.true_and, Bool.not_false]
  exact List.all_eq_true.mpr fun x _ => pl_nd n x
end VL
namespace VL
open PySem PySem.Spec PyProof.Rows L2 VL
def rowsD (n : Nat) (r : Nat → List Nat) : List D := (List.range n).map fun t => .lst true (natsD (r t))
def rowsF (n : Nat) (r : Nat → List Nat) : List D := (List.range n).map fun t => .lst false (natsD (r t))
section
variable {n t k : Nat} {r : Nat → List Nat}
theorem rowsD_len : (rowsD n r).length = n := by simp [rowsD]
theorem rowsF_len : (rowsF n r).length = n := by simp [rowsF]
theorem frz_rows : frzL (rowsD n r) = rowsF n r := by
  rw [frzL_map]
  unfold rowsD rowsF
  rw [List.map_map]
  exact List.map_congr_left fun t _ => by show D.lst false (frzL (natsD (r t))) = _; rw [natsD_frz]
theorem rowsF_fz : isFzL (rowsF n r) = true := by rw [isFzL_all]; simp [rowsF, isFz, natsD_fz]
end
theorem goals_len (x : Nd) : (goals x).length ≤ 2 := by cases x <;> simp [goals]
theorem seqD_l {m : Bool} {xs : List D} : VL.seqD (.lst m xs) = some xs := rfl
theorem seqD_t {xs : List D} : VL.seqD (.tup xs) = some xs := rfl
theorem listD_l {m : Bool} {xs : List D} : listD (.lst m xs) = some xs := rfl
theorem listD_t {xs : List D} : listD (.tup xs) = some xs := rfl
theorem deq_ll {m n : Bool} {xs ys : List D} : deq (.lst m xs) (.lst n ys) = deqL xs ys := rfl
theorem frz_rowsF {n : Nat} {r : Nat → List Nat} : frzL (rowsF n r) = rowsF n r := frzL_id rowsF_fz
theorem frzL_len {xs : List D} : (frzL xs).length = xs.length := by rw [frzL_map, List.length_map]
theorem ite_no {c : Prop} {i : Decidable c} {a b : Prop} (h : ¬c) (q : b) : @ite Prop c i a b := by rw [if_neg h]; exact q
theorem nats_ok (m : Bool) (xs : List Nat) : okD 64 (.lst m (natsD xs)) = true := by
  show okDL 63 (natsD xs) = true
  rw [okDL_all]
  unfold natsD
  rw [List.all_map]
  exact List.all_eq_true.mpr fun x _ => rfl
theorem eqOk_nn {m n : Bool} {xs ys : List Nat} : eqOk (.lst m (natsD xs)) (.lst n (natsD ys)) ↔ True := ⟨fun _ => trivial, fun _ => .inr ⟨nats_ok m xs, nats_ok n ys⟩⟩
theorem eqOk_n0 {m n : Bool} {xs : List Nat} : eqOk (.lst m (natsD xs)) (.lst n []) ↔ True := ⟨fun _ => trivial, fun _ => .inr ⟨nats_ok m xs, rfl⟩⟩
theorem deqL_n0 {xs : List Nat} : deqL (natsD xs) [] = xs.isEmpty := by cases xs <;> rfl
theorem deqL_nn : ∀ {xs ys : List Nat}, deqL (natsD xs) (natsD ys) = decide (xs = ys)
  | [], [] => rfl
  | [], y :: ys => rfl
  | x :: xs, [] => rfl
  | x :: xs, y :: ys => by
    show (deq (.int (x : Int)) (.int (y : Int)) && deqL (natsD xs) (natsD ys)) = _
    rw [deq_i, deqL_nn, Bool.eq_iff_iff, Bool.and_eq_true, decide_eq_true_iff, decide_eq_true_iff, decide_eq_true_iff, List.cons.injEq]
    constructor
    · rintro ⟨h1, h2⟩; exact ⟨by omega, h2⟩
    · rintro ⟨rfl, rfl⟩; exact ⟨rfl, rfl⟩
end VL
namespace VL
open PySem PySem.Spec PyProof.Rows L2 VL
abbrev cJump : Cs := [106, 117, 109, 112]
theorem ndD_sum {x : Cs} {a : Opd} {s : Cs} {b : Opd} {to : Nat} : ndD (.sum x a s b to) = .tup [.str cSum, .str x, opD a, .str s, opD b, .int (to : Int)] := rfl
theorem ndD_test {a : Opd} {s : Cs} {b : Opd} {y n : Nat} : ndD (.test a s b y n) = .tup [.str cTest, opD a, .str s, opD b, .int (y : Int), .int (n : Int)] := rfl
theorem ndD_fin : ndD .fin = .tup [.str cEnd] := rfl
theorem ndD_spin : ndD .spin = .tup [.str cSpin] := rfl
end VL
namespace VL
open PySem PySem.Spec PyProof.Rows L2 VL
section
variable {K : PySem.W.Frag} {G H : Hp}
theorem ints_vs : ∀ {ns : List Int} {vs : List V} {F : List Addr}, RpL K G H (ns.map D.int) vs F → vs = ns.map V.int
  | [], vs, F, r => by obtain ⟨rfl, _⟩ := r; rfl
  | n :: ns, vs, F, r => by
    obtain ⟨v, vs', F1, F2, rfl, rfl, ⟨rfl, _⟩, rs⟩ := r
    rw [ints_vs rs]
    rfl
theorem natsD_ints (xs : List Nat) : natsD xs = (xs.map fun k : Nat => (k : Int)).map D.int := by unfold natsD; rw [List.map_map]; rfl
end
inductive Rch (f : Nat → List Nat) (o : Nat) : Nat → Prop
  | zero : o ≠ 0 → Rch f o 0
  | step {k t : Nat} : Rch f o k → t ∈ f k → t ≠ o → Rch f o t
structure Gf (f : Nat → List Nat) (n : Nat) : Prop where
  pos : 0 < n
  clo : ∀ k < n, ∀ t ∈ f k, t < n
  par : ∀ k, 0 < k → k < n → ∃ p, p < k ∧ k ∈ f p
section
variable {f : Nat → List Nat} {n : Nat}
theorem Rch.ne {o k : Nat} (h : Rch f o k) : k ≠ o := by
  cases h with
  | zero h => exact fun e => h e.symm
  | step _ _ h => exact h
theorem Rch.lt (G : Gf f n) {o k : Nat} (h : Rch f o k) : k < n := by
  induction h with
  | zero _ => exact G.pos
  | step _ ht _ ih => exact G.clo _ ih _ ht
theorem Rch.no0 {k : Nat} : ¬Rch f 0 k := fun h => by
  induction h with
  | zero h => exact h rfl
  | step _ _ _ ih => exact ih
theorem rch_below (G : Gf f n) {o : Nat} : ∀ k, k < n → k < o → Rch f o k := by
  intro k
  induction k using Nat.strongRecOn with
  | ind k ih =>
    intro hk ho
    by_cases h0 : k = 0
    · subst h0; exact .zero (by omega)
    · obtain ⟨p, hp, hm⟩ := G.par k (by omega) hk
      exact .step (ih p hp (by omega) (by omega)) hm (by omega)
/-- o stands on each way to k -/
def Dm (f : Nat → List Nat) (o k : Nat) : Prop := ¬Rch f o k
theorem Dm.self (k : Nat) : Dm f k k := fun h => h.ne rfl
theorem Dm.zero (k : Nat) : Dm f 0 k := Rch.no0
theorem Dm.le (G : Gf f n) {o k : Nat} (hk : k < n) (h : Dm f o k) : o ≤ k := by
  by_cases e : k < o
  · exact absurd (rch_below G k hk e) h
  · omega
theorem Dm.trans {a b k : Nat} (h1 : Dm f a b) (h2 : Dm f b k) : Dm f a k := fun h => by
  have : ∀ k, Rch f a k → Rch f b k ∨ Rch f a b := fun k h => by
    induction h with
    | zero h =>
      by_cases e : b = 0
      · subst e; exact .inr (.zero h)
      · exact .inl (.zero e)
    | @step k t hk ht hne ih =>
      rcases ih with ih | ih
      · by_cases e : t = b
        · subst e; exact .inr (.step hk ht hne)
        · exact .inl (.step ih ht e)
      · exact .inr ih
  rcases this k h with h | h
  · exact h2 h
  · exact h1 h
/-- the last of those that stand on each way to k, k apart -/
structure IsId (f : Nat → List Nat) (k z : Nat) : Prop where
  dm : Dm f z k
  lt : z < k
  last : ∀ o, Dm f o k → o ≠ k → o ≤ z
theorem IsId.uniq {k y z : Nat} (h1 : IsId f k y) (h2 : IsId f k z) : y = z := by
  have a := h1.last z h2.dm (by have := h2.lt; omega)
  have b := h2.last y h1.dm (by have := h1.lt; omega)
  omega
structure IsTree (f : Nat → List Nat) (n : Nat) (ts : List (Option Nat)) : Prop where
  len : ts.length = n
  zero : ts[0]? = some none
  id : ∀ k, 0 < k → k < n → ∃ z, ts[k]? = some (some z) ∧ IsId f k z
theorem IsTree.uniq {ts us : List (Option Nat)} (h1 : IsTree f n ts) (h2 : IsTree f n us) : ts = us := by
  apply List.ext_getElem?
  intro i
  by_cases hi : i < n
  · by_cases h0 : i = 0
    · subst h0; rw [h1.zero, h2.zero]
    · obtain ⟨y, e1, i1⟩ := h1.id i (by omega) hi
      obtain ⟨z, e2, i2⟩ := h2.id i (by omega) hi
      rw [e1, e2, i1.uniq i2]
  · rw [List.getElem?_eq_none (by rw [h1.len]; omega), List.getElem?_eq_none (by rw [h2.len]; omega)]
/-- up a tree -/
inductive Abv (ts : List (Option Nat)) (o : Nat) : Nat → Prop
  | self : Abv ts o o
  | up {k j : Nat} : ts[k]? = some (some j) → Abv ts o j → Abv ts o k
end
/-- each one's upper is smaller -/
def TLt (ts : List (Option Nat)) : Prop := ∀ k j : Nat, ts[k]? = some (some j) → j < k
end VL
namespace VL
open PySem PySem.Spec PyProof.Rows L2 VL
def SetK (ts : List (Option Nat)) (k : Nat) : Prop := k = 0 ∨ ∃ j, ts[k]? = some (some j)
/-- a way from j to k, on nodes from j on -/
inductive Pth (f : Nat → List Nat) (j : Nat) : Nat → Prop
  | refl : Pth f j j
  | step {a b : Nat} : Pth f j a → b ∈ f a → j ≤ b → Pth f j b
theorem Pth.le {f : Nat → List Nat} {j k : Nat} (h : Pth f j k) : j ≤ k := by
  cases h with
  | refl => exact Nat.le_refl _
  | step _ _ h => exact h
theorem Pth.trans {f : Nat → List Nat} {i j k : Nat} (h1 : Pth f i j) (h2 : Pth f j k) : Pth f i k := by
  induction h2 with
  | refl => exact h1
  | step _ hb hj ih => exact .step ih hb (Nat.le_trans h1.le hj)
theorem Pth.rch {f : Nat → List Nat} {o j k : Nat} (h : Pth f j k) (ho : o < j) (r : Rch f o j) : Rch f o k := by
  induction h with
  | refl => exact r
  | step _ hb hj ih => exact .step ih hb (by omega)
/-- a way from 0 to k without o, with fewer than r steps that do not lead on -/
inductive Rn (f : Nat → List Nat) (o : Nat) : Nat → Nat → Prop
  | zero {r : Nat} : o ≠ 0 → Rn f o (r + 1) 0
  | fwd {r p t : Nat} : Rn f o r p → t ∈ f p → t ≠ o → p < t → Rn f o r t
  | back {r p t : Nat} : Rn f o r p → t ∈ f p → t ≠ o → Rn f o (r + 1) t
section
variable {f : Nat → List Nat} {n : Nat}
theorem Rn.up {o k r : Nat} (h : Rn f o r k) : Rn f o (r + 1) k := by
  induction h with
  | zero h => exact .zero h
  | fwd _ a b c ih => exact .fwd ih a b c
  | back _ a b ih => exact .back ih a b
theorem Rn.le {o k r s : Nat} (h : Rn f o r k) (hs : r ≤ s) : Rn f o s k := by
  induction hs with
  | refl => exact h
  | step _ ih => exact ih.up
theorem Rn.rch {o k r : Nat} (h : Rn f o r k) : Rch f o k := by
  induction h with
  | zero h => exact .zero h
  | fwd _ a b _ ih => exact .step ih a b
  | back _ a b ih => exact .step ih a b
theorem Rn.ne {o k r : Nat} (h : Rn f o r k) : k ≠ o := h.rch.ne
theorem Abv.trans {ts : List (Option Nat)} {a b c : Nat} (h1 : Abv ts a b) (h2 : Abv ts b c) : Abv ts a c := by
  induction h2 with
  | self => exact h1
  | up e _ ih => exact .up e ih
theorem Abv.le {ts : List (Option Nat)} (T : TLt ts) {o k : Nat} (h : Abv ts o k) : o ≤ k := by
  induction h with
  | self => exact Nat.le_refl _
  | up e _ ih => have := T _ _ e; omega
section
variable {ts : List (Option Nat)} {k m : Nat}
theorem get_set {x y : Nat} (e : x ≠ k) (h : ts[x]? = some (some y)) : (ts.set k (some m))[x]? = some (some y) := by
  rw [List.getElem?_set_ne (fun z => e z.symm)]
  exact h
theorem SetK.set {x : Nat} (h : SetK ts x) : SetK (ts.set k (some m)) x := by
  rcases h with h | ⟨j, h⟩
  · exact .inl h
  · by_cases e : x = k
    · subst e
      exact .inr ⟨m, by rw [List.getElem?_set_self (List.getElem?_eq_some_iff.mp h).1]⟩
    · exact .inr ⟨j, get_set e h⟩
end
end
theorem SetK.iff {ts : List (Option Nat)} {k : Nat} {x : Option Nat} (h : ts[k]? = some x) : SetK ts k ↔ k = 0 ∨ x ≠ none := by
  unfold SetK
  rw [h]
  constructor
  · rintro (a | ⟨j, a⟩)
    · exact .inl a
    · cases a; exact .inr (fun z => nomatch z)
  · rintro (a | a)
    · exact .inl a
    · cases x with
      | none => exact absurd rfl a
      | some j => exact .inr ⟨j, rfl⟩
end VL
namespace VL
open PySem PySem.Spec PyProof.Rows L2 VL
section
variable {prog : Program} {w : World} {A : Around} {E : Value → Shared → Prop} {s : Shared}
section
variable {I S : Addr} {fp wr : List Addr} {G : Array GenState → Array GenState → Prop} {n : Nat} {P : Nat → Value → Prop} {St : Nat → Shared → Prop} {R : Result → Shared → Prop} {T : String}
abbrev FinR (prog : Program) (w : World) (A : Around) (R : Result → Shared → Prop) : Fin → Shared → Prop := fun fin s' => match fin with | .done f => R (.ok f) s' | .again c' => c'.quiet = true ∧ codeAny (model prog w) A c' R s'
theorem fed_loop (W : WalksS prog w A.in1 I fp wr G n P St) {c0 : Nat} (st : St 0 s) (hSf : S ∉ fp) (hS : s.heap.get? S = some { cls := .type "list", data := .seq #[] c0 }) (hn : n ≤ sizeLine)
    (hR : ∀ s' acc' c', Moved (S :: wr) G s s' → s'.heap.get? S = some { cls := .type "list", dict := none, data := .seq acc' c', slots := #[] } → ItemsOf P acc' n → R (.ok (.ret .none)) s') :
    FinR prog w A R (.again (.builtin "list.extend.loop" ⟨[.ref S, .ref I, .none], []⟩)) s :=
  ⟨plainId_quiet F.plain_extend_loop _, codeAny_extend_loopS W hn S hSf .none n 0 s #[] c0 rfl (Nat.zero_le n) st hS (ItemsOf.nil P) hR⟩
theorem fed_touch (W : WalksS prog w A.in1 I fp wr G n P St) {c0 : Nat} (st : St 0 s) (hSf : S ∉ fp) (hS : s.heap.get? S = some { cls := .type "list", data := .seq #[] c0 }) {Q : Unit → Shared → Prop} {E : Value → Shared → Prop}
    (k : ∀ (h' : Heap) (c1 : Nat), St 0 { s with heap := h' } → h'.get? S = some { cls := .type "list", data := .seq #[] c1 } → (∀ b o, b ≠ S → s.heap.get? b = some o → h'.get? b = some o) → Q () { s with heap := h' }) :
    wpAny (model prog w) A.in1 (Builtin.List.listTouch (.ref S)) Q E s := by
  show wpAny _ A.in1 (updateSeq S (·.push .none) >>= fun _ => updateSeq S (·.pop)) Q E s
  have g1 := Heap.get?_update_self (Obj.mapSeq (·.push Value.none)) hS rfl
  have g2 := Heap.get?_update_self (Obj.mapSeq (·.pop)) g1 rfl
  have old : ∀ b o, b ≠ S → s.heap.get? b = some o → ((s.heap.update S (Obj.mapSeq (·.push Value.none))).update S (Obj.mapSeq (·.pop))).get? b = some o := fun b o hb e => by
    rw [Heap.get?_update_other _ _ (Ne.symm hb), Heap.get?_update_other _ _ (Ne.symm hb)]
    exact e
  refine wpAny_bind (wpAny_updateSeq hS rfl (wpAny_updateSeq (hz := by seq_fits) g1 rfl ?_))
  exact k _ _ (W.frame 0 s _ s.toks st (Nat.le_refl _) fun b hb o e => old b o (fun z => hSf (z ▸ hb)) e) g2 old
/-- the new list, empty, fed by an iterator that walks -/
theorem fed_list {c0 : Nat} (W : WalksS prog w A.in1 I fp wr G n P St) (ty : s.TypeIs (.ref I) T) (t1 : (Value.type T == Value.type "list") = false) (t2 : (Value.type T == Value.type "tuple") = false) (ne : S ≠ I)
    (hint : ∀ (Q : Bool → Shared → Prop) (E : Value → Shared → Prop), (∀ (b : Bool) (tk : Nat), s.toks ≤ tk → Q b { s with toks := tk }) → wpAny (model prog w) A.in1 (Builtin.List.listLengthHint (.ref I)) Q E s)
    (st : St 0 s) (hSf : S ∉ fp) (hS : s.heap.get? S = some { cls := .type "list", data := .seq #[] c0 }) (hn : n ≤ sizeLine)
    (hR : ∀ s' acc' c', Moved (S :: wr) G s s' → s'.heap.get? S = some { cls := .type "list", dict := none, data := .seq acc' c', slots := #[] } → ItemsOf P acc' n → R (.ok (.ret .none)) s') :
    wpAny (model prog w) A.in1 (Builtin.List.listExtendWith (.ref S) (.ref I) .none) (FinR prog w A R) (fun e s' => R (.error e) s') s := by
  have sr : Builtin.List.listSameRef (.ref S) (.ref I) = false := by simp [Builtin.List.listSameRef, ne]
  unfold Builtin.List.listExtendWith
  refine wpAny_bind (wpAny_typeOf ty ?_)
  rw [if_neg (by rw [sr, t1, t2]; decide)]
  refine wpAny_bind (W.self 0 _ _ _ st (wpAny_bind (wpAny_holding (hint _ _ fun b tk htk => ?_))))
  have st2 : St 0 { s with toks := tk } := W.frame 0 s s.heap tk st htk fun _ _ _ e => e
  have mv : ∀ {h' : Heap} {s' : Shared}, (∀ b o, b ≠ S → s.heap.get? b = some o → h'.get? b = some o) → Moved (S :: wr) G { s with heap := h', toks := tk } s' → Moved (S :: wr) G s s' := fun old m =>
    Moved.trans W.gtrans ((Moved.refl W.grefl).then_heap htk fun b o hb e => old b o (fun z => hb (z ▸ List.mem_cons_self)) e) m
  dsimp only
  split
  · refine wpAny_bind (wpAny_rule (wpAny_bind (fed_touch (s := { s with toks := tk }) W st2 hSf hS fun h' c1 st3 hS3 old => ?_)))
    exact wpAny_pure (fed_loop (s := { s with heap := h', toks := tk }) W st3 hSf hS3 hn fun s' acc' c' m hS' ha => hR s' acc' c' (mv old m) hS' ha)
  · exact wpAny_pure (fed_loop (s := { s with toks := tk }) W st2 hSf hS hn fun s' acc' c' m hS' ha => hR s' acc' c' (mv (h' := s.heap) (fun _ _ _ e => e) m) hS' ha)
end
theorem fed_init {I S : Addr} {fp wr : List Addr} {G : Array GenState → Array GenState → Prop} {n : Nat} {P : Nat → Value → Prop} {St : Nat → Shared → Prop} {R : Result → Shared → Prop} {T : String}
    (W : WalksS prog w A.in1 I fp wr G n P St) (ty : s.TypeIs (.ref I) T) (t1 : (Value.type T == Value.type "list") = false) (t2 : (Value.type T == Value.type "tuple") = false) (ne : S ≠ I)
    (hint : ∀ (s : Shared) (Q : Bool → Shared → Prop) (E : Value → Shared → Prop), St 0 s → s.TypeIs (.ref I) T → (∀ (b : Bool) (tk : Nat), s.toks ≤ tk → Q b { s with toks := tk }) → wpAny (model prog w) A.in1 (Builtin.List.listLengthHint (.ref I)) Q E s)
    (st : St 0 s) (hSf : S ∉ fp) (hI : I ∈ fp) (hS : s.heap.get? S = some { cls := .type "list", data := .seq #[] }) (hn : n ≤ sizeLine)
    (hR : ∀ s' acc' c', Moved (S :: wr) G s s' → s'.heap.get? S = some { cls := .type "list", dict := none, data := .seq acc' c', slots := #[] } → ItemsOf P acc' n → R (.ok (.ret .none)) s') :
    wpAny (model prog w) A.in1 (Builtin.«list.__init__» ⟨[.ref S, .ref I], []⟩) (FinR prog w A R) (fun e s' => R (.error e) s') s := by
  show wpAny _ A.in1 (Builtin.List.listItems (.ref S) >>= fun old => Builtin.List.listUpdate (.ref S) (fun _ => #[]) >>= fun _ => letGo old.toList.reverse >>= fun _ => Builtin.List.listExtendWith (.ref S) (.ref I) .none) _ _ s
  have hN := hS
  refine wpAny_bind ?_
  unfold Builtin.List.listItems
  refine wpAny_bind (wpAny_seqItems hN rfl (wpAny_pure ?_))
  have g1 := Heap.get?_update_self (Obj.mapSeq (fun _ => (#[] : Array Value))) hS rfl
  have old : ∀ b o, b ≠ S → s.heap.get? b = some o → (s.heap.update S (Obj.mapSeq (fun _ => (#[] : Array Value)))).get? b = some o := fun b o hb e => by
    rw [Heap.get?_update_other _ _ (Ne.symm hb)]
    exact e
  show wpAny _ A.in1 (updateSeq S (fun _ => #[]) >>= _) _ _ s
  refine wpAny_bind (wpAny_updateSeq hS rfl (wpAny_bind (wpAny_letGo ?_)))
  have st2 : St 0 { s with heap := s.heap.update S (Obj.mapSeq (fun _ => (#[] : Array Value))) } := W.frame 0 s _ s.toks st (Nat.le_refl _) fun b hb o e => old b o (fun z => hSf (z ▸ hb)) e
  obtain ⟨oI, eI, cI⟩ := id ty
  refine fed_list W (T := T) ⟨oI, old I oI (Ne.symm ne) eI, cI⟩ t1 t2 ne (fun Q E k => hint _ Q E st2 ⟨oI, old I oI (Ne.symm ne) eI, cI⟩ k) st2 hSf g1 hn fun s' acc' c' m hS' ha => ?_
  exact hR s' acc' c' (Moved.trans W.gtrans ((Moved.refl W.grefl).then_heap (Nat.le_refl _) fun b o hb e => old b o (fun z => hb (z ▸ List.mem_cons_self)) e) m) hS' ha
theorem fed_call {I : Addr} {fp wr : List Addr} {G : Array GenState → Array GenState → Prop} {n : Nat} {P : Nat → Value → Prop} {St : Nat → Shared → Prop} {T : String} {Q : Value → Shared → Prop}
    (W : WalksS prog w A.in1.in1 I fp wr G n P St) (ty : s.TypeIs (.ref I) T) (t1 : (Value.type T == Value.type "list") = false) (t2 : (Value.type T == Value.type "tuple") = false)
    (hint : ∀ (s : Shared) (Q : Bool → Shared → Prop) (E : Value → Shared → Prop), St 0 s → s.TypeIs (.ref I) T → (∀ (b : Bool) (tk : Nat), s.toks ≤ tk → Q b { s with toks := tk }) → wpAny (model prog w) A.in1.in1 (Builtin.List.listLengthHint (.ref I)) Q E s)
    (st : St 0 s) (hfp : ∀ b ∈ fp, b < s.heap.objs.size) (hI : I ∈ fp) (hn : n ≤ sizeLine)
    (hQ : ∀ s' acc' c', Moved (s.heap.objs.size :: wr) G { s with heap := s.heap.push { cls := .type "list", data := .seq #[] } } s' →
      s'.heap.get? s.heap.objs.size = some { cls := .type "list", dict := none, data := .seq acc' c', slots := #[] } → ItemsOf P acc' n → Q (.ref s.heap.objs.size) s') :
    wpAny (model prog w) A (call (.type "list") [.ref I]) Q E s := by
  have hSf : s.heap.objs.size ∉ fp := fun hm => Nat.lt_irrefl _ (hfp _ hm)
  have ne : s.heap.objs.size ≠ I := fun z => hSf (z ▸ hI)
  obtain ⟨oI, eI, cI⟩ := id ty
  refine callType_codes (Q₁ := fun obj s₁ => obj = .ref s.heap.objs.size ∧ s₁ = { s with heap := s.heap.push { cls := .type "list", data := .seq #[] } }) F.called_list (F.typeCall_list_1 _) F.entry_list_init (code_list_new _ ⟨rfl, rfl⟩) fun obj s₁ h₁ => ?_
  obtain ⟨rfl, rfl⟩ := h₁
  have up : ∀ b o, s.heap.get? b = some o → (s.heap.push { cls := .type "list", data := .seq #[] }).get? b = some o := fun b o e => Heap.get?_push_of_some _ e
  have hS : (s.heap.push { cls := .type "list", data := .seq #[] }).get? s.heap.objs.size = some { cls := .type "list", data := .seq #[] } := Heap.get?_push_size _ rfl
  refine ⟨⟨_, hS, rfl⟩, F.args_list_init_2 _ _, fed_init (s := { s with heap := s.heap.push { cls := .type "list", data := .seq #[] } }) W (T := T) ⟨oI, up I oI eI, cI⟩ t1 t2 ne hint (W.frame 0 s _ s.toks st (Nat.le_refl _) fun b _ o e => up b o e) hSf hI hS hn fun s' acc' c' m hS' ha => ?_⟩
  exact ⟨rfl, hQ s' acc' c' m hS' ha⟩
/-- the hint of a list's reversed iterator -/
theorem hint_rev {I l : Addr} {i : Int} {Q : Bool → Shared → Prop} (ty : s.TypeIs (.ref I) "list_reverseiterator") (k : Q false s) : wpAny (model prog w) A (Builtin.List.listLengthHint (.ref I)) Q E s := by
  unfold Builtin.List.listLengthHint
  refine wpAny_bind (wpAny_specialOf ty RT.nolen_lri ?_)
  show wpAny _ A (specialOf (Value.ref I) (Str.ofString "__length_hint__") >>= _) Q E s
  refine wpAny_bind (wpAny_specialOf ty RT.hint_lri ?_)
  generalize hid : ("list_reverseiterator.__length_hint__" : String) = idn
  wp_delta
  rw [show splitId idn = some ("list_reverseiterator", "__length_hint__") from by subst hid; decide +kernel]
  subst hid
  refine wpAny_bind (wpAny_isInstance (b := true) ty (by rw [isSubtype_type]; kernel_rfl) (wpAny_pure k))
end
section
variable {X : Cx}
theorem pe_listRev {e : Expr} {te : TE} {p p2 pos pos2 : Pos} (hc : X.calm = true) (hg : Gl X "list") (hm : X.mg "list" = none) (hg2 : Gl X "reversed") (hm2 : X.mg "reversed" = none) (he : PE X e te)
    (hs : starEach [e] X.env = (false, eval e X.env) :: starEach [] X.env := by rfl)
    (hs2 : starEach [.Call (.Name "reversed" p2) [e] [] pos2] X.env = (false, eval (.Call (.Name "reversed" p2) [e] [] pos2) X.env) :: starEach [] X.env := by rfl) :
    PE X (.Call (.Name "list" p) [.Call (.Name "reversed" p2) [e] [] pos2] [] pos) (tRevL X.K te) := by
  refine ⟨fun pins s σ H Q I h => ?_⟩
  refine Call_ (ld_blt I hg hm boot_list (PyProof.Rows.callWith_type1 (args_cons (Call_ (ld_blt I hg2 hm2 PyProof.Rows.boot_reversed (PyProof.Rows.callWith_type1 (args_cons (thn (he.run pins s σ H _ I h) fun u s1 ⟨v, H1, I1, r1, q1⟩ => args_nil ?_) hs) hs rfl))) hs2) hs2 rfl))
  obtain ⟨a, xs, ev, hq, q⟩ := q1
  subst ev
  obtain rfl : u = Value.ref a := r1
  obtain ⟨its, rv, pl, hz⟩ := I1.list hq
  have hl := pl.isList
  obtain ⟨ol, hol, _⟩ := id hl
  refine call_reversed_list hl (args_nil ?_)
  have hn : its.toArray.size ≤ sizeLine := by rw [List.size_toArray, ← rv.length]; exact hz
  have hne : a ≠ s1.heap.objs.size := Nat.ne_of_lt (Heap.lt_size hol)
  have hcalm := I1.ok.hd hc
  have up : ∀ b o, s1.heap.get? b = some o → (s1.heap.push (revObj a ((its.toArray.size : Int) - 1))).get? b = some o := fun b o e => Heap.get?_push_of_some _ e
  have hit : (s1.heap.push (revObj a ((its.toArray.size : Int) - 1))).IsRevIter s1.heap.objs.size a ((its.toArray.size : Int) - 1) := ⟨_, Heap.get?_push_size _ rfl, rfl, rfl⟩
  have e0 : ((its.toArray.size : Nat) : Int) - 1 - ((0 : Nat) : Int) = (its.toArray.size : Int) - 1 := by omega
  have sz : (s1.heap.push (revObj a ((its.toArray.size : Int) - 1))).objs.size = s1.heap.objs.size + 1 := Heap.size_push ..
  refine fed_call (s := { s1 with heap := s1.heap.push (revObj a ((its.toArray.size : Int) - 1)) }) (T := "list_reverseiterator") ((Walks.listRev (A := X.A.in1.in1) hcalm s1.heap.objs.size a hne its.toArray).toS) (Heap.IsRevIter.typeIs (s := { s1 with heap := s1.heap.push (revObj a ((its.toArray.size : Int) - 1)) }) hit) (by decide) (by decide)
    (fun s' Q E _ ty k => hint_rev (l := a) (i := 0) ty (k false s'.toks (Nat.le_refl _))) ⟨Nat.zero_le _, by rw [e0]; exact hit, hl.push _⟩ (fun b hb => ?_) (by simp) hn fun s' acc' c' m hS' ha => ?_
  · rw [sz]
    rcases List.mem_cons.mp hb with rfl | hb
    · exact Nat.lt_succ_self _
    · obtain rfl := List.mem_singleton.mp hb
      exact Nat.lt_succ_of_lt (Heap.lt_size hol)
  · rw [Moved.eq_with m]
    rw [sz] at m hS' ⊢
    have keep : ∀ b o, s1.heap.get? b = some o → s'.heap.get? b = some o := fun b o e => by
      have lt := Heap.lt_size e
      refine m.heap b o (fun hm => ?_) (Heap.get?_push_of_some _ (up b o e))
      rcases List.mem_cons.mp hm with z | z
      · have z : b = s1.heap.objs.size + 1 := z
        rw [z] at lt
        exact absurd lt (by simp only [Nat.not_lt]; exact Nat.le_succ _)
      · have z : b = s1.heap.objs.size := List.mem_singleton.mp z
        rw [z] at lt
        exact absurd lt (Nat.lt_irrefl _)
    refine ⟨.ref _, upd H1 (s1.heap.objs.size + 1) (.lst xs.reverse), I1.laid (t' := s'.toks) keep (Nat.le_succ _) ⟨by rw [List.length_reverse]; exact hz, acc'.toList, c', RT.vals_rev rv ha, ?_⟩, rfl, q _ (I1.hok.fresh (Nat.le_succ _))⟩
    rw [Array.toArray_toList]
    exact hS'
end
section
variable {X : Cv}
/-- list(reversed(xs)) -/
theorem ve_listRev {e : Expr} {r : Option Nat} {t : VTE} {p p2 pos pos2 : Pos} (hc : X.calm = true) (hg : Gl X.toCx "list") (hm : X.mg "list" = none) (hg2 : Gl X.toCx "reversed") (hm2 : X.mg "reversed" = none) (h : VG X e r t)
    (hs : starEach [e] X.env = (false, eval e X.env) :: starEach [] X.env := by rfl)
    (hs2 : starEach [.Call (.Name "reversed" p2) [e] [] pos2] X.env = (false, eval (.Call (.Name "reversed" p2) [e] [] pos2) X.env) :: starEach [] X.env := by rfl) :
    VE X (.Call (.Name "list" p) [.Call (.Name "reversed" p2) [e] [] pos2] [] pos) (vOp sRev [r] (va1 t)) := by
  obtain ⟨t', a1, a2⟩ := h.ex
  refine ⟨fun W => tRevL X.K (t' W), fun W tk => pe_listRev hc hg hm hg2 hm2 (a1 W tk) hs hs2, fun b σ H ε T Tv W N Q Q' I q k x => ?_⟩
  refine a2 b σ H ε T Tv W N _ _ I q (fun d v ε1 H1 J hd z => ?_) x
  have op : OpN X.K (fun vs H Q => ∃ x, vs = [x] ∧ ∃ a xs, x = .ref a ∧ SqL X.K H a xs ∧ ∀ p, H p = none → Q (.ref p) (upd H p (.lst xs.reverse))) sRev := OpN.mk fun G H ds vs F Q Q' hs r q k => by
    obtain ⟨m, xs, rfl, hf, q⟩ := q
    obtain ⟨v, rfl, rx⟩ := r.one'
    have hx : ∃ a us, v = .ref a ∧ SqL X.K H a us ∧ RpL X.K G H xs us [] := by
      cases m with
      | false => obtain ⟨a, us, e, s, _, r⟩ := rx; exact ⟨a, us, e, hs.sqL s, r⟩
      | true => obtain ⟨a, us, F', e, s, _, r⟩ := rx; have := r.fz hf; subst this; exact ⟨a, us, e, SqL.of s, r⟩
    obtain ⟨a, us, rfl, s, rl⟩ := hx
    exact ⟨_, rfl, a, us, rfl, s, fun p hp => k _ _ _ (.lst rl.rev hp) q⟩
  obtain ⟨v', e', z'⟩ := op.run (ds := [d]) (vs := [v]) (rs := [r]) (Q := Q) (Q' := Q') I.lenT rfl J hd z k
  obtain ⟨rfl, _⟩ := List.cons.inj e'
  exact z'
/-- len(set(xs)), xs ints, none twice -/
def sLenSet : List D → (D → Prop) → Prop := fun ds Q => ∃ m xs, ∃ ns : List Int, ds = [.lst m xs] ∧ xs = ns.map D.int ∧ ns.Nodup ∧ ns.length ≤ 4000 ∧ Q (.int (ns.length : Nat))
theorem ve_lenSet {e : Expr} {r : Option Nat} {t : VTE} {p p2 q pos : Pos} (hc : X.calm = true) (hg : Gl X.toCx "len") (hm : X.mg "len" = none) (hg2 : Gl X.toCx "set") (hm2 : X.mg "set" = none) (h : VG X e r t)
    (na : starEach [e] X.env = (false, eval e X.env) :: starEach [] X.env := by rfl) : VE X (.Call (.Name "len" p) [.Call (.Name "set" p2) [e] [] q] [] pos) (vOp sLenSet [r] (va1 t)) := by
  obtain ⟨t', a1, a2⟩ := h.ex
  refine ⟨fun W => RZ.tLenSetI X.K (t' W), fun W tk => RZ.pe_lenSetI hg hm hg2 hm2 (a1 W tk) hc na, fun b σ H ε T Tv W N Q Q' I q k x => ?_⟩
  refine a2 b σ H ε T Tv W N _ _ I q (fun d v ε1 H1 J hd z => ?_) x
  have op : OpN X.K (fun vs H Q => ∃ x, vs = [x] ∧ ∃ (l : Addr) (ns : List Int), x = .ref l ∧ SqL X.K H l (ns.map V.int) ∧ ns.Nodup ∧ ns.length ≤ 4000 ∧ Q (.int (ns.length : Nat)) H) sLenSet := OpN.pure fun G H ds vs F Q Q' hs r q k => by
    obtain ⟨m, xs, ns, rfl, rfl, h1, h2, q⟩ := q
    obtain ⟨v, rfl, rx⟩ := r.one'
    have hx : ∃ a us F', v = .ref a ∧ SqL X.K H a us ∧ RpL X.K G H (ns.map D.int) us F' := by
      cases m with
      | false => obtain ⟨a, us, e, s, _, r⟩ := rx; exact ⟨a, us, _, e, hs.sqL s, r⟩
      | true => obtain ⟨a, us, F', e, s, _, r⟩ := rx; exact ⟨a, us, _, e, SqL.of s, r⟩
    obtain ⟨a, us, F', rfl, s, r⟩ := hx
    rw [ints_vs r] at s
    exact ⟨_, rfl, a, ns, rfl, s, h1, h2, k (.int _) _ (fun _ _ _ => ⟨rfl, rfl⟩) q⟩
  obtain ⟨v', e', z'⟩ := op.run (ds := [d]) (vs := [v]) (rs := [r]) (Q := Q) (Q' := Q') I.lenT rfl J hd z k
  obtain ⟨rfl, _⟩ := List.cons.inj e'
  exact z'
/-- {name: constant} -/
def vDisp1 (i : Nat) (c : D) : VTE := fun _ ε Q => ∃ z : Int, ε[i]? = some (some (.int z)) ∧ Q (.dK true [.inl z] [c]) ε
theorem ve_disp1 {x : Str} {i : Nat} {e : Expr} {c : D} {cv : V} {p pos : Pos} (hN : X.N[i]? = some x) (hv : Vis X.env.scope x) (he : PE X.toCx e (tC cv)) (rc : ∀ G H, Rp X.K G H c cv []) (hd : (x == ("__debug__" : Str)) = false := by decide) (hcd : (x == ("__classdict__" : Str)) = false := by decide) :
    VE X (.Dict [some (.Name x p)] [e] pos) (vDisp1 i c) := by
  refine ⟨fun W => tDisp [(tVar i, tC cv)], fun W tk => pe_disp (pps_cons (pe_var hN hv hd hcd) he pps_nil) rfl rfl (by simp) (by simp), fun b σ H ε T Tv W N Q Q' I q k x => ?_⟩
  obtain ⟨z, e0, q⟩ := q
  obtain ⟨v, hs, J⟩ := I.var e0 rfl
  obtain ⟨G, F, su, rv, _⟩ := J.last I.lenT
  subst rv
  intro p0 hp
  refine ⟨_, hs, ?_⟩
  refine ⟨upd_same, [(Sum.inl z, cv)], rfl, by simp, ?_⟩
  rw [upd_upd]
  exact k _ _ ε _ (SI.laid (I.push fun G => rc G H) I.lenT hp (.dK _) (fun G H' F e r => (show Rp X.K G H' (.dK true [.inl z] [c]) _ _ from ⟨_, [cv], F, rfl, e, rfl, rfl, by simp, r⟩))) q
end
end VL
namespace VL
open PySem PySem.Spec PyProof.Rows L2 VL
def natK (ks : List Nat) : List Kc := ks.map fun k : Nat => Sum.inl (k : Int)
theorem kIx_nat : ∀ {ks : List Nat} {k : Nat}, kIx (natK ks) (.inl (k : Int)) = if k ∈ ks then some (ks.idxOf k) else none
  | [], k => rfl
  | a :: ks, k => by
    show (if (Sum.inl (a : Int) : Kc) = .inl (k : Int) then some 0 else (kIx (natK ks) (.inl (k : Int))).map (· + 1)) = _
    rw [kIx_nat, List.idxOf_cons]
    by_cases e : a = k
    · subst e
      rw [if_pos rfl, if_pos (by simp)]
      simp
    · have e2 : ¬((Sum.inl (a : Int) : Kc) = .inl (k : Int)) := fun z => e (by have := Sum.inl.inj z; omega)
      have e3 : (a == k) = false := by rw [beq_eq_false_iff_ne]; exact e
      rw [if_neg e2, e3]
      by_cases h : k ∈ ks
      · rw [if_pos h, if_pos (List.mem_cons_of_mem _ h)]
        rfl
      · rw [if_neg h, if_neg (by rw [List.mem_cons]; exact fun z => z.elim (fun z => e z.symm) h)]
        rfl
theorem natK_app {ks : List Nat} {k : Nat} : natK ks ++ [Sum.inl (k : Int)] = natK (ks ++ [k]) := by unfold natK; simp
theorem mem_natK {m : Bool} {ks : List Nat} {k : Nat} {ds : List D} : memD (.int (k : Int)) (.dK m (natK ks) ds) = some (decide (k ∈ ks)) := by
  show some ((kIx (natK ks) (.inl (k : Int))).isSome) = _
  rw [kIx_nat]
  split <;> simp_all
theorem vmem_natK {m : Bool} {ks : List Nat} {k : Nat} {ds : List D} {P : Bool → Prop} : (∃ r, memD (.int (k : Int)) (.dK m (natK ks) ds) = some r ∧ P r) ↔ P (decide (k ∈ ks)) := by
  rw [mem_natK]
  exact ⟨fun ⟨_, e, p⟩ => by cases e; exact p, fun p => ⟨_, rfl, p⟩⟩
/-- names of nodes, each with the one that it was come to from -/
abbrev Came := List (Nat × Option Nat)
def Came.keys (ps : Came) : List Nat := ps.map (·.1)
theorem keys_len (ps : Came) : ps.keys.length = ps.length := by simp [Came.keys]
inductive Trl (ps : Came) : Nat → List Nat → Prop
  | root {k : Nat} : (k, none) ∈ ps → Trl ps k [k]
  | up {k p : Nat} {l : List Nat} : (k, some p) ∈ ps → Trl ps p l → Trl ps k (l ++ [k])
/-- reached from st on nodes outside bs -/
inductive RchB (f : Nat → List Nat) (bs : List Nat) (st : Nat) : Nat → Prop
  | start : st ∉ bs → RchB f bs st st
  | step {k t : Nat} : RchB f bs st k → t ∈ f k → t ∉ bs → RchB f bs st t
/-- a way: its first, its last, steps, none twice -/
structure WayOk (f : Nat → List Nat) (bs : List Nat) (st k : Nat) (l : List Nat) : Prop where
  hd : l.head? = some st
  lst : l.getLast? = some k
  nd : l.Nodup
  stp : ∀ (i a b : Nat), l[i]? = some a → l[i + 1]? = some b → b ∈ f a
  out : ∀ x ∈ l, x ∉ bs
structure BfI (f : Nat → List Nat) (n : Nat) (st : Nat) (ws bs : List Nat) (ps : Came) (at_ : Nat) : Prop where
  nd : ps.keys.Nodup
  rng : ∀ k ∈ ps.keys, k < n
  root : ps.head? = some (st, none)
  par : ∀ (i k p : Nat), ps[i]? = some (k, some p) → ∃ j x, j < i ∧ ps[j]? = some (p, x) ∧ k ∈ f p
  one : ∀ (i k : Nat), ps[i]? = some (k, none) → i = 0
  out : ∀ k ∈ ps.keys, k ∉ bs
  le : at_ ≤ ps.length
  nw : ∀ (i k : Nat) x, i < at_ → ps[i]? = some (k, x) → k ∉ ws
  dn : ∀ (i k : Nat) x, i < at_ → ps[i]? = some (k, x) → ∀ t ∈ f k, t ∉ bs → t ∈ ps.keys
section
variable {f : Nat → List Nat} {n st : Nat} {ws bs : List Nat} {ps : Came} {at_ : Nat}
/-- each has its way, on those that came ahead of it -/
theorem BfI.trail (I : BfI f n st ws bs ps at_) : ∀ (i k : Nat) x, ps[i]? = some (k, x) → ∃ l, Trl ps k l ∧ WayOk f bs st k l ∧ (∀ y ∈ l, ∃ j z, j ≤ i ∧ ps[j]? = some (y, z)) ∧ l.length ≤ i + 1 := by
  intro i
  induction i using Nat.strongRecOn with
  | ind i ih =>
    intro k x h
    have hm : (k, x) ∈ ps := List.mem_of_getElem? h
    cases x with
    | none =>
      have := I.one i k h
      subst this
      have hr := I.root
      rw [List.head?_eq_getElem?, h] at hr
      have hr : k = st := by cases hr; rfl
      subst hr
      refine ⟨[k], .root hm, ⟨rfl, rfl, by simp, fun i a b _ h2 => by simp at h2, fun y hy => ?_⟩, fun y hy => ?_, by simp⟩
      · simp at hy; subst hy; exact I.out y (List.mem_map.mpr ⟨_, hm, rfl⟩)
      · simp at hy; subst hy; exact ⟨0, none, Nat.le_refl _, h⟩
    | some p =>
      obtain ⟨j, y, hj, hp, hk⟩ := I.par i k p h
      obtain ⟨l, t, w, on, ln⟩ := ih j hj p y hp
      have hkl : k ∉ l := fun z => by
        obtain ⟨j2, z2, h1, h2⟩ := on k z
        have hlt : i < ps.length := (List.getElem?_eq_some_iff.mp h).1
        have e : ps.keys[j2]'(by rw [keys_len]; omega) = ps.keys[i]'(by rw [keys_len]; omega) := by
          have a1 : ps.keys[j2]? = some k := by unfold Came.keys; rw [List.getElem?_map, h2]; rfl
          have a2 : ps.keys[i]? = some k := by unfold Came.keys; rw [List.getElem?_map, h]; rfl
          have a3 := (List.getElem?_eq_some_iff.mp a1).2
          have a4 := (List.getElem?_eq_some_iff.mp a2).2
          rw [a3, a4]
        have := nodup_get I.nd _ _ e
        omega
      refine ⟨l ++ [k], .up hm t, ⟨?_, by simp, List.nodup_append.mpr ⟨w.nd, by simp, fun a ha c hc e => by simp at hc; exact hkl (by rw [← hc, ← e]; exact ha)⟩, ?_, fun y hy => ?_⟩, fun y hy => ?_, by simp; omega⟩
      · cases l with
        | nil => cases w.hd
        | cons a l => exact w.hd
      · intro i2 a b h1 h2
        by_cases e : i2 + 1 < l.length
        · rw [List.getElem?_append_left (by omega)] at h1
          rw [List.getElem?_append_left e] at h2
          exact w.stp i2 a b h1 h2
        · have e2 : i2 + 1 = l.length := by
            have := (List.getElem?_eq_some_iff.mp h2).1
            simp at this
            omega
          rw [List.getElem?_append_left (by omega)] at h1
          rw [List.getElem?_append_right (by omega), e2, Nat.sub_self] at h2
          cases h2
          have hl := w.lst
          rw [List.getLast?_eq_getElem?, show l.length - 1 = i2 by omega, h1] at hl
          cases hl
          exact hk
      · rcases List.mem_append.mp hy with hy | hy
        · exact w.out y hy
        · simp at hy; subst hy; exact I.out y (List.mem_map.mpr ⟨_, hm, rfl⟩)
      · rcases List.mem_append.mp hy with hy | hy
        · obtain ⟨j2, z, h1, h2⟩ := on y hy
          exact ⟨j2, z, by omega, h2⟩
        · simp at hy; subst hy; exact ⟨i, _, Nat.le_refl _, h⟩
theorem BfI.fin (I : BfI f n st ws bs ps ps.length) {k : Nat} (h : RchB f bs st k) : k ∈ ps.keys ∧ k ∉ ws := by
  have mem : k ∈ ps.keys := by
    induction h with
    | start _ =>
      cases e : ps with
      | nil => have := I.root; rw [e] at this; cases this
      | cons p ps' => have := I.root; rw [e] at this; cases this; simp [Came.keys]
    | @step k t _ ht hb ih =>
      obtain ⟨p, hp, rfl⟩ := List.mem_map.mp ih
      obtain ⟨i, hi, e⟩ := List.mem_iff_getElem.mp hp
      exact I.dn i p.1 p.2 hi (by rw [List.getElem?_eq_getElem hi, e]) t ht hb
  refine ⟨mem, ?_⟩
  obtain ⟨p, hp, rfl⟩ := List.mem_map.mp mem
  obtain ⟨i, hi, e⟩ := List.mem_iff_getElem.mp hp
  exact I.nw i p.1 p.2 hi (by rw [List.getElem?_eq_getElem hi, e])
/-- what comes of the ways on of a node -/
def bf1 (bs : List Nat) (h : Nat) (ps : Came) (t : Nat) : Came := if t ∉ ps.keys ∧ t ∉ bs then ps ++ [(t, some h)] else ps
theorem keys_app {ps : Came} {k : Nat} {x : Option Nat} : Came.keys (ps ++ [(k, x)]) = ps.keys ++ [k] := by simp [Came.keys]
structure BfM (f : Nat → List Nat) (n : Nat) (st : Nat) (ws bs : List Nat) (ps0 ps : Came) (at_ : Nat) (h : Nat) (seen : List Nat) : Prop where
  I : BfI f n st ws bs ps at_
  pre : ∃ e, ps = ps0 ++ e
  hs : ∃ x, ps[at_]? = some (h, x)
  ok : ∀ t ∈ seen, t ∉ bs → t ∈ ps.keys
theorem BfM.step {h : Nat} {ps0 : Came} {seen : List Nat} (M : BfM f n st ws bs ps0 ps at_ h seen) {t : Nat} (ht : t ∈ f h) (hn : t < n) : BfM f n st ws bs ps0 (bf1 bs h ps t) at_ h (seen ++ [t]) := by
  unfold bf1
  split
  · rename_i hc
    obtain ⟨c1, c2⟩ := hc
    obtain ⟨x0, hx0⟩ := M.hs
    have hl := (List.getElem?_eq_some_iff.mp hx0).1
    have old : ∀ {i : Nat} {p : Nat × Option Nat}, ps[i]? = some p → (ps ++ [(t, some h)])[i]? = some p := fun {i p} e => by
      rw [List.getElem?_append_left (List.getElem?_eq_some_iff.mp e).1]; exact e
    have new : ∀ {i : Nat} {p : Nat × Option Nat}, (ps ++ [(t, some h)])[i]? = some p → ps[i]? = some p ∨ (i = ps.length ∧ p = (t, some h)) := fun {i p} e => by
      by_cases z : i < ps.length
      · rw [List.getElem?_append_left z] at e; exact .inl e
      · rw [List.getElem?_append_right (by omega)] at e
        have : i - ps.length = 0 := by
          have := (List.getElem?_eq_some_iff.mp e).1
          simp at this
          omega
        rw [this] at e
        cases e
        exact .inr ⟨by omega, rfl⟩
    refine ⟨⟨?_, fun k hk => ?_, ?_, fun i k p e => ?_, fun i k e => ?_, fun k hk => ?_, by simp; have := M.I.le; omega, fun i k x hi e => ?_, fun i k x hi e y hy hb => ?_⟩, ?_, ⟨x0, old hx0⟩, fun y hy hb => ?_⟩
    · rw [keys_app]
      exact List.nodup_append.mpr ⟨M.I.nd, by simp, fun a ha c hc e => by simp at hc; exact c1 (by rw [← hc, ← e]; exact ha)⟩
    · rw [keys_app] at hk
      rcases List.mem_append.mp hk with hk | hk
      · exact M.I.rng k hk
      · simp at hk; subst hk; exact hn
    · have := M.I.root
      cases ps with
      | nil => cases this
      | cons p ps => exact this
    · rcases new e with e | ⟨_, e'⟩
      · obtain ⟨j, x, h1, h2, h3⟩ := M.I.par i k p e
        exact ⟨j, x, h1, old h2, h3⟩
      · cases e'
        exact ⟨at_, x0, by omega, old hx0, ht⟩
    · rcases new e with e | ⟨_, e'⟩
      · exact M.I.one i k e
      · cases e'
    · rw [keys_app] at hk
      rcases List.mem_append.mp hk with hk | hk
      · exact M.I.out k hk
      · simp at hk; subst hk; exact c2
    · rcases new e with e | ⟨rfl, _⟩
      · exact M.I.nw i k x hi e
      · omega
    · rw [keys_app]
      rcases new e with e | ⟨rfl, _⟩
      · exact List.mem_append_left _ (M.I.dn i k x hi e y hy hb)
      · omega
    · obtain ⟨e, he⟩ := M.pre
      exact ⟨e ++ [(t, some h)], by rw [he, List.append_assoc]⟩
    · rw [keys_app]
      rcases List.mem_append.mp hy with hy | hy
      · exact List.mem_append_left _ (M.ok y hy hb)
      · simp at hy; subst hy; simp
  · rename_i hc
    refine ⟨M.I, M.pre, M.hs, fun y hy hb => ?_⟩
    rcases List.mem_append.mp hy with hy | hy
    · exact M.ok y hy hb
    · simp at hy; subst hy
      exact Classical.byContradiction fun z => hc ⟨z, hb⟩
theorem BfM.next {h : Nat} {ps0 : Came} {seen : List Nat} (M : BfM f n st ws bs ps0 ps at_ h seen) (hw : h ∉ ws) (all : ∀ t ∈ f h, t ∈ seen) : BfI f n st ws bs ps (at_ + 1) := by
  obtain ⟨x0, hx0⟩ := M.hs
  have hl := (List.getElem?_eq_some_iff.mp hx0).1
  refine ⟨M.I.nd, M.I.rng, M.I.root, M.I.par, M.I.one, M.I.out, hl, fun i k x hi e => ?_, fun i k x hi e t ht hb => ?_⟩
  · by_cases z : i = at_
    · subst z; rw [hx0] at e; cases e; exact hw
    · exact M.I.nw i k x (by omega) e
  · by_cases z : i = at_
    · subst z; rw [hx0] at e; cases e; exact M.ok t (all t ht) hb
    · exact M.I.dn i k x (by omega) e t ht hb
end
theorem WayOk.rch {f : Nat → List Nat} {bs : List Nat} {st k : Nat} {l : List Nat} (w : WayOk f bs st k l) : RchB f bs st k := by
  have key : ∀ (i x : Nat), l[i]? = some x → RchB f bs st x := by
    intro i
    induction i with
    | zero =>
      intro x h
      have e := w.hd
      rw [List.head?_eq_getElem?, h] at e
      have e : x = st := Option.some.inj e
      subst e
      exact .start (w.out x (List.mem_of_getElem? h))
    | succ i ih =>
      intro x h
      have hi : i < l.length := by have := (List.getElem?_eq_some_iff.mp h).1; omega
      exact .step (ih _ (List.getElem?_eq_getElem hi)) (w.stp i _ x (List.getElem?_eq_getElem hi) h) (w.out x (List.mem_of_getElem? h))
  have hl := w.lst
  rw [List.getLast?_eq_getElem?] at hl
  exact key _ k hl
theorem e_lenSet {m : Bool} {xs : List Nat} {Q : D → Prop} : sLenSet [.lst m (natsD xs)] Q ↔ xs.Nodup ∧ xs.length ≤ 4000 ∧ Q (.int (xs.length : Nat)) := by
  constructor
  · rintro ⟨_, _, ns, e, e2, h1, h2, q⟩
    cases e
    rw [natsD_ints] at e2
    have := ints_inj e2
    subst this
    refine ⟨?_, by simpa using h2, by simpa using q⟩
    exact List.Pairwise.imp (fun {a b} h e => h (by rw [e])) (List.pairwise_map.mp h1)
  · rintro ⟨h1, h2, q⟩
    refine ⟨m, _, _, rfl, natsD_ints xs, ?_, by simpa using h2, by simpa using q⟩
    exact List.pairwise_map.mpr (List.Pairwise.imp (fun {a b} h e => h (by have e : (a : Int) = (b : Int) := e; omega)) h1)
theorem ixN_neg {n : Nat} (h : 0 < n) : ixN n (-1) = some (n - 1) := by
  unfold ixN
  rw [if_neg (by decide), if_pos (by omega)]
  congr 1
  omega
end VL
namespace VL
open PySem PySem.Spec PyProof.Rows L2 VL
abbrev nsO (w : World) : Obj := { cls := .type "set", dict := none, data := .set #[] 0 (.fresh 0 0 (!w.params.followText "set-order")) }
section
variable {P : Program} {w : World} {A : Around} {E : Value → Shared → Prop} {s : Shared}
theorem set_fed {l S : Addr} {items : Array Value} (ns : List Int) {R : Result → Shared → Prop} (hh : A.handled = none) (lst : s.heap.IsList l items) (allI : IntsAre items.toList ns) (hb : ns.length + 1 < scanBound) (hS : s.heap.get? S = some (nsO w)) (hSl : S ≠ l)
    (k : ∀ (h' : Heap) (tk c : Nat), SetR w h' S (fun j => decide (j ∈ ns)) c → c ≤ ns.length → (∀ b o, b ≠ S → s.heap.get? b = some o → h'.get? b = some o) → R (.ok (.ret .none)) { s with heap := h', toks := tk }) :
    codeAny (model P w) A (.builtin "set.update.loop" ⟨[.ref S, .ref s.heap.objs.size], []⟩) R { s with heap := s.heap.push { cls := .type "list_iterator", data := .fields #[.ref l, .int 0 0] } } := by
  obtain ⟨ol, hol, _⟩ := id lst
  have lt := Heap.lt_size hol
  have ltS := Heap.lt_size hS
  have sz : items.size = ns.length := by
    have q := IntsAre.length allI
    rw [Array.length_toList] at q
    exact q
  have at_ : ∀ (i : Nat) (v : Value), items[i]? = some v → ∃ k t, ns[i]? = some k ∧ v = .int k t := fun i v hv => by
    have hi : i < ns.length := by rw [← sz]; exact (Array.getElem?_eq_some_iff.mp hv).1
    obtain ⟨t, e⟩ := PyProof.Rows.IntsAre.int_at allI i v (by rw [Array.getElem?_toList]; exact hv)
    exact ⟨ns[i], t, List.getElem?_eq_getElem hi, by rw [e, List.getD_eq_getElem?_getD, List.getElem?_eq_getElem hi]; rfl⟩
  have up : ∀ b o, s.heap.get? b = some o → (s.heap.push { cls := .type "list_iterator", data := .fields #[.ref l, .int 0 0] }).get? b = some o := fun b o e => Heap.get?_push_of_some _ e
  refine set_update_ints ((Walks.list (A := A.in1) (by simpa using hh) s.heap.objs.size l (Nat.ne_of_lt lt) items).toS) S (by simp only [List.mem_cons, List.not_mem_nil, or_false, not_or]; exact ⟨Nat.ne_of_lt ltS, hSl⟩) ns sz hb at_ items.size 0 _ (by omega) (Nat.zero_le _)
    ⟨⟨_, Heap.get?_push_size _ rfl, rfl, rfl⟩, lst.push _⟩ ⟨0, Nat.le_refl 0, setR_new_at (up S _ hS)⟩ fun s' c m hc hR => ?_
  rw [Moved.eq_with m]
  refine k s'.heap s'.toks c hR (by omega) fun b o hb e => m.heap b o (fun hm => ?_) (up b o e)
  rcases List.mem_cons.mp hm with z | z
  · exact hb z
  · have z : b = s.heap.objs.size := List.mem_singleton.mp z
    have := Heap.lt_size e
    rw [z] at this
    exact absurd this (Nat.lt_irrefl _)
theorem set_list {l : Addr} {items : Array Value} (ns : List Int) {Q : Value → Shared → Prop} (hh : A.handled = none) (lst : s.heap.IsList l items) (allI : IntsAre items.toList ns) (hb : ns.length + 1 < scanBound)
    (k : ∀ (h' : Heap) (tk c : Nat), SetR w h' s.heap.objs.size (fun j => decide (j ∈ ns)) c → c ≤ ns.length → (∀ b o, s.heap.get? b = some o → h'.get? b = some o) → Q (.ref s.heap.objs.size) { s with heap := h', toks := tk }) :
    wpAny (model P w) A (call (.type "set") [.ref l]) Q E s := by
  obtain ⟨mc, mtl, hmro⟩ := F.called_set.mro
  have hmade := F.called_set.made
  have hsub := F.called_set.sub
  refine wpAny_call (codeAny_of_tree ?_)
  show wpAny _ _ (callAny (.type "set") _) _ _ _
  refine wpAny_pure ⟨Code.quiet_builtin _ (by decide +kernel), codeAny_builtin F.entry_type_call ?_⟩
  rw [Around.under_plain (weight_type_call_type "set" [.ref l] []) rfl]
  have n1 := F.called_set.notType
  have n2 := F.called_set.canCreate
  have n3 := F.typeCall_set_1 (.ref l)
  repeat (any_goals (first | assumption | wp_step))
  refine codeAny_mono (code_set_led1 (.ref l) (E := E) (Q₁ := fun obj s₁ => obj = .ref s.heap.objs.size ∧ s₁ = { s with heap := s.heap.push (nsO w) }) ⟨rfl, rfl⟩) fun r s₁ hr => ?_
  cases r with
  | error e => exact hr
  | ok fl =>
    cases fl with
    | ret obj =>
      obtain ⟨rfl, rfl⟩ := hr
      have hS : (s.heap.push (nsO w)).get? s.heap.objs.size = some (nsO w) := Heap.get?_push_size _ rfl
      have tS : Shared.TypeIs { s with heap := s.heap.push (nsO w) } (.ref s.heap.objs.size) "set" := ⟨_, hS, rfl⟩
      have n4 := F.called_set.init.lookup
      have n5 := F.called_set.init.bind (.ref s.heap.objs.size)
      repeat (any_goals (first | assumption | wp_step))
      refine codeAny_mono (codeAny_call_builtin (R := wants (fun r s₂ => r = .none ∧ ∃ h' tk c, s₂ = { s with heap := h', toks := tk } ∧ SetR w h' s.heap.objs.size (fun j => decide (j ∈ ns)) c ∧ c ≤ ns.length ∧ (∀ b o, s.heap.get? b = some o → h'.get? b = some o)) E) F.called_set.init.plain F.entry_set_init (check_set_init_1 tS ?_)) fun r₂ s₂ hr₂ => ?_
      · obtain ⟨ol, hol, hcl, nl, hdl⟩ := id lst
        have lt := Heap.lt_size hol
        obtain ⟨o1, o2, o3, o4⟩ := ol
        simp only at hcl hdl
        subst hcl hdl
        have hol2 : (s.heap.push (nsO w)).get? l = some { cls := .type "list", dict := o2, data := .seq items nl, slots := o4 } := Heap.get?_push_of_some _ hol
        have n6 := F.sub_list_set
        have n7 := F.sub_list_frozenset
        have n8 : (Value.type "list" == Value.type "dict") = false := by decide
        have lst2 : (s.heap.push (nsO w)).IsList l items := ⟨_, hol2, rfl, nl, rfl⟩
        unfold Builtin.«set.__init__» noKeywords Builtin.Frozenset.updateFrom
        generalize hpi : pyIter = piF
        wp_walk
        subst hpi
        refine wpAny_pyIter_list lst2 (wpAny_bind (wpAny_runValue ?_))
        refine set_fed (s := { s with heap := s.heap.push (nsO w) }) ns (by simp [hh]) lst2 allI hb hS (Nat.ne_of_gt lt) fun h' tk c hR hc keep => ?_
        show wpAny _ _ _ _ _ _
        refine wpAny_pure ?_
        show wpAny _ _ (ret Value.none) _ _ _
        exact wpAny_pure ⟨rfl, h', tk, c, rfl, hR, hc, fun b o e => keep b o (fun z => absurd (Heap.lt_size e) (by rw [z]; exact Nat.lt_irrefl _)) (Heap.get?_push_of_some _ e)⟩
      · cases r₂ with
        | error e => exact hr₂
        | ok fl₂ =>
          cases fl₂ with
          | ret r =>
            obtain ⟨rfl, h', tk, c, rfl, hR, hc, hk⟩ := hr₂
            repeat (any_goals (first | assumption | wp_step))
            exact k _ _ _ hR hc hk
          | _ => exact hr₂.elim
    | _ => exact hr.elim
end
end VL
namespace VL
open PySem PySem.Spec PyProof.Rows L2 VL
end VL
namespace VL
open PySem PySem.Spec PyProof.Rows L2 VL
/-- handed arg a, with pre a, it answers r, the arguments being l then, where rel a r l -/
def Rsp {α : Type} (arg : α → List D) (pre : α → Prop) (rel : α → D → List D → Prop) : VSp := fun ds Q _ => ∃ a, ds = arg a ∧ pre a ∧ ∀ r l, rel a r l → Q r l
theorem Rsp.mono {α : Type} {arg : α → List D} {pre : α → Prop} {rel : α → D → List D → Prop} : Mono (Rsp arg pre rel) := fun _ _ _ _ _ h _ ⟨a, e, p, q⟩ => ⟨a, e, p, fun r l z => h _ _ (q r l z)⟩
end VL
namespace VL
open PySem PySem.Spec PyProof.Rows L2 VL
def rGetA (K : PySem.W.Frag) : V → V → Hp → VK → Prop := fun o i H Q => (∃ p xs k v, o = .ref p ∧ i = .int k ∧ SqL K H p xs ∧ atI xs k = some v ∧ Q v H) ∨ rIxD o i H Q
theorem pget_any {X : Cx} (hu : X.A.units + 1 < cLine) : PGet X (rGetA X.K) := by
  intro pins s σ H o i ov iv Q I ro ri h
  rcases h with h | h
  · obtain ⟨p, xs, k, z, rfl, rfl, hq, he, q⟩ := h
    cases ro
    obtain ⟨t, rfl⟩ := ri
    obtain ⟨its, r, pl, hz⟩ := I.list hq
    obtain ⟨j, h1, h2, h3, h4, h5⟩ := atI_get he
    obtain ⟨w, ew, rw'⟩ := r.get h2
    have hl := r.length
    have hn := line63
    have fin : EP X pins σ Q w s := ⟨z, H, I, rw', q⟩
    by_cases h0 : 0 ≤ k
    · have hj : k.toNat = j := by
        rw [seqIndex_of h0 h5] at h1
        exact Option.some.inj h1
      exact wpAny_getItem_list pl.isList h0 (by omega) (by rw [hj]; simpa using ew) fin
    · have hj : (k + (its.toArray.size : Int)).toNat = j := by
        rw [seqIndex_neg (by omega) h4] at h1
        rw [List.size_toArray, ← hl]
        exact Option.some.inj h1
      exact wpAny_getItem_list_neg pl.isList (by omega) (by rw [List.size_toArray] <;> omega) (by omega) (by rw [hj]; simpa using ew) fin
  · obtain ⟨a, z, rfl, g, q⟩ := h
    obtain rfl : ov = Value.ref a := ro
    exact d_getItem hu I g ri fun w' s' I' rw' => ⟨z, H, I', rw', q⟩
/-- what a container of ours holds under a key, read to be changed -/
def getM : D → D → Option D
  | .lst true ds, .int k => (ixN ds.length k).bind fun j => ds[j]?
  | .pin _ (.lst true ds), .int k => (ixN ds.length k).bind fun j => ds[j]?
  | .dK true ks ds, k => (keyD k).bind fun k => (kIx ks k).bind fun j => ds[j]?
  | _, _ => none
theorem getM_run {K : PySem.W.Frag} {G H : Hp} (hs : Sub G H) {c k d : D} {v w : V} {F1 F2 : List Addr} (rc : Rp K G H c v F1) (rk : Rp K G H k w F2) (h : getM c k = some d) (z : isFz d = true) :
    ∃ u, Rp K G H d u [] ∧ ∀ Q : VK, Q u H → rGetA K v w H Q := by
  have seq : ∀ (ds : List D) (i : Int), k = .int i → ((ixN ds.length i).bind fun j => ds[j]?) = some d → (∃ p vs F', v = .ref p ∧ SqL K H p vs ∧ RpL K G H ds vs F') → ∃ u, Rp K G H d u [] ∧ ∀ Q : VK, Q u H → rGetA K v w H Q := by
    intro ds i e2 e3 e4
    subst e2
    obtain ⟨p, vs, F', rfl, hq, rl⟩ := e4
    obtain ⟨rfl, _⟩ := rk
    cases hj : ixN ds.length i with
    | none => rw [hj] at e3; cases e3
    | some j =>
      rw [hj] at e3
      have e3 : ds[j]? = some d := e3
      obtain ⟨u, hu, ru⟩ := rl.at e3 z
      have ha : atI vs i = some u := by
        unfold atI
        rw [← rl.len, hj]
        exact hu
      exact ⟨u, ru, fun Q q => .inl ⟨p, vs, i, u, rfl, rfl, hq, ha, q⟩⟩
  cases c with
  | lst m ds =>
    cases m with
    | false => cases k <;> cases h
    | true =>
      cases k with
      | int i =>
        obtain ⟨a, vs, F', rfl, s, rfl, r⟩ := rc
        exact seq ds i rfl h ⟨a, vs, _, rfl, SqL.of s, r⟩
      | _ => cases h
  | pin u c1 =>
    cases c1 with
    | lst m ds =>
      cases m with
      | false => cases k <;> cases h
      | true =>
        cases k with
        | int i =>
          obtain ⟨rfl, a, vs, F', rfl, s, rfl, r⟩ := rc
          exact seq ds i rfl h ⟨a, vs, _, rfl, SqL.of s, r⟩
        | _ => cases h
    | _ => cases k <;> cases h
  | dK m ks xs =>
    cases m with
    | false => cases h
    | true =>
      obtain ⟨a, us, F', rfl, e, rfl, l, _, rl⟩ := rc
      have h : ((keyD k).bind fun k => (kIx ks k).bind fun j => xs[j]?) = some d := h
      cases hk : keyD k with
      | none => rw [hk] at h; cases h
      | some k0 =>
        rw [hk] at h
        have h : ((kIx ks k0).bind fun j => xs[j]?) = some d := h
        cases hj : kIx ks k0 with
        | none => rw [hj] at h; cases h
        | some j =>
          rw [hj] at h
          obtain ⟨u, hu, ru⟩ := rl.at h z
          obtain ⟨rfl, _⟩ := rk.keyD hk
          refine ⟨u, ru, fun Q q => .inr ⟨a, u, rfl, ?_, q⟩⟩
          have := DGet.k (k := kc k0) e
          rw [kzip_val (l.trans rl.len), hj] at this
          have e5 : ((some j).bind fun j => us[j]?) = some u := hu
          rw [e5] at this
          exact this
  | _ => cases k <;> cases h
section
variable {X : Cv}
/-- place[k] op= e, of numbers -/
def vAugP (f : Int → Int → Int) (i : Nat) (tp : VTP) (tk te : VTE) : VTS := fun N ε => tp N.rx ε fun p => tk N.rx ε fun k ε1 => ∃ d0 c x, ε[i]? = some (some d0) ∧ ε1[i]? = some (some d0) ∧ getP d0 p = some c ∧ getM c k = some (.int x) ∧ te N.rx ε1 fun y ε2 => ∃ z c', ε2[i]? = some (some d0) ∧ y = .int z ∧ putD c k (.int (f x z)) = some c' ∧ N.nx (ε2.set i (some (setP d0 p c')))
theorem vs_augP {o ie e : Expr} {i : Nat} {te tk : VTE} {tp : VTP} {pos tpos : Pos} {op : Operator} {f : Int → Int → Int} {k : Nat} (hr : Room k X.A) (ho : OpR X.toCx (inplaceOp op) (rI0 fun i j => .int (f i j))) (hp : VP X o i tp) (hk : VQ X ie tk) (he : VQ X e te)
    (ha : ∀ ov iv new, augStore ie ov iv new = (do holding [new, ov, iv] (setItem ov iv new); release [new, ov, iv] []; pure .next) := by intros; rfl) : VS X (.AugAssign (.Subscript o ie tpos) op e pos) (vAugP f i tp tk te) := by
  obtain ⟨te', e1, e2⟩ := he.ex
  obtain ⟨tp', p1, p2⟩ := hp.ex
  obtain ⟨tk', k1, k2⟩ := hk.ex
  have hpi : PIp X.toCx op (rI0 fun i j => .int (f i j)) := ho
  refine ⟨fun W => tAugS (tp' W) (tk' W) (te' W) (rGetA X.K) (rI0 fun i j => .int (f i j)) rSetAny, fun W tk => ps_augS (p1 W tk) (k1 W tk) (pget_any (by have := hr.units; omega)) (e1 W tk) hpi (pset_any (by have := hr.units; omega)) ha, fun b σ H ε T Tv W N E I q l x => ?_⟩
  refine p2 b σ H ε T Tv W N.rx _ _ I q (fun p d0 c v0 vc H1 s1 I1 ei g hs at_ q1 => ?_) x
  refine k2 b σ H1 ε T Tv W N.rx _ _ I1 q1 (fun kd kv ε1 H2 s2 I2 q2 => ?_) x
  obtain ⟨d0', c0, xx, ei0, ei1, g', hm, q2⟩ := q2
  rw [ei] at ei0
  cases ei0
  rw [g] at g'
  cases g'
  have x1 : XL X.K b.1 (T ++ [kd]) (Tv ++ [kv]) W N.rx := x.more I.lenT rfl
  obtain ⟨G, B, FR, su, rc, rk, _⟩ := I2.focusAt I.lenT ei1 g hs (at_.grow s2)
  obtain ⟨kv', vs2, Fk, A2, ek, rfl, rk, _, _⟩ := rk
  cases ek
  obtain ⟨u, ru, go⟩ := getM_run su rc rk hm rfl
  obtain ⟨rfl, _⟩ := ru
  refine go _ ?_
  refine e2 b σ H2 ε1 (T ++ [kd]) (Tv ++ [kv]) W N.rx _ _ I2 q2 (fun yd yv ε2 H3 s3 I3 q3 => ?_) x1
  obtain ⟨z, c', ei2, rfl, hput, q3⟩ := q3
  obtain ⟨_, _, _, rfl, _⟩ := I3.last (by have := I.lenT; simp [this])
  have I4 : SI X.K b.1 σ H3 ε2 (T ++ [kd]) (Tv ++ [kv]) := I3.pop (by have := I.lenT; simp [this])
  have I5 : SI X.K b.1 σ H3 ε2 (T ++ [kd] ++ [.int (f xx z)]) (Tv ++ [kv] ++ [.int (f xx z)]) := I4.push fun _ => ⟨rfl, rfl⟩
  have I6 := SI.swap (A := [kd]) (B := [.int (f xx z)]) (C := []) (Av := [kv]) (Bv := [.int (f xx z)]) (Cv := []) (by simpa only [List.append_assoc, List.append_nil] using I5) I.lenT rfl rfl
  refine ⟨xx, z, rfl, rfl, ?_⟩
  exact put_run (by simpa only [List.append_nil, List.cons_append, List.nil_append] using I6) I.lenT ei2 g hs ((at_.grow s2).grow s3) hput fun H' J => l.nx σ H' _ J q3
theorem SI.pin {K : PySem.W.Frag} {b : Bs} {σ : L2.St} {H : Hp} {ε : Ep} {T : List D} {Tv : List V} {d : D} {v : V} (I : SI K b σ H ε (T ++ [d]) (Tv ++ [v])) (hl : T.length = Tv.length) : SI K b σ H ε (T ++ [.pin v d]) (Tv ++ [v]) := by
  obtain ⟨G, F, Ft, J⟩ := I
  obtain ⟨F1, F2, rfl, r1, r2⟩ := J.temps.split2 hl
  have r2 := RpL.one.mp r2
  have r3 : Rp K G H (.pin v d) v F2 := ⟨rfl, r2⟩
  exact ⟨G, F, F1 ++ F2, J.s0, J.sub, J.slots, r1.append (RpL.one.mpr r3), J.nd, J.fr, J.own, J.gn, J.keep, J.kept⟩
theorem SI.unpin {K : PySem.W.Frag} {b : Bs} {σ : L2.St} {H : Hp} {ε : Ep} {T : List D} {Tv : List V} {d : D} {u v : V} (I : SI K b σ H ε (T ++ [.pin u d]) (Tv ++ [v])) (hl : T.length = Tv.length) : v = u ∧ SI K b σ H ε (T ++ [d]) (Tv ++ [v]) := by
  obtain ⟨G, F, Ft, J⟩ := I
  obtain ⟨F1, F2, rfl, r1, r2⟩ := J.temps.split2 hl
  obtain ⟨e, r3⟩ := RpL.one.mp r2
  exact ⟨e, G, F, F1 ++ F2, J.s0, J.sub, J.slots, r1.append (RpL.one.mpr r3), J.nd, J.fr, J.own, J.gn, J.keep, J.kept⟩
/-- xs[k], the item taken out of the slot's tree: a place is left there that knows it -/
def vBor (i : Nat) (ti : VTE) : VTE := fun N ε Q => (∃ d0, ε[i]? = some (some d0)) ∧ ti N ε fun k ε1 => ∃ ds z j d, ε1[i]? = some (some (.lst true ds)) ∧ k = .int z ∧ ixN ds.length z = some j ∧ ds[j]? = some d ∧ ∀ v, Q (.pin v d) (ε1.set i (some (.lst true (ds.set j (.val v)))))
theorem ve_bor {x : Str} {idx : Expr} {i : Nat} {ti : VTE} {p0 pos : Pos} (hi : VQ X idx ti) (hs : PlainIx idx) (hN : X.N[i]? = some x := by rfl) (hv : Vis X.env.scope x := by first | exact Or.inl rfl | exact Or.inr (Or.inl rfl) | exact Or.inr (Or.inr rfl))
    (hd : (x == ("__debug__" : Str)) = false := by decide) (hcd : (x == ("__classdict__" : Str)) = false := by decide) : VE X (.Subscript (.Name x p0) idx pos) (vBor i ti) := by
  obtain ⟨u', b1, b2⟩ := hi.ex
  refine ⟨fun W => tOp (rIxL X.K) (tVar i) (u' W), fun W tk => pe_ix ix_list (pe_var hN hv hd hcd) (b1 W tk) hs, fun b σ H ε T Tv W N Q Q' I q k xl => ?_⟩
  obtain ⟨⟨d0, e0⟩, q⟩ := q
  obtain ⟨v, hsv, _⟩ := I.mov e0
  refine ⟨v, hsv, b2 b σ H ε T Tv W N _ _ I q (fun kd kv ε1 H1 s1 I1 q1 => ?_) xl⟩
  obtain ⟨ds, z, j, d, e1, rfl, hj, hd, q1⟩ := q1
  obtain ⟨_, _, _, rfl, _⟩ := I1.last I.lenT
  have I2 := I1.pop I.lenT
  obtain ⟨v', hs', I3⟩ := I2.mov e1
  rw [hsv] at hs'
  cases hs'
  obtain ⟨G, F, su, a, vs0, F', rfl, ha, _, rl⟩ := I3.last I.lenT
  obtain ⟨u, vs, ha2, hu, I4⟩ := SI.pick I3 I.lenT hd
  rw [ha] at ha2
  cases ha2
  refine ⟨a, vs0, z, u, rfl, rfl, SqL.of ha, ?_, ?_⟩
  · unfold atI
    rw [← rl.len, hj]
    exact hu
  · have I5 := SI.swap (A := [.lst true (ds.set j (.val u))]) (B := [d]) (C := []) (Av := [.ref a]) (Bv := [u]) (Cv := []) (by simpa only [List.append_assoc, List.append_nil, List.cons_append, List.nil_append] using I4) I.lenT rfl rfl
    have I6 := SI.back (T := T ++ [d]) (Tv := Tv ++ [u]) (d := .lst true (ds.set j (.val u))) (v := .ref a) (by simpa only [List.append_assoc, List.append_nil, List.cons_append, List.nil_append] using I5) (by have := I.lenT; simp [this]) hsv
    rw [List.set_set] at I6
    exact k _ u _ H1 (SI.pin I6 I.lenT) (q1 u)
/-- it is given back -/
def vGive (i j : Nat) (t : VTS) : VTS := fun N ε => i ≠ j ∧ ∃ ds m v d, ε[i]? = some (some (.lst true ds)) ∧ ε[j]? = some (some (.pin v d)) ∧ ds[m]? = some (.val v) ∧ t N ((ε.set j none).set i (some (.lst true (ds.set m d))))
theorem vss_give {sts : List Stmt} {t : VTS} {i j : Nat} (h : VSs X sts t) : VSs X sts (vGive i j t) := by
  obtain ⟨t', h1, h2⟩ := h.ex
  refine ⟨t', h1, fun b σ H ε T Tv W N E I q l x => ?_⟩
  obtain ⟨ne, ds, m, v, d, e1, e2, hm, q⟩ := q
  obtain ⟨u, hs, I1⟩ := I.mov e2
  obtain ⟨rfl, I2⟩ := SI.unpin I1 I.lenT
  have e3 : (ε.set j none)[i]? = some (some (.lst true ds)) := by rw [List.getElem?_set_ne (Ne.symm ne)]; exact e1
  obtain ⟨w, hw, I3⟩ := I2.mov e3
  have I4 := SI.swap (A := [d]) (B := [.lst true ds]) (C := []) (Av := [u]) (Bv := [w]) (Cv := []) (by simpa only [List.append_assoc, List.append_nil] using I3) I.lenT rfl rfl
  obtain ⟨G, F, su, a, vs0, F', rfl, ha, _, rl⟩ := I3.last (by have := I.lenT; simp [this])
  have I5 := SI.unpick (xs := ds) (a := a) (k := m) (d := d) (u := u) (by simpa only [List.append_nil, List.cons_append, List.nil_append] using I4) I.lenT hm
  have I6 := SI.back I5 I.lenT hw
  rw [List.set_set] at I6
  exact h2 b σ H _ T Tv W N E I6 q l x
end
end VL
namespace VL
open PySem PySem.Spec PyProof.Rows L2 VL
section
variable {K : PySem.W.Frag} {G H : Hp}
theorem RpL.revF : ∀ {ds : List D} {vs : List V} {F : List Addr}, RpL K G H ds vs F → ∃ F', F'.Perm F ∧ RpL K G H ds.reverse vs.reverse F'
  | [], vs, F, h => by
    obtain ⟨rfl, rfl⟩ := h
    exact ⟨[], .refl _, rfl, rfl⟩
  | d :: ds, vs, F, h => by
    obtain ⟨v, vs', F1, F2, rfl, rfl, r, rs⟩ := h
    obtain ⟨F', p, q⟩ := RpL.revF rs
    refine ⟨F' ++ F1, List.perm_append_comm.trans (List.Perm.append_left F1 p), ?_⟩
    rw [List.reverse_cons, List.reverse_cons]
    exact q.append (RpL.one.mpr r)
def muReverse : List D → List D → Option (List D × D) := fun ds es => match es with | [] => some (ds.reverse, .non) | _ => none
theorem mu_reverse : MutOk K rReverse muReverse := by
  intro G H a ds vs F R Rv FR ds' res Q su ha rl rR nd ga hm k
  match R, hm with
  | [], hm =>
    cases hm
    obtain ⟨rfl, rfl⟩ := rR
    obtain ⟨F', p, q⟩ := rl.revF
    exact ⟨a, vs, rfl, rfl, ha, k _ .non F' [] q ⟨rfl, rfl⟩ ⟨[], by simpa using p⟩⟩
theorem line_big : 1000000 < sizeLine := by decide
end
section
variable {X : Cv}
theorem mp_reverse {o : Expr} {i : Nat} {t : VTP} {apos cpos : Pos} (h : VP X o i t)
    (hbase : attributeBase o "reverse" X.env (eval o X.env) = eval o X.env := by rfl) (hline : (apos.endLine == cpos.line) = true := by rfl) :
    VE X (.Call (.Attribute o "reverse" apos) [] [] cpos) (vMut muReverse i t vaNil) := ve_mut0 h mu_reverse PySem.F.slot_list_reverse PySem.F.type_list_reverse mt_reverse hbase hline
abbrev VTD := WV → Ep → (List (D × D) → Ep → Prop) → Prop
def unz : List (D × D) → List D
  | [] => []
  | (k, y) :: r => k :: y :: unz r
def unzV : List (V × V) → List V
  | [] => []
  | (k, y) :: r => k :: y :: unzV r
structure VPPs (X : Cv) (pos : Pos) (keys : List (Option Expr)) (values : List Expr) (t : VTD) : Prop where
  ex : ∃ t' : WX → List (TE × TE), (∀ W, Takes X.toCx W → PPs X.toCx pos keys values (t' W)) ∧ ∀ (b : Bx X) σ H ε T Tv W N Q Q', SI X.K b.1 σ H ε T Tv → t N ε Q →
    (∀ ds (vs : List (V × V)) ε' H', SI X.K b.1 σ H' ε' (T ++ unz ds) (Tv ++ unzV vs) → ds.length = vs.length → Q ds ε' → Q' vs H') → XL X.K b.1 T Tv W N → tPairs (t' W) σ H Q'
def vdNil : VTD := fun _ ε Q => Q [] ε
def vdCons (tk tv : VTE) (u : VTD) : VTD := fun N ε Q => tk N ε fun k ε1 => tv N ε1 fun y ε2 => u N ε2 fun ds ε3 => Q ((k, y) :: ds) ε3
theorem vpps_nil {pos : Pos} : VPPs X pos [] [] vdNil := ⟨fun _ => [], fun _ _ => pps_nil, fun b σ H ε T Tv W N Q Q' I h k _ => k [] [] ε H (by simpa [unz, unzV] using I) rfl h⟩
theorem vpps_cons {pos : Pos} {e f : Expr} {ks : List (Option Expr)} {vs : List Expr} {tk tv : VTE} {u : VTD} (hk : VE X e tk) (hv : VE X f tv) (hr : VPPs X pos ks vs u) : VPPs X pos (some e :: ks) (f :: vs) (vdCons tk tv u) := by
  obtain ⟨tk', a1, a2⟩ := hk.ex
  obtain ⟨tv', b1, b2⟩ := hv.ex
  obtain ⟨u', c1, c2⟩ := hr.ex
  refine ⟨fun W => (tk' W, tv' W) :: u' W, fun W tk => pps_cons (a1 W tk) (b1 W tk) (c1 W tk), fun b σ H ε T Tv W N Q Q' I q k x => ?_⟩
  refine a2 b σ H ε T Tv W N _ _ I q (fun d v ε1 H1 J1 q1 => ?_) x
  refine b2 b σ H1 ε1 (T ++ [d]) (Tv ++ [v]) W N _ _ J1 q1 (fun d2 w ε2 H2 J2 q2 => ?_) (x.more I.lenT rfl)
  refine c2 b σ H2 ε2 (T ++ [d] ++ [d2]) (Tv ++ [v] ++ [w]) W N _ _ J2 q2 (fun ds us ε3 H3 J3 l q3 => ?_) ((x.more I.lenT rfl).more (lenApp I.lenT rfl) rfl)
  exact k ((d, d2) :: ds) ((v, w) :: us) ε3 H3 (by simpa only [unz, unzV, List.append_assoc, List.cons_append, List.nil_append] using J3) (by simp [l]) q3
/-- keys, and what stands under them -/
def keysD : List (D × D) → Option (List Kc)
  | [] => some []
  | (k, _) :: r => (keyD k).bind fun k => (keysD r).map (k :: ·)
def vDisp (t : VTD) : VTE := fun N ε Q => t N ε fun ds ε1 => ∃ ks, keysD ds = some ks ∧ ks.Nodup ∧ Q (.dK true ks (ds.map (·.2))) ε1
theorem keys_rpl {K : PySem.W.Frag} {G H : Hp} : ∀ {ds : List (D × D)} {vs : List (V × V)} {F : List Addr} {ks : List Kc}, RpL K G H (unz ds) (unzV vs) F → ds.length = vs.length → keysD ds = some ks → ks.length = ds.length ∧ vs = (ks.zip (vs.map (·.2))).map (fun p => (kV (kc p.1), p.2)) ∧ RpL K G H (ds.map (·.2)) (vs.map (·.2)) F
  | [], [], F, ks, r, _, h => by
    cases h
    exact ⟨rfl, rfl, r⟩
  | (k, y) :: ds, (v, w) :: vs, F, ks, r, hl, h => by
    obtain ⟨v', vs', F1, F2, e, rfl, rk, r⟩ := r
    obtain ⟨w', vs'', F3, F4, e2, rfl, ry, r⟩ := r
    have e : v :: w :: unzV vs = v' :: vs' := e
    cases e
    cases e2
    have h : ((keyD k).bind fun k => (keysD ds).map (k :: ·)) = some ks := h
    cases hk : keyD k with
    | none => rw [hk] at h; cases h
    | some k0 =>
      rw [hk] at h
      cases hr : keysD ds with
      | none => rw [hr] at h; cases h
      | some ks' =>
        rw [hr] at h
        cases h
        obtain ⟨rfl, rfl⟩ := rk.keyD hk
        obtain ⟨l1, e3, r3⟩ := keys_rpl r (Nat.succ.inj hl) hr
        refine ⟨by simp [l1], ?_, ⟨w, _, F3, F4, rfl, rfl, ry, r3⟩⟩
        simp only [List.map_cons, List.zip_cons_cons]
        rw [← e3]
  | [], _ :: _, _, _, _, hl, _ => by cases hl
  | _ :: _, [], _, _, _, hl, _ => by cases hl
theorem merge_new : ∀ {ks : List Kc} {vs : List V} {js : List Kc} {us : List V}, (js ++ ks).Nodup → ks.length = vs.length → js.length = us.length → mergeK (kzip js us) (kzip ks vs) = kzip (js ++ ks) (us ++ vs)
  | [], [], js, us, _, _, _ => by simp [mergeK, kzip]
  | k :: ks, v :: vs, js, us, nd, h, hj => by
    have nj : js.Nodup := (List.nodup_append.mp nd).1
    have hk : kIx js k = none := by
      cases e : kIx js k with
      | none => rfl
      | some i =>
        exfalso
        have hi := kIx_lt e
        have hm : k ∈ js := by
          clear nd nj hj h
          induction js generalizing i with
          | nil => cases e
          | cons a js ih =>
            unfold kIx at e
            split at e
            · rename_i q; rw [q]; exact List.mem_cons_self
            · cases e2 : kIx js k with
              | none => rw [e2] at e; cases e
              | some i2 => exact List.mem_cons_of_mem _ (ih i2 e2 (kIx_lt e2))
        exact (List.nodup_append.mp nd).2.2 k hm k List.mem_cons_self rfl
    show mergeK (putK (kzip js us) (kc k) v) (kzip ks vs) = _
    rw [kzip_put nj hj, hk]
    have := merge_new (ks := ks) (vs := vs) (js := js ++ [k]) (us := us ++ [v]) (by simpa using nd) (Nat.succ.inj h) (by simp [hj])
    simpa using this
  | [], _ :: _, _, _, _, h, _ => by cases h
  | _ :: _, [], _, _, _, h, _ => by cases h
theorem ve_disp {keys : List (Option Expr)} {values : List Expr} {t : VTD} {pos : Pos} (h : VPPs X pos keys values t) (hall : keys.all (·.isSome) = true := by rfl) (hl : keys.length = values.length := by rfl) (h0 : keys ≠ [] := by simp) (h15 : keys.length ≤ 15 := by decide)
    (hlen : ∀ N ε Q, t N ε Q → t N ε fun ds ε1 => ds.length ≤ 15 ∧ Q ds ε1) : VE X (.Dict keys values pos) (vDisp t) := by
  obtain ⟨t', h1, h2⟩ := h.ex
  refine ⟨fun W => tDisp (t' W), fun W tk => pe_disp (h1 W tk) hall hl h0 h15, fun b σ H ε T Tv W N Q Q' I q k x => fun p hp => ?_⟩
  have I0 : SI X.K b.1 σ (upd H p (.dK [])) ε (T ++ [.dK true [] []]) (Tv ++ [.ref p]) := SI.laid (ds := []) (vs := []) (by simpa using I) I.lenT hp (.dK []) fun G H' F e r => by
    obtain ⟨_, rfl⟩ := r
    exact ⟨p, [], [], rfl, e, rfl, rfl, List.nodup_nil, rfl, rfl⟩
  refine h2 b σ _ ε _ _ W N _ _ I0 (hlen _ _ _ q) (fun ds vs ε1 H1 J l z => ?_) (x.more I.lenT rfl)
  obtain ⟨l15, ks, hk, nd, z⟩ := z
  obtain ⟨G, F, Ft, J⟩ := J
  have J' := J
  obtain ⟨F1, F2, rfl, r1, r2⟩ := (show RpL X.K G H1 (T ++ ([.dK true [] []] ++ unz ds)) (Tv ++ ([.ref p] ++ unzV vs)) Ft by simpa only [List.append_assoc] using J.temps).split2 I.lenT
  obtain ⟨v0, vs0, A, B, e0, rfl, rp, rs⟩ := r2
  cases e0
  obtain ⟨p', us', F', ep, hd, rfl, _, _, ru⟩ := rp
  cases ep
  obtain ⟨rfl, rfl⟩ := ru
  obtain ⟨lk, ev, rv⟩ := keys_rpl rs l hk
  refine ⟨by simpa [kzip] using hd, (kzip ks (vs.map (·.2))), ?_, ?_, ?_⟩
  · conv => lhs; rw [ev]
    unfold kzip
    rw [List.zip_map_left, List.map_map]
    rfl
  · unfold kzip
    rw [List.length_zip, List.length_map]
    omega
  · have em : mergeK [] (kzip ks (vs.map (·.2))) = kzip ks (vs.map (·.2)) := merge_new (js := []) (us := []) (by simpa using nd) (by rw [List.length_map, lk, l]) rfl
    rw [em]
    have np : p ∉ F ++ (F1 ++ B) := fun hz => by
      have h3 := J.nd
      have h4 : (F ++ (F1 ++ ([p] ++ B))).Perm (p :: (F ++ (F1 ++ B))) := by
        apply List.perm_iff_count.mpr
        intro a
        simp only [List.count_append, List.count_cons, List.count_nil]
        omega
      exact (List.nodup_cons.mp (h4.nodup_iff.mp h3)).1 hz
    have mv : ∀ a ∈ F ++ (F1 ++ B), upd H1 p (.dK (kzip ks (vs.map (·.2)))) a = H1 a := fun a hz => upd_ne fun e => np (e ▸ hz)
    have gp : G p = none := J.fr p (by simp)
    refine k (.dK true ks (ds.map (·.2))) _ ε1 _ ⟨G, F, F1 ++ ([p] ++ B), J.s0, fun a o e => ?_, J.slots.mono Sub.refl fun a hz => mv a (List.mem_append_left _ hz), ?_, J.nd, J.fr, J.own, J.gn, fun a o e n => ?_, J.kept⟩ z
    · by_cases ha : a = p
      · rw [ha, gp] at e; cases e
      · rw [upd_ne ha]; exact J.sub a o e
    · refine (r1.mono Sub.refl fun a hz => mv a (List.mem_append_right _ (List.mem_append_left _ hz))).append (RpL.one.mpr ?_)
      exact ⟨p, vs.map (·.2), B, rfl, upd_same, rfl, by rw [List.length_map, lk], nd, rv.mono Sub.refl fun a hz => mv a (List.mem_append_right _ (List.mem_append_right _ hz))⟩
    · by_cases ha : a = p
      · subst ha
        rcases J.own a (by simp) with h5 | h5
        · exact absurd h5 n
        · rw [e] at h5; cases h5
      · rw [upd_ne ha]; exact J.keep a o e n
end
end VL
namespace VL
open PySem PySem.Spec PyProof.Rows L2 VL
def markD (m : Bool) (ks : List Nat) : D := .dK m (natK ks) (ks.map fun _ => D.bl true)
theorem mark_nil : markD true [] = .dK true [] [] := rfl
theorem mark_vals_fz (ks : List Nat) : isFzL (ks.map fun _ => D.bl true) = true := by
  rw [isFzL_all, List.all_map]
  exact List.all_eq_true.mpr fun x _ => rfl
theorem mark_frz (m : Bool) (ks : List Nat) : frz (markD m ks) = markD false ks := by
  show D.dK false (natK ks) (frzL _) = _
  rw [frzL_id (mark_vals_fz ks)]
  rfl
theorem mark_put {ks : List Nat} {k : Nat} (h : k ∉ ks) (hl : ks.length < 1000000) : putD (markD true ks) (.int (k : Int)) (.bl true) = some (markD true (ks ++ [k])) := by
  show (if (ks.map fun _ => D.bl true).length < 1000000 then (some (Sum.inl (k : Int) : Kc)).map (fun z => match kIx (natK ks) z with | some j => D.dK true (natK ks) ((ks.map fun _ => D.bl true).set j (.bl true)) | none => .dK true (natK ks ++ [z]) ((ks.map fun _ => D.bl true) ++ [D.bl true])) else none) = _
  rw [if_pos (by rw [List.length_map]; exact hl)]
  show some (match kIx (natK ks) (Sum.inl (k : Int)) with | some j => D.dK true (natK ks) ((ks.map fun _ => D.bl true).set j (.bl true)) | none => .dK true (natK ks ++ [Sum.inl (k : Int)]) ((ks.map fun _ => D.bl true) ++ [D.bl true])) = _
  rw [kIx_nat, if_neg h, natK_app]
  simp [markD]
theorem mark_putS {ks : List Nat} {k : Nat} (h : k ∉ ks) (hl : ks.length < 1000000) {P : D → Prop} : (∃ c, putD (markD true ks) (.int (k : Int)) (.bl true) = some c ∧ P c) ↔ P (markD true (ks ++ [k])) := by
  rw [mark_put h hl]
  exact ⟨fun ⟨_, e, p⟩ => by cases e; exact p, fun p => ⟨_, rfl, p⟩⟩
theorem vmem_mark {m : Bool} {ks : List Nat} {k : Nat} {P : Bool → Prop} : (∃ r, memD (.int (k : Int)) (markD m ks) = some r ∧ P r) ↔ P (decide (k ∈ ks)) := vmem_natK
end VL
namespace VL
open PySem PySem.Spec PyProof.Rows L2 VL
section
variable {prog : Program} {w : World} {A : Around} {E : Value → Shared → Prop} {s : Shared}
theorem nolen_rt : typeLookup (.type "reversed") "__len__" = pure none := by rw [typeLookup_type, builtinLookup_eq_fast]; kernel_rfl
theorem slot_rt_hint : Slot "reversed" "__length_hint__" "reversed.__length_hint__" :=
  .of (owner := "reversed") (n := "__length_hint__") (by rw [typeLookup_type, builtinLookup_eq_fast]; kernel_rfl) (by decide +kernel) (by decide +kernel) (by decide +kernel) (by first | exact .inl (by decide +kernel) | exact .inr (by decide +kernel)) (by rw [isSubtype_type]; kernel_rfl)
theorem args_rt_hint (a : Value) : argsOk "reversed.__length_hint__" ⟨[a], []⟩ := by
  unfold argsOk
  rw [signature?_of (id := "reversed.__length_hint__") (n := "__length_hint__".toList.reverse) (o := "reversed".toList.reverse) (by kernel_rfl) RT.owner_rt]
  kernel_rfl
theorem entry_rt_hint : entryFor table "reversed.__length_hint__" = some Builtin.«reversed.__length_hint__» := entryFor_of_tree (by kernel_rfl)
theorem run_rt_hint {I t : Addr} {items : Array Value} {Q : Value → Shared → Prop} (hit : RT.IsRt s.heap I t ((items.size : Int) - 1)) (ht : IsTup s.heap t items) (sz : items.size ≤ 1000000)
    (k : ∀ tk tk2, s.toks ≤ tk → Q (.int items.size tk2) { s with toks := tk }) : wpAny (model prog w) A (call (.builtin "reversed.__length_hint__") [.ref I]) Q E s := by
  refine wpAny_call_entry slot_rt_hint hit.typeIs entry_rt_hint ?_ (args_rt_hint _)
  obtain ⟨o, ho, hc, hd⟩ := id hit
  unfold Builtin.«reversed.__length_hint__»
  refine wpAny_bind (wpAny_of_eq (a := Value.ref I) rfl ?_)
  try dsimp only
  refine wpAny_bind (wpAny_field ho hd (x := .ref t) rfl ?_)
  try dsimp only
  rw [if_neg (by simp)]
  refine wpAny_bind (len_tuple ht (by have := line63; omega) ?_)
  refine wpAny_bind (wpAny_of_eq (a := some ((items.size : Nat) : Int)) rfl ?_)
  try dsimp only
  refine wpAny_bind (wpAny_field ho hd (x := rawInt ((items.size : Int) - 1)) rfl ?_)
  show wpAny _ _ (if (items.size : Int) < ((items.size : Int) - 1) + 1 then _ else _) _ _ _
  rw [if_neg (by omega)]
  have e1 : (items.size : Int) - 1 + 1 = items.size := by omega
  rw [e1]
  refine wpAny_bind (wpAny_mkInt ?_)
  refine wpAny_pure ⟨_, rfl, ?_⟩
  exact k _ _ (by show s.toks ≤ s.toks + 1 + 1 + 1; omega)
theorem hint_rt {I t : Addr} {items : Array Value} {Q : Bool → Shared → Prop} (hit : RT.IsRt s.heap I t ((items.size : Int) - 1)) (ht : IsTup s.heap t items) (sz : items.size ≤ 1000000)
    (k : ∀ (b : Bool) (tk : Nat), s.toks ≤ tk → Q b { s with toks := tk }) : wpAny (model prog w) A (Builtin.List.listLengthHint (.ref I)) Q E s := by
  have ty := hit.typeIs
  unfold Builtin.List.listLengthHint
  refine wpAny_bind (wpAny_specialOf ty nolen_rt ?_)
  show wpAny _ A (specialOf (Value.ref I) (Str.ofString "__length_hint__") >>= _) Q E s
  refine wpAny_bind (wpAny_specialOf ty slot_rt_hint.lookup ?_)
  generalize hid : ("reversed.__length_hint__" : String) = idn
  wp_delta
  rw [show splitId idn = some ("reversed", "__length_hint__") from by subst hid; decide +kernel]
  subst hid
  refine wpAny_bind (wpAny_isInstance (b := true) ty (by rw [isSubtype_type]; kernel_rfl) ?_)
  rw [if_neg (by decide)]
  rw [if_neg (by decide +kernel)]
  refine wpAny_bind (wpAny_rule ?_)
  refine wpAny_bind (wpAny_of_eq (slot_rt_hint.bind _) ?_)
  try dsimp only
  refine wpAny_bind (wpAny_attempt (run_rt_hint hit ht sz fun tk tk2 hk => ?_))
  try dsimp only
  have ea : (asInt? (Value.int ((items.size : Nat) : Int) tk2) : Sem (Option Int)) = pure (some ((items.size : Nat) : Int)) := rfl
  have f1 : Builtin.List.listFitsIndex ((items.size : Nat) : Int) = true := by
    unfold Builtin.List.listFitsIndex
    simp
    omega
  have f2 : Builtin.List.listTooLong ((items.size : Nat) : Int).toNat = false := by
    unfold Builtin.List.listTooLong
    have := line_big
    simp
    omega
  have f3 : ¬((items.size : Nat) : Int) < 0 := by omega
  simp only [ea, pure_bind, f1, f2, Bool.not_true, Bool.false_eq_true, if_false, f3]
  exact wpAny_pure (k _ tk hk)
theorem walks_rt (hh : A.handled = none) (I t : Addr) (hne : t ≠ I) (items : Array Value) (sz : items.size ≤ sizeLine) :
    Walks prog w A I [I, t] [I] items.size (fun i v => items[items.size - 1 - i]? = some v) (fun i h => i ≤ items.size ∧ RT.IsRt h I t ((items.size : Int) - 1 - (i : Int)) ∧ IsTup h t items) where
  sub := fun b hb => by simp at hb; simp [hb]
  frame := fun _ _ _ x hk => ⟨x.1, x.2.1.at fun o e => hk I (by simp) o e, let ⟨o, ho, r⟩ := x.2.2; ⟨o, hk t (by simp) o ho, r⟩⟩
  item := fun i s Q E hi x hQ => by
    have e : (items.size : Int) - 1 - (i : Int) = ((items.size - 1 - i : Nat) : Int) := by omega
    have hit := x.2.1
    rw [e] at hit
    have hx : items[items.size - 1 - i]? = some (items[items.size - 1 - i]'(by omega)) := Array.getElem?_eq_getElem (by omega)
    refine RT.next_rt_item hit x.2.2 hx sz fun h' st' sb => ?_
    have e2 : ((items.size - 1 - i : Nat) : Int) - 1 = (items.size : Int) - 1 - ((i + 1 : Nat) : Int) := by omega
    rw [e2] at st'
    exact hQ _ h' (s.toks + 1) hx ⟨hi, st', let ⟨o, ho, r⟩ := x.2.2; ⟨o, (sb.2 t hne).trans ho, r⟩⟩ fun b o hb eo => (sb.2 b fun h => hb (by simp [h])).trans eo
  done := fun s Q E x hQ => by
    have e : (items.size : Int) - 1 - (items.size : Int) = -1 := by omega
    have hit := x.2.1
    rw [e] at hit
    exact RT.next_rt_end hh hit fun h' he' => hQ h' s.toks fun b o hb eo => he' b o (fun h => hb (by simp [h])) eo
  self := fun _ _ _ _ x hQ => RT.iter_rt x.2.1 hQ
end
def tRevTu (K : PySem.W.Frag) (te : TE) : TE := fun σ H Q => te σ H fun v H1 => ∃ (a : Addr) (xs : List V), v = .ref a ∧ SqT K H1 a xs ∧ xs.length < 1000000 ∧ ∀ q, H1 q = none → Q (.ref q) (upd H1 q (.lst xs.reverse))
section
variable {X : Cx}
theorem pe_listRevT {e : Expr} {te : TE} {p p2 pos pos2 : Pos} (hc : X.calm = true) (hg : Gl X "list") (hm : X.mg "list" = none) (hg2 : Gl X "reversed") (hm2 : X.mg "reversed" = none) (he : PE X e te)
    (hs : starEach [e] X.env = (false, eval e X.env) :: starEach [] X.env := by rfl)
    (hs2 : starEach [.Call (.Name "reversed" p2) [e] [] pos2] X.env = (false, eval (.Call (.Name "reversed" p2) [e] [] pos2) X.env) :: starEach [] X.env := by rfl) :
    PE X (.Call (.Name "list" p) [.Call (.Name "reversed" p2) [e] [] pos2] [] pos) (tRevTu X.K te) := by
  refine ⟨fun pins s σ H Q I h => ?_⟩
  refine Call_ (ld_blt I hg hm boot_list (PyProof.Rows.callWith_type1 (args_cons (Call_ (ld_blt I hg2 hm2 PyProof.Rows.boot_reversed (PyProof.Rows.callWith_type1 (args_cons (thn (he.run pins s σ H _ I h) fun u s1 ⟨v, H1, I1, r1, q1⟩ => args_nil ?_) hs) hs rfl))) hs2) hs2 rfl))
  obtain ⟨a, xs, ev, hq, hlen, q⟩ := q1
  subst ev
  obtain rfl : u = Value.ref a := r1
  obtain ⟨its, rv, pl, hz⟩ := I1.tuple hq
  obtain ⟨ol, hol, _⟩ := id pl
  have hlen2 : its.toArray.size < 1000000 := by rw [List.size_toArray, ← rv.length]; exact hlen
  have hn : its.toArray.size ≤ sizeLine := by have := line_big; omega
  have hne : a ≠ s1.heap.objs.size := Nat.ne_of_lt (Heap.lt_size hol)
  have hcalm := I1.ok.hd hc
  refine RT.call_reversed_tup pl (fun A E Q k => len_tuple pl (by have := line63; omega) k) (args_nil ?_)
  have up : ∀ b o, s1.heap.get? b = some o → (s1.heap.push (RT.rtObj a ((its.toArray.size : Int) - 1))).get? b = some o := fun b o e => Heap.get?_push_of_some _ e
  have hit : RT.IsRt (s1.heap.push (RT.rtObj a ((its.toArray.size : Int) - 1))) s1.heap.objs.size a ((its.toArray.size : Int) - 1) := ⟨_, Heap.get?_push_size _ rfl, rfl, rfl⟩
  have e0 : ((its.toArray.size : Nat) : Int) - 1 - ((0 : Nat) : Int) = (its.toArray.size : Int) - 1 := by omega
  have sz : (s1.heap.push (RT.rtObj a ((its.toArray.size : Int) - 1))).objs.size = s1.heap.objs.size + 1 := Heap.size_push ..
  have ht2 : IsTup (s1.heap.push (RT.rtObj a ((its.toArray.size : Int) - 1))) a its.toArray := let ⟨o, ho, r⟩ := pl; ⟨o, up a o ho, r⟩
  refine fed_call (s := { s1 with heap := s1.heap.push (RT.rtObj a ((its.toArray.size : Int) - 1)), toks := s1.toks + 1 + 1 }) (T := "reversed") ((walks_rt (A := X.A.in1.in1) hcalm s1.heap.objs.size a hne its.toArray hn).toS) hit.typeIs (by decide) (by decide)
    (fun s' Q E st ty k => hint_rt (by rw [← e0]; exact st.2.1) st.2.2 (by omega) k) ⟨Nat.zero_le _, by rw [e0]; exact hit, ht2⟩ (fun b hb => ?_) (by simp) hn fun s' acc' c' m hS' ha => ?_
  · show b < (s1.heap.push (RT.rtObj a ((its.toArray.size : Int) - 1))).objs.size
    rw [sz]
    rcases List.mem_cons.mp hb with rfl | hb
    · exact Nat.lt_succ_self _
    · obtain rfl := List.mem_singleton.mp hb
      exact Nat.lt_succ_of_lt (Heap.lt_size hol)
  · rw [Moved.eq_with m]
    have sz' : ({ s1 with heap := s1.heap.push (RT.rtObj a ((its.toArray.size : Int) - 1)), toks := s1.toks + 1 + 1 } : Shared).heap.objs.size = s1.heap.objs.size + 1 := sz
    rw [sz'] at m hS' ⊢
    have keep : ∀ b o, s1.heap.get? b = some o → s'.heap.get? b = some o := fun b o e => by
      have lt := Heap.lt_size e
      refine m.heap b o (fun hm => ?_) (Heap.get?_push_of_some _ (up b o e))
      rcases List.mem_cons.mp hm with z | z
      · have z2 : b = s1.heap.objs.size + 1 := by first | exact z.trans sz' | exact z
        rw [z2] at lt
        exact absurd lt (Nat.not_lt.mpr (Nat.le_succ _))
      · have z : b = s1.heap.objs.size := List.mem_singleton.mp z
        rw [z] at lt
        exact absurd lt (Nat.lt_irrefl _)
    refine ⟨.ref _, upd H1 (s1.heap.objs.size + 1) (.lst xs.reverse), I1.laid (t' := s'.toks) keep (Nat.le_succ _) ⟨by rw [List.length_reverse]; have := line_big; omega, acc'.toList, c', RT.vals_rev rv ha, ?_⟩, rfl, q _ (I1.hok.fresh (Nat.le_succ _))⟩
    rw [Array.toArray_toList]
    exact hS'
end
section
variable {X : Cv}
def sRevT : List D → (D → Prop) → Prop := fun ds Q => ∃ xs, ds = [.tup xs] ∧ isFzL xs = true ∧ xs.length < 1000000 ∧ Q (.lst true xs.reverse)
theorem e_revT {xs : List D} {Q : D → Prop} : sRevT [.tup xs] Q ↔ isFzL xs = true ∧ xs.length < 1000000 ∧ Q (.lst true xs.reverse) :=
  ⟨fun ⟨_, e, h⟩ => by cases e; exact h, fun h => ⟨_, rfl, h⟩⟩
theorem ve_listRevT {e : Expr} {r : Option Nat} {t : VTE} {p p2 pos pos2 : Pos} (hc : X.calm = true) (hg : Gl X.toCx "list") (hm : X.mg "list" = none) (hg2 : Gl X.toCx "reversed") (hm2 : X.mg "reversed" = none) (h : VG X e r t)
    (hs : starEach [e] X.env = (false, eval e X.env) :: starEach [] X.env := by rfl)
    (hs2 : starEach [.Call (.Name "reversed" p2) [e] [] pos2] X.env = (false, eval (.Call (.Name "reversed" p2) [e] [] pos2) X.env) :: starEach [] X.env := by rfl) :
    VE X (.Call (.Name "list" p) [.Call (.Name "reversed" p2) [e] [] pos2] [] pos) (vOp sRevT [r] (va1 t)) := by
  obtain ⟨t', a1, a2⟩ := h.ex
  refine ⟨fun W => tRevTu X.K (t' W), fun W tk => pe_listRevT hc hg hm hg2 hm2 (a1 W tk) hs hs2, fun b σ H ε T Tv W N Q Q' I q k x => ?_⟩
  refine a2 b σ H ε T Tv W N _ _ I q (fun d v ε1 H1 J hd z => ?_) x
  have op : OpN X.K (fun vs H Q => ∃ x, vs = [x] ∧ ∃ a xs, x = .ref a ∧ SqT X.K H a xs ∧ xs.length < 1000000 ∧ ∀ p, H p = none → Q (.ref p) (upd H p (.lst xs.reverse))) sRevT := OpN.mk fun G H ds vs F Q Q' hs r q k => by
    obtain ⟨xs, rfl, hf, hl, q⟩ := q
    obtain ⟨v, rfl, rx⟩ := r.one'
    obtain ⟨a, us, rfl, s, rl⟩ := rx
    have := rl.fz hf
    subst this
    exact ⟨_, rfl, a, us, rfl, SqT.of (hs _ _ s), by rw [← rl.len]; exact hl, fun p hp => k _ _ _ (.lst rl.rev hp) q⟩
  obtain ⟨v', e', z'⟩ := op.run (ds := [d]) (vs := [v]) (rs := [r]) (Q := Q) (Q' := Q') I.lenT rfl J hd z k
  obtain ⟨rfl, _⟩ := List.cons.inj e'
  exact z'
end
end VL
namespace VL
open PySem PySem.Spec PyProof.Rows L2 VL
inductive Rw where
  | sum (n : Nat) (x : Cs) (a : Opd) (s : Cs) (b : Opd)
  | test (n : Nat) (a : Opd) (s : Cs) (b : Opd) (to : Nat)
  | jump (n to : Nat)
  | fin (n : Nat)
def rwL : Rw → List D
  | .sum n x a s b => [.int (n : Int), .str cSum, .str x, opD a, .str s, opD b]
  | .test n a s b to => [.int (n : Int), .str cTest, opD a, .str s, opD b, .int (to : Int)]
  | .jump n to => [.int (n : Int), .str cJump, .int (to : Int)]
  | .fin n => [.int (n : Int), .str cEnd]
def rwD (r : Rw) : D := .tup (rwL r)
theorem rwD_fz (r : Rw) : isFz (rwD r) = true := by cases r <;> simp [rwD, rwL, isFz, isFzL, opD_fz]
theorem rws_fz (rs : List Rw) : isFzL (rs.map rwD) = true := by rw [isFzL_all]; simp [rwD_fz]
theorem rws_frz (rs : List Rw) : frzL (rs.map rwD) = rs.map rwD := frzL_id (rws_fz rs)
theorem rwD_sum {n : Nat} {x : Cs} {a : Opd} {s : Cs} {b : Opd} : rwD (.sum n x a s b) = .tup [.int (n : Int), .str cSum, .str x, opD a, .str s, opD b] := rfl
theorem rwD_test {n : Nat} {a : Opd} {s : Cs} {b : Opd} {to : Nat} : rwD (.test n a s b to) = .tup [.int (n : Int), .str cTest, opD a, .str s, opD b, .int (to : Int)] := rfl
theorem rwD_jump {n to : Nat} : rwD (.jump n to) = .tup [.int (n : Int), .str cJump, .int (to : Int)] := rfl
theorem rwD_fin {n : Nat} : rwD (.fin n) = .tup [.int (n : Int), .str cEnd] := rfl
theorem ix_rws {rs : List Rw} {k : Nat} {r : Rw} (h : rs[k]? = some r) {P : D → Prop} : (∃ d, ((ixN rs.length (k : Int)).bind fun j => (rs.map rwD)[j]?) = some d ∧ isFz d = true ∧ P d) ↔ P (rwD r) :=
  ix_at (by rw [List.getElem?_map, h]; rfl) (rwD_fz r) (by simp)
def Rw.num : Rw → Nat
  | .sum n _ _ _ _ => n
  | .test n _ _ _ _ => n
  | .jump n _ => n
  | .fin n => n
def Rw.tos : Rw → List Nat
  | .test _ _ _ _ to => [to]
  | .jump _ to => [to]
  | _ => []
def Rw.falls : Rw → Bool
  | .sum _ _ _ _ _ => true
  | .test _ _ _ _ _ => true
  | _ => false
def Rw.good : Rw → Bool
  | .sum _ x a s b => Cs.good x && (a.good && (Cs.good s && b.good))
  | .test _ a s b _ => a.good && (Cs.good s && b.good)
  | _ => true
def nums (rs : List Rw) : List Nat := rs.map Rw.num
theorem nums_len (rs : List Rw) : (nums rs).length = rs.length := by simp [nums]
structure RwOk (rs : List Rw) : Prop where
  pos : 0 < rs.length
  few : rs.length < 10000
  nd : (nums rs).Nodup
  tos : ∀ r ∈ rs, ∀ t ∈ r.tos, t ∈ nums rs
  good : ∀ r ∈ rs, r.good = true
  last : ∀ (k : Nat) r, rs[k]? = some r → r.falls = true → k + 1 < rs.length
def nxJ (rs : List Rw) (k : Nat) : Option Nat := match rs[k]? with
  | some (.jump _ to) => some ((nums rs).idxOf to)
  | _ => none
def stopJ (nx : Nat → Option Nat) : Nat → List Nat → Nat → Nat
  | 0, _, k => k
  | f + 1, seen, k => match nx k with
    | none => k
    | some b => if k ∈ seen then k else stopJ nx f (seen ++ [k]) b
def ringJ (nx : Nat → Option Nat) (c : Nat) : Nat → Nat → Nat → Nat
  | 0, m, _ => m
  | f + 1, m, h => if h = c then m else ringJ nx c f (min m h) ((nx h).getD 0)
def comeTo (rs : List Rw) (k : Nat) : Nat := match nxJ rs (stopJ (nxJ rs) (rs.length + 1) [] k) with
  | none => stopJ (nxJ rs) (rs.length + 1) [] k
  | some b => ringJ (nxJ rs) (stopJ (nxJ rs) (rs.length + 1) [] k) (rs.length + 1) (stopJ (nxJ rs) (rs.length + 1) [] k) b
theorem nx_lt {rs : List Rw} (R : RwOk rs) {k b : Nat} (h : nxJ rs k = some b) : b < rs.length := by
  unfold nxJ at h
  split at h
  · rename_i n to e
    cases h
    rw [← nums_len]
    exact List.idxOf_lt_length_iff.mpr (R.tos _ (List.mem_of_getElem? e) to (by simp [Rw.tos]))
  · cases h
theorem stop_lt {nx : Nat → Option Nat} {n : Nat} (hx : ∀ k b, nx k = some b → b < n) : ∀ (f : Nat) (seen : List Nat) (k : Nat), k < n → stopJ nx f seen k < n
  | 0, _, _, h => h
  | f + 1, seen, k, h => by
    unfold stopJ
    split
    · exact h
    · rename_i b e
      split
      · exact h
      · exact stop_lt hx f _ b (hx k b e)
theorem ring_lt {nx : Nat → Option Nat} {n c : Nat} : ∀ (f m h : Nat), m < n → ringJ nx c f m h < n
  | 0, _, _, h => h
  | f + 1, m, h, hm => by
    unfold ringJ
    split
    · exact hm
    · exact ring_lt f _ _ (by omega)
theorem come_lt {rs : List Rw} (R : RwOk rs) {k : Nat} (h : k < rs.length) : comeTo rs k < rs.length := by
  have h1 := stop_lt (fun k b e => nx_lt R (k := k) e) (rs.length + 1) [] k h
  unfold comeTo
  split
  · exact h1
  · exact ring_lt _ _ _ h1
/-- what is known on the way: those seen stand one behind the other -/
structure JInv (rs : List Rw) (k0 : Nat) (seen : List Nat) (k : Nat) : Prop where
  nd : seen.Nodup
  rng : ∀ x ∈ seen, x < rs.length
  lt : k < rs.length
  ch : ∀ (i a : Nat), seen[i]? = some a → nxJ rs a = (seen ++ [k])[i + 1]?
  val : stopJ (nxJ rs) (rs.length + 1 - seen.length) seen k = stopJ (nxJ rs) (rs.length + 1) [] k0
theorem JInv.start {rs : List Rw} {k : Nat} (h : k < rs.length) : JInv rs k [] k := ⟨List.nodup_nil, fun _ z => (nomatch z), h, fun i a z => (by simp at z), rfl⟩
theorem JInv.len {rs : List Rw} {k0 k : Nat} {seen : List Nat} (I : JInv rs k0 seen k) : seen.length ≤ rs.length := nodup_len I.nd I.rng
theorem JInv.more {rs : List Rw} (R : RwOk rs) {k0 k b : Nat} {seen : List Nat} (I : JInv rs k0 seen k) (h : nxJ rs k = some b) (hk : k ∉ seen) : JInv rs k0 (seen ++ [k]) b ∧ seen.length < rs.length := by
  have nd : (seen ++ [k]).Nodup := List.nodup_append.mpr ⟨I.nd, by simp, fun x hx y hy e => by rw [List.mem_singleton.mp hy] at e; exact hk (e ▸ hx)⟩
  have rg : ∀ x ∈ seen ++ [k], x < rs.length := fun x hx => by
    rcases List.mem_append.mp hx with hx | hx
    · exact I.rng x hx
    · rw [List.mem_singleton.mp hx]; exact I.lt
  have l := nodup_len nd rg
  rw [List.length_append, List.length_singleton] at l
  refine ⟨⟨nd, rg, nx_lt R h, fun i a e => ?_, ?_⟩, by omega⟩
  · have hi := (List.getElem?_eq_some_iff.mp e).1
    rw [List.length_append, List.length_singleton] at hi
    by_cases q : i < seen.length
    · rw [List.getElem?_append_left q] at e
      rw [I.ch i a e]
      rw [List.getElem?_append_left (l₁ := seen ++ [k]) (by simp; omega)]
    · have qi : i = seen.length := by omega
      subst qi
      rw [List.getElem?_append_right (Nat.le_refl _)] at e
      simp at e
      subst e
      rw [h]
      simp
  · rw [← I.val]
    obtain ⟨f, hf⟩ : ∃ f, rs.length + 1 - seen.length = f + 1 := ⟨rs.length - seen.length, by omega⟩
    have e2 : rs.length + 1 - (seen ++ [k]).length = f := by rw [List.length_append, List.length_singleton]; omega
    rw [e2, hf]
    show _ = (match nxJ rs k with | none => k | some b => if k ∈ seen then k else stopJ (nxJ rs) f (seen ++ [k]) b)
    rw [h]
    show _ = (if k ∈ seen then k else stopJ (nxJ rs) f (seen ++ [k]) b)
    rw [if_neg hk]
theorem JInv.stop {rs : List Rw} {k0 k : Nat} {seen : List Nat} (I : JInv rs k0 seen k) (h : nxJ rs k = none ∨ k ∈ seen) : stopJ (nxJ rs) (rs.length + 1) [] k0 = k := by
  rw [← I.val]
  have := I.len
  obtain ⟨f, hf⟩ : ∃ f, rs.length + 1 - seen.length = f + 1 := ⟨rs.length - seen.length, by omega⟩
  rw [hf]
  show (match nxJ rs k with | none => k | some b => if k ∈ seen then k else stopJ (nxJ rs) f (seen ++ [k]) b) = k
  split
  · rfl
  · rename_i b e
    rcases h with h | h
    · rw [h] at e; cases e
    · rw [if_pos h]
theorem JInv.end_none {rs : List Rw} {k0 k : Nat} {seen : List Nat} (I : JInv rs k0 seen k) (h : nxJ rs k = none) : comeTo rs k0 = k := by
  unfold comeTo
  rw [I.stop (.inl h), h]
/-- the ring: from its place in those seen on to their end -/
structure KInv (rs : List Rw) (k0 c m h i : Nat) (seen : List Nat) (j : Nat) : Prop where
  at_ : seen[j]? = some c
  le : j < i ∧ i ≤ seen.length
  here : (seen ++ [c])[i]? = some h
  val : ringJ (nxJ rs) c (rs.length + 1 - (i - j - 1)) m h = comeTo rs k0
theorem JInv.ring {rs : List Rw} {k0 k b : Nat} {seen : List Nat} (I : JInv rs k0 seen k) (hk : k ∈ seen) (h : nxJ rs k = some b) : ∃ j, KInv rs k0 k k b (j + 1) seen j := by
  obtain ⟨j, hj⟩ := List.mem_iff_getElem?.mp hk
  have e := I.ch j k hj
  rw [h] at e
  refine ⟨j, hj, ⟨by omega, (List.getElem?_eq_some_iff.mp hj).1⟩, e.symm, ?_⟩
  have e2 : j + 1 - j - 1 = 0 := by omega
  rw [e2]
  unfold comeTo
  rw [I.stop (.inr hk), h]
  rfl
theorem KInv.next {rs : List Rw} (R : RwOk rs) {k0 c m h i j : Nat} {seen : List Nat} (J : JInv rs k0 seen c) (I : KInv rs k0 c m h i seen j) (hn : h ≠ c) : i < seen.length ∧ ∃ b, nxJ rs h = some b ∧ KInv rs k0 c (min m h) b (i + 1) seen j := by
  have hi : i < seen.length := by
    by_cases q : i < seen.length
    · exact q
    · exfalso
      have qi : i = seen.length := by have := I.le.2; omega
      have := I.here
      rw [qi, List.getElem?_append_right (Nat.le_refl _)] at this
      simp at this
      exact hn this.symm
  have hh : seen[i]? = some h := by have := I.here; rwa [List.getElem?_append_left hi] at this
  have e := J.ch i h hh
  have hlt : i + 1 < (seen ++ [c]).length := by simp; omega
  rw [List.getElem?_eq_getElem hlt] at e
  refine ⟨hi, _, e, I.at_, ⟨by have := I.le.1; omega, hi⟩, List.getElem?_eq_getElem hlt, ?_⟩
  rw [← I.val]
  have l := J.len
  obtain ⟨f, hf⟩ : ∃ f, rs.length + 1 - (i - j - 1) = f + 1 := ⟨rs.length - (i - j - 1), by omega⟩
  have e2 : rs.length + 1 - (i + 1 - j - 1) = f := by have := I.le.1; omega
  rw [e2, hf]
  show _ = (if h = c then m else ringJ (nxJ rs) c f (min m h) ((nxJ rs h).getD 0))
  rw [if_neg hn, e]
  rfl
theorem KInv.stop {rs : List Rw} {k0 c m h i j : Nat} {seen : List Nat} (J : JInv rs k0 seen c) (I : KInv rs k0 c m h i seen j) (hn : h = c) : comeTo rs k0 = m := by
  rw [← I.val]
  have l := J.len
  have := I.le
  obtain ⟨f, hf⟩ : ∃ f, rs.length + 1 - (i - j - 1) = f + 1 := ⟨rs.length - (i - j - 1), by omega⟩
  rw [hf]
  show (if h = c then m else _) = m
  rw [if_pos hn]
def nodeAt (rs : List Rw) (k : Nat) : Nd := match rs[k]? with
  | some (.sum _ x a s b) => .sum x a s b (comeTo rs (k + 1))
  | some (.test _ a s b to) => .test a s b (comeTo rs ((nums rs).idxOf to)) (comeTo rs (k + 1))
  | some (.fin _) => .fin
  | _ => .spin
def rawOf (rs : List Rw) : List Nd := (List.range rs.length).map (nodeAt rs)
def graphR (rs : List Rw) : List Nd := graphAt (rawOf rs) (comeTo rs 0)
theorem rawOf_len (rs : List Rw) : (rawOf rs).length = rs.length := by simp [rawOf]
theorem rawOf_at {rs : List Rw} {k : Nat} (h : k < rs.length) : (rawOf rs)[k]? = some (nodeAt rs k) := by simp [rawOf, h]
theorem place_lt {rs : List Rw} {t : Nat} (h : t ∈ nums rs) : (nums rs).idxOf t < rs.length := by rw [← nums_len]; exact List.idxOf_lt_length_iff.mpr h
theorem node_ok {rs : List Rw} (R : RwOk rs) {k : Nat} (h : k < rs.length) : (nodeAt rs k).ok rs.length ∧ (nodeAt rs k).good = true := by
  obtain ⟨r, hr⟩ : ∃ r, rs[k]? = some r := ⟨_, List.getElem?_eq_getElem h⟩
  have hm := List.mem_of_getElem? hr
  have hg := R.good r hm
  unfold nodeAt
  rw [hr]
  cases r with
  | sum n x a s b =>
    refine ⟨fun g hg => ?_, by simpa [Rw.good, Nd.good] using hg⟩
    have hg : g ∈ [comeTo rs (k + 1)] := hg
    rw [List.mem_singleton.mp hg]
    exact come_lt R (R.last k _ hr rfl)
  | test n a s b to =>
    refine ⟨fun g hg => ?_, by simpa [Rw.good, Nd.good] using hg⟩
    have hg : g ∈ [comeTo rs (k + 1), comeTo rs ((nums rs).idxOf to)] := hg
    rcases List.mem_cons.mp hg with hg | hg
    · rw [hg]; exact come_lt R (R.last k _ hr rfl)
    · rw [List.mem_singleton.mp hg]
      exact come_lt R (place_lt (R.tos _ hm to (by simp [Rw.tos])))
  | jump n to => exact ⟨fun g hg => (nomatch hg), rfl⟩
  | fin n => exact ⟨fun g hg => (nomatch hg), rfl⟩
theorem raw_ok {rs : List Rw} (R : RwOk rs) : (∀ x ∈ rawOf rs, x.ok (rawOf rs).length) ∧ ∀ x ∈ rawOf rs, x.good = true := by
  rw [rawOf_len]
  refine ⟨fun x hx => ?_, fun x hx => ?_⟩ <;>
  · unfold rawOf at hx
    obtain ⟨k, hk, rfl⟩ := List.mem_map.mp hx
    first | exact (node_ok R (List.mem_range.mp hk)).1 | exact (node_ok R (List.mem_range.mp hk)).2
theorem graphR_ok {rs : List Rw} (R : RwOk rs) : GOk (graphR rs) ∧ (graphR rs).length ≤ rs.length := by
  have := graph_okAt (raw := rawOf rs) (st := comeTo rs 0) (by rw [rawOf_len]; exact come_lt R R.pos) (raw_ok R).1 (raw_ok R).2
  rw [rawOf_len] at this
  exact this
/-- four names, in order -/
def NmsOk (nm : List Cs) : Prop := nm.length = 4 ∧ ∀ s ∈ nm, Cs.good s = true
def strsD (nm : List Cs) : List D := nm.map D.str
theorem strs_fz (nm : List Cs) : isFzL (strsD nm) = true := by rw [isFzL_all]; simp [strsD, isFz]
theorem strs_frz (nm : List Cs) : frzL (strsD nm) = strsD nm := frzL_id (strs_fz nm)
theorem strs_len (nm : List Cs) : (strsD nm).length = nm.length := by simp [strsD]
theorem ix_strs {m : Bool} {nm : List Cs} (h : nm.length = 4) {i : Nat} (hi : i < 4) : ∃ s ∈ nm, ixD (.lst m (strsD nm)) (.int (i : Int)) = some (.str s) := by
  refine ⟨nm[i], List.getElem_mem _, ?_⟩
  show (ixN (strsD nm).length (i : Int)).bind (fun j => (strsD nm)[j]?) = _
  rw [strs_len, ixN_nat (by omega)]
  show (strsD nm)[i]? = _
  unfold strsD
  rw [List.getElem?_map, List.getElem?_eq_getElem (by omega)]
  rfl
end VL
namespace VL
open PySem PySem.Spec PyProof.Rows L2 VL
/-- where a node falls to -/
def lastG : Nd → Option Nat
  | .sum _ _ _ _ to => some to
  | .test _ _ _ _ n => some n
  | _ => none
def firstRow (f : Nat → Nat) (k : Nat) : Nd → Rw
  | .sum x a s b _ => .sum (f k) x a s b
  | .test a s b y _ => .test (f k) a s b (f y)
  | .fin => .fin (f k)
  | .spin => .jump (f k) (f k)
def blk (f : Nat → Nat) (jf : Nat → Nd → Bool) (k : Nat) (x : Nd) : List Rw := firstRow f k x :: (match lastG x with
  | some t => if jf k x then [.jump (f k + 1) (f t)] else []
  | none => [])
end VL
namespace VL
open PySem PySem.Spec PyProof.Rows L2 VL
theorem okD_rw {r : Rw} (h : r.good = true) {n : Nat} (hn : 1 ≤ n) : okD n (rwD r) = true := by
  obtain ⟨n, rfl⟩ : ∃ m, n = m + 1 := ⟨n - 1, by omega⟩
  show okDL n (rwL r) = true
  have oi : ∀ i : Int, okD n (.int i) = true := fun i => by cases n <;> rfl
  have os : ∀ s : Cs, Cs.good s = true → okD n (.str s) = true := fun s hs => by cases n <;> exact hs
  have kw : ∀ s ∈ [cSum, cTest, cJump, cEnd], Cs.good s = true := by decide
  cases r with
  | sum k x a s b =>
    have h : (Cs.good x && (a.good && (Cs.good s && b.good))) = true := h
    simp only [Bool.and_eq_true] at h
    rw [okDL_all]
    simp only [rwL, List.all_cons, List.all_nil, oi, os _ (kw cSum (by simp)), os _ h.1, opD_ok h.2.1, os _ h.2.2.1, opD_ok h.2.2.2, Bool.and_true]
  | test k a s b to =>
    have h : (a.good && (Cs.good s && b.good)) = true := h
    simp only [Bool.and_eq_true] at h
    rw [okDL_all]
    simp only [rwL, List.all_cons, List.all_nil, oi, os _ (kw cTest (by simp)), opD_ok h.1, os _ h.2.1, opD_ok h.2.2, Bool.and_true]
  | jump k to =>
    rw [okDL_all]
    simp only [rwL, List.all_cons, List.all_nil, oi, os _ (kw cJump (by simp)), Bool.and_true]
  | fin k =>
    rw [okDL_all]
    simp only [rwL, List.all_cons, List.all_nil, oi, os _ (kw cEnd (by simp)), Bool.and_true]
theorem okDL_rws {rs : List Rw} (h : ∀ r ∈ rs, r.good = true) {n : Nat} (hn : 1 ≤ n) : okDL n (rs.map rwD) = true := by
  rw [okDL_all, List.all_map]
  exact List.all_eq_true.mpr fun r hr => okD_rw (h r hr) hn
theorem okD_lrws {rs : List Rw} (h : ∀ r ∈ rs, r.good = true) (m : Bool) : okD 64 (.lst m (rs.map rwD)) = true := okDL_rws h (n := 63) (by decide)
end VL
namespace VL
open PySem PySem.Spec PyProof.Rows L2 VL
def initP : Str × Option Str := ("JumpError", some "__init__")
abbrev fiA (K : PySem.W.Frag) : Addr := He.fAd K initP
/-- __init__(self, row), walked -/
def spI (K : PySem.W.Frag) : Sp := fun vs H Q _ => ∃ (a C : Addr) (r : V), vs = [.ref a, r] ∧ H a = some (exo a C none) ∧ OexC K C ∧ PySem.W.findIn K (.ref C) "row" = some none ∧
  ∀ dx, H dx = none → dx ≠ a → Q .non (upd (upd H dx (exd dx [("row", r)])) a (exo a C (some dx)))
end VL
namespace VL
open PySem PySem.Spec PyProof.Rows L2 VL
/-- the base's __init__, as every class of the law's calls it -/
structure ExFn (P : Program) (w : World) (K : PySem.W.Frag) (mg : Str → Option Value) (base : Heap) (k : Nat) : Prop where
  ex : ∃ fd ds, Vals [.non] ds ∧ Binds K fd ["self", "row"] ds ∧ FnOk P w K mg base (VL.CX P w) k (fiA K) fd ["self", "row"] (spI K)
theorem ExFn.mono {P w K mg base j k} (F : ExFn P w K mg base j) (h : j ≤ k) : ExFn P w K mg base k := let ⟨fd, ds, a, b, c⟩ := F.ex; ⟨fd, ds, a, b, c.mono h⟩
end VL
namespace VL
open PySem PySem.Spec PyProof.Rows L2 VL
section
variable {K : PySem.W.Frag} {b : Bs} {σ : L2.St} {H : Hp} {ε : Ep} {T : List D} {Tv : List V}
/-- the caught exception goes to a slot -/
theorem SI.exn {row : D} {v : V} {a dd : Addr} {cls : Value} {i : Nat} (I : SI K b σ H ε (T ++ [row]) (Tv ++ [v])) (hl : T.length = Tv.length) (e : H dd = some (.xd [("row", v)])) (fr : dd ∈ b.F0 ∨ b.H0 dd = none) (na : H a = none) (fz : isFz row = true)
    (hi : i < ε.length) (hk : ∀ u, b.kv[i]? ≠ some (some u)) : SI K b (σ.set i (some (.ref a))) (L2.upd H a (exk (clsV K cls) dd a)) (ε.set i (some (.exn a dd cls row))) T Tv := by
  have had : dd ≠ a := fun z => by rw [z, na] at e; cases e
  have hsub : Sub H (L2.upd H a (exk (clsV K cls) dd a)) := Sub.laid na
  obtain ⟨G, F, Ft, J0⟩ := I
  have nF := J0.ne na
  have nG := J0.gne na
  have aF := J0.h0 na
  have J := J0.grow hsub
  have e' : L2.upd H a (exk (clsV K cls) dd a) dd = some (.xd [("row", v)]) := hsub _ _ e
  clear J0 hsub
  generalize hH : L2.upd H a (exk (clsV K cls) dd a) = H' at J e' ⊢
  have ea : H' a = some (exk (clsV K cls) dd a) := by rw [← hH, upd_same]
  clear hH e
  obtain ⟨F1, F2, rfl, r1, r2⟩ := J.temps.split2 hl
  have r2 := RpL.one.mp r2
  have e2 := r2.fz fz
  subst e2
  have nd : dd ∉ F ++ F1 := fun z => by
    have z2 : ∃ o, H' dd = some o ∧ Mut (some o) := by
      rcases List.mem_append.mp z with z | z
      · exact J.slots.there dd z
      · exact r1.there dd z
    obtain ⟨o, eo, m⟩ := z2
    rw [e'] at eo
    cases eo
    exact m
  have sg1 : Sub G (L2.upd G dd (.xd [("row", v)])) := fun p o ep => by
    by_cases h : p = dd
    · subst h
      rw [upd_same, ← J.sub _ _ ep, e']
    · rw [upd_ne h]; exact ep
  have n1 : L2.upd G dd (.xd [("row", v)]) a = none := by rw [upd_ne had.symm]; exact nG
  have sg : Sub G (L2.upd (L2.upd G dd (.xd [("row", v)])) a (exk (clsV K cls) dd a)) := sg1.trans (Sub.laid n1)
  have nf : ∀ a ∈ F ++ F1, G a = none := fun a z => J.fr a (by simpa using z)
  refine SI.store (d := .exn a dd cls row) (v := .ref a) ⟨L2.upd (L2.upd G dd (.xd [("row", v)])) a (exk (clsV K cls) dd a), F, F1, J.s0.trans sg, fun p o ep => ?_, J.slots.mono sg fun _ _ => rfl, ?_, by simpa using J.nd, fun p z => ?_, fun p z => J.own p (by simpa using z), fun p o ea => ?_, J.keep, J.kept⟩ hl hi hk
  · by_cases h2 : p = a
    · subst h2
      rw [upd_same] at ep
      rw [ea, ep]
    · rw [upd_ne h2] at ep
      by_cases h : p = dd
      · subst h
        rw [upd_same] at ep
        rw [e', ep]
      · rw [upd_ne h] at ep; exact J.sub _ _ ep
  · have q := (r1.mono sg fun _ _ => rfl).append (RpL.one.mpr (show Rp K (L2.upd (L2.upd G dd (.xd [("row", v)])) a (exk (clsV K cls) dd a)) H' (.exn a dd cls row) (.ref a) [] from ⟨⟨rfl, upd_same⟩, v, by rw [upd_ne had]; exact upd_same, r2.mono sg fun _ _ => rfl⟩))
    rw [List.append_nil] at q
    exact q
  · have h1 : p ≠ dd := fun h => nd (h ▸ z)
    have h2 : p ≠ a := fun h => nF (by rw [← h]; simpa using z)
    rw [upd_ne h2, upd_ne h1]
    exact nf p z
  · by_cases h2 : p = a
    · subst h2
      exact .inr (inl3 aF)
    · rw [upd_ne h2] at ea
      by_cases h : p = dd
      · subst h
        exact .inr (inl3 fr)
      · rw [upd_ne h] at ea
        exact J.gn p o ea
end
end VL
namespace VL
open PySem PySem.Spec PyProof.Rows L2 VL
end VL
namespace VL
open PySem PySem.Spec PyProof.Rows L2 VL
inductive XC where
  | own (s : String)
  | ty (s : String)
def XC.val (K : PySem.W.Frag) : XC → Value
  | .own s => .ref (He.ga K (Str.ofString s))
  | .ty s => .type s
/-- a function that may refuse -/
def Osp {α : Type} (args : α → List D) (pre : α → Prop) (f : α → Option D) (cl : String) : VSp := fun ds Q E => ∃ a, ds = args a ∧ pre a ∧ match f a with
  | some r => Q r (args a)
  | none => E (.type cl) .non (args a)
theorem Osp.mono {α : Type} {args : α → List D} {pre : α → Prop} {f : α → Option D} {cl : String} : Mono (Osp args pre f cl) := fun ds A A' B B' hA hB ⟨a, e, p, q⟩ => ⟨a, e, p, by
  cases h : f a with
  | some r => rw [h] at q; exact hA _ _ q
  | none => rw [h] at q; exact hB _ _ _ q⟩
end VL
namespace VL
open PySem PySem.Spec PyProof.Rows L2 VL
/-- a method that keeps a promise over trees -/
structure Mv (P : Program) (w : World) (K : PySem.W.Frag) (mg : Str → Option Value) (base : Heap) (C : Nat) (m : Str) (k n : Nat) (vsp : VSp) : Prop where
  ex : ∃ f fd ps, Meth K (cA K C) m f ∧ Binds K fd ps [] ∧ FnOk P w K mg base (VL.CX P w) k f fd ps (Lift K n vsp)
theorem Mv.mono {P w K mg base C m j k n vsp} (F : Mv P w K mg base C m j n vsp) (h : j ≤ k) : Mv P w K mg base C m k n vsp := let ⟨f, fd, ps, a, b, d⟩ := F.ex; ⟨f, fd, ps, a, b, d.mono h⟩
end VL
namespace VL
open PySem PySem.Spec PyProof.Rows L2 VL
end VL
namespace VL
open PySem PySem.Spec PyProof.Rows L2 VL
end VL
namespace VL
open PySem PySem.Spec PyProof.Rows L2 VL
/-- a def whose last parameter has a number as default -/
structure Fd (P : Program) (w : World) (K : PySem.W.Frag) (mg : Str → Option Value) (base : Heap) (x : Str) (z : Int) (k n : Nat) (vsp : VSp) : Prop where
  ex : ∃ f fd ps, mg x = some (.ref f) ∧ PySem.W.keepIn K (.ref f) = true ∧ Binds K fd ps [] ∧ (∃ ds, Vals [.int z] ds ∧ Binds K fd ps ds) ∧ FnOk P w K mg base (VL.CX P w) k f fd ps (Lift K n vsp)
end VL
namespace VL
open PySem PySem.Spec PyProof.Rows L2 VL
end VL
namespace VL
open PySem PySem.Spec PyProof.Rows L2 VL
/-- a memory: names and what they are worth -/
abbrev Mem := List (Cs × Int)
def mmD (m : Bool) (M : Mem) : D := .dK m (M.map fun p => .inr p.1) (M.map fun p => .int p.2)
def lookM (M : Mem) (s : Cs) : Int := (M.lookup s).getD 0
def putM : Mem → Cs → Int → Mem
  | [], s, v => [(s, v)]
  | (t, w) :: M, s, v => if t = s then (t, v) :: M else (t, w) :: putM M s v
def worthM (M : Mem) : Opd → Int
  | .inl i => i
  | .inr s => lookM M s
theorem mm_fzL (M : Mem) : isFzL (M.map fun p : Cs × Int => D.int p.2) = true := by rw [isFzL_all]; simp [isFz]
theorem mm_fz (M : Mem) : isFz (mmD false M) = true := mm_fzL M
theorem mm_frz (m : Bool) (M : Mem) : frz (mmD m M) = mmD false M := by
  show D.dK false _ (frzL (M.map fun p : Cs × Int => D.int p.2)) = _
  rw [frzL_id (mm_fzL M)]
  rfl
theorem isDct_mm {m : Bool} {M : Mem} : isDct (mmD m M) = true := rfl
/-- what a sign makes of two numbers; none: refused -/
def madeV (s : Cs) (i j : Int) : Option Int := if s = [43] then some (i + j) else if s = [45] then some (i - j) else if s = [38] then some (Builtin.bitAnd i j) else if s = [94] then some (Builtin.bitXor i j) else
  if j = 0 then none else if s = [47] then some (pdiv i j) else some (pmod i j)
def holdsV (s : Cs) (i j : Int) : Bool := if s = [60] then decide (i < j) else decide (i = j)
/-- small enough to divide by -/
abbrev Sm (i : Int) : Prop := i.natAbs < 2 ^ 250
inductive Dd where
  | sum (x : Cs) (i : Int) (s : Cs) (j r : Int)
  | test (i : Int) (s : Cs) (j : Int) (t : Bool)
def dedL : Dd → List D
  | .sum x i s j r => [.str cSum, .str x, .int i, .str s, .int j, .int r]
  | .test i s j t => [.str cTest, .int i, .str s, .int j, .bl t]
def dedD (d : Dd) : D := .tup (dedL d)
theorem ded_fz (d : Dd) : isFz (dedD d) = true := by cases d <;> rfl
theorem deds_fz (ds : List Dd) : isFzL (ds.map dedD) = true := by rw [isFzL_all]; simp [ded_fz]
theorem deds_frz (ds : List Dd) : frzL (ds.map dedD) = ds.map dedD := frzL_id (deds_fz ds)
structure Dds where
  mem : Mem
  most : Int
  done : List Dd
/-- where each row stands, by its number -/
def plcD (m : Bool) (rs : List Rw) : D := .dK m (natK (nums rs)) (natsD (List.range rs.length))
theorem plc_frz (m : Bool) (rs : List Rw) : frz (plcD m rs) = plcD false rs := by
  show D.dK false _ (frzL (natsD _)) = _
  rw [natsD_frz]
  rfl
abbrev cOn : Cs := [111, 110]
abbrev cFault : Cs := [102, 97, 117, 108, 116]
abbrev Told := List Dd × Cs × Mem
def toldD (r : Told) : D := .tup [.lst true (r.1.map dedD), .str r.2.1, mmD true r.2.2]
structure RS where
  pos : Nat
  jumps : Nat
  mem : Mem
  done : List Dd
def stepR (rs : List Rw) (most : Int) (s : RS) : Option (Sum Told RS) := match rs[s.pos]? with
  | none => none
  | some (.fin _) => some (.inl (s.done, cEnd, s.mem))
  | some (.jump _ to) => if rs.length < s.jumps + 1 then some (.inl (s.done, cOn, s.mem)) else some (.inr ⟨(nums rs).idxOf to, s.jumps + 1, s.mem, s.done⟩)
  | some (.sum _ x a sg b) => if most ≤ s.done.length then some (.inl (s.done, cOn, s.mem)) else match madeV sg (worthM s.mem a) (worthM s.mem b) with
    | none => some (.inl (s.done, cFault, s.mem))
    | some v => some (.inr ⟨s.pos + 1, 0, putM s.mem x v, s.done ++ [.sum x (worthM s.mem a) sg (worthM s.mem b) v]⟩)
  | some (.test _ a sg b to) => if most ≤ s.done.length then some (.inl (s.done, cOn, s.mem)) else
      some (.inr ⟨if holdsV sg (worthM s.mem a) (worthM s.mem b) = true then (nums rs).idxOf to else s.pos + 1, 0, s.mem, s.done ++ [.test (worthM s.mem a) sg (worthM s.mem b) (holdsV sg (worthM s.mem a) (worthM s.mem b))]⟩)
/-- what is asked of a state -/
structure RSok (rs : List Rw) (s : RS) : Prop where
  lt : s.pos < rs.length
  mem : s.mem.length ≤ 100000
  done : s.done.length ≤ 100000
  sm : ∀ n x a sg b, rs[s.pos]? = some (.sum n x a sg b) → Sm (worthM s.mem b)
inductive RunsN (rs : List Rw) (most : Int) (res : Told) : Nat → RS → Prop
  | stop {s : RS} : RSok rs s → stepR rs most s = some (.inl res) → RunsN rs most res 0 s
  | go {s s' : RS} {n : Nat} : RSok rs s → stepR rs most s = some (.inr s') → RunsN rs most res n s' → RunsN rs most res (n + 1) s
theorem RunsN.ok {rs : List Rw} {most : Int} {res : Told} {n : Nat} {s : RS} : RunsN rs most res n s → RSok rs s
  | .stop h _ => h
  | .go h _ _ => h
end VL
namespace VL
open PySem PySem.Spec PyProof.Rows L2 VL
/-- the same, but for dicts that are locked or unlocked -/
def Lk (G G' : Hp) : Prop := ∀ a, G' a = G a ∨ ∃ o kvs, (G a = some (.dK kvs) ∧ G' a = some (.frz o (.dK kvs))) ∨ (G a = some (.frz o (.dK kvs)) ∧ G' a = some (.dK kvs))
section
variable {K : PySem.W.Frag} {G G' H H' : Hp}
theorem Lk.other (h : Lk G G') {a : Addr} {o : HO} (e : G a = some o) (n : ∀ kvs, o ≠ .dK kvs) (m : ∀ q kvs, o ≠ .frz q (.dK kvs)) : G' a = some o := by
  rcases h a with e2 | ⟨q, k2, ⟨e1, e2⟩ | ⟨e1, e2⟩⟩
  · rw [e2, e]
  · rw [e] at e1; cases e1; exact absurd rfl (n k2)
  · rw [e] at e1; cases e1; exact absurd rfl (m q k2)
theorem Lk.sqL (h : Lk G G') {a : Addr} {xs : List V} (r : SqL K G a xs) : SqL K G' a xs := by
  rcases r with (r | ⟨o, r⟩) | r
  · exact .inl (.inl (h.other r (fun _ z => nomatch z) fun _ _ z => nomatch z))
  · exact .inl (.inr ⟨o, h.other r (fun _ z => nomatch z) fun _ _ z => by cases z⟩)
  · exact .inr r
end
section
variable {K : PySem.W.Frag} {b : Bs} {σ : L2.St} {H : Hp} {ε : Ep} {T : List D} {Tv : List V}
/-- a dict in a slot that stands still -/
theorem SI.dictAt (I : SI K b σ H ε T Tv) {i : Nat} {ks : List Kc} {xs : List D} (e : ε[i]? = some (some (.dK false ks xs))) :
    ∃ a vs, σ[i]? = some (some (.ref a)) ∧ ks.length = vs.length ∧ ((∃ G F Ft, SIx K b G F Ft σ H ε T Tv ∧ G a = some (.dK (kzip ks vs))) ∨ ∃ o, H a = some (.frz o (.dK (kzip ks vs)))) := by
  obtain ⟨G, F, Ft, J⟩ := I
  obtain ⟨ov, A, B, C', hs, rfl, r, _⟩ := J.slots.focus e
  obtain ⟨v, rfl, a, vs, rfl, s, _, l, _, rl⟩ := r
  refine ⟨a, vs, hs, l.trans rl.len, ?_⟩
  rcases s with s | ⟨o, s⟩
  · exact .inl ⟨G, _, Ft, J, s⟩
  · exact .inr ⟨o, J.sub _ _ s⟩
end
end VL
namespace VL
open PySem PySem.Spec PyProof.Rows L2 VL
theorem ep_back {ε : Ep} {i : Nat} (h : ε[i]? = some none) (d : Option D) : (ε.set i d).set i none = ε := by
  rw [List.set_set]
  apply List.ext_getElem?
  intro j
  rw [List.getElem?_set]
  by_cases e : i = j
  · subst e
    rw [if_pos rfl]
    split
    · exact h.symm
    · next z => rw [List.getElem?_eq_none (by omega)]
  · rw [if_neg e]
theorem lc_map {α : Type} {te te' : VTE} {i : Nat} {ε : Ep} {Q : List D → Ep → Prop} {f g : α → D} (he : te = te') : ∀ (ks : List α) (acc : List D),
    (∀ k ∈ ks, ∀ P : D → Ep → Prop, P (f k) (ε.set i (some (g k))) → te' noX (ε.set i (some (g k))) P) → ε[i]? = some none → acc.length + ks.length ≤ 1000000 → Q (acc ++ ks.map f) ε → vLcL [i] (vName i) vYes te (ks.map g) acc ε Q
  | [], acc, _, _, _, q => by
    rw [List.map_nil, List.append_nil] at q
    exact q
  | k :: ks, acc, h, hn, hl, q => by
    have hl : acc.length + (ks.length + 1) ≤ 1000000 := hl
    rw [List.map_cons, e_lcU he]
    refine ⟨(List.getElem?_eq_some_iff.mp hn).1, ?_⟩
    show if (true : Bool) = true then te' noX (ε.set i (some (g k))) (fun y ε3 => acc.length < 1000000 ∧ vLcL [i] (vName i) vYes te (ks.map g) (acc ++ [y]) (forgetE [i] ε3) Q) else vLcL [i] (vName i) vYes te (ks.map g) acc (forgetE [i] (ε.set i (some (g k)))) Q
    rw [if_pos rfl]
    refine h k List.mem_cons_self _ ⟨by omega, ?_⟩
    have e : forgetE [i] (ε.set i (some (g k))) = ε := ep_back hn _
    rw [e]
    refine lc_map he ks (acc ++ [f k]) (fun k2 h2 => h k2 (List.mem_cons_of_mem _ h2)) hn (by rw [List.length_append, List.length_singleton]; omega) ?_
    rw [List.append_assoc]
    exact q
end VL
namespace VL
open PySem PySem.Spec PyProof.Rows L2 VL
end VL
namespace VL
open PySem PySem.Spec PyProof.Rows L2 VL
mutual
/-- nothing in it that stood before but numbers, texts, tuples -/
def newD : D → Bool
  | .non => true
  | .bl _ => true
  | .int _ => true
  | .str _ => true
  | .ty _ => true
  | .tup ds => newDL ds
  | .lst m ds => m && newDL ds
  | .dK m _ ds => m && newDL ds
  | .dT m _ ds => m && newDL ds
  | _ => false
def newDL : List D → Bool
  | [] => true
  | d :: ds => newD d && newDL ds
end
theorem newDL_all : ∀ ds : List D, newDL ds = ds.all newD
  | [] => by rw [newDL]; rfl
  | d :: ds => by rw [newDL, newDL_all ds, List.all_cons]
section
variable {K : PySem.W.Frag} {G1 G2 H : Hp}
mutual
theorem Rp.lend (hs : ∀ a vs, G1 a = some (.tup vs) → G2 a = some (.tup vs)) : ∀ {d : D} {v : V} {F : List Addr}, newD d = true → Rp K G1 H d v F → Rp K G2 H d v F
  | .hole, _, _, n, _ => by cases n
  | .val _, _, _, n, _ => by cases n
  | .pin _ _, _, _, n, _ => by cases n
  | .exn _ _ _ _, _, _, n, _ => by cases n
  | .ins _ _ _ _, _, _, n, _ => by cases n
  | .non, _, _, _, h => h
  | .bl _, _, _, _, h => h
  | .int _, _, _, _, h => h
  | .str _, _, _, _, h => h
  | .ty _, _, _, _, h => h
  | .tup ds, v, F, n, h => by
    obtain ⟨a, vs, e, s, r⟩ := h
    exact ⟨a, vs, e, hs _ _ s, RpL.lend hs (by simpa [newD] using n) r⟩
  | .lst false ds, v, F, n, _ => by simp [newD] at n
  | .lst true ds, v, F, n, h => by
    obtain ⟨a, vs, F', e, s, rfl, r⟩ := h
    exact ⟨a, vs, F', e, s, rfl, RpL.lend hs (by simpa [newD] using n) r⟩
  | .dK false ks ds, v, F, n, _ => by simp [newD] at n
  | .dK true ks ds, v, F, n, h => by
    obtain ⟨a, vs, F', e, s, rfl, l, nd, r⟩ := h
    exact ⟨a, vs, F', e, s, rfl, l, nd, RpL.lend hs (by simpa [newD] using n) r⟩
  | .dT false ks ds, v, F, n, _ => by simp [newD] at n
  | .dT true ks ds, v, F, n, h => by
    obtain ⟨a, vs, F', e, s, rfl, l, nd, r⟩ := h
    exact ⟨a, vs, F', e, s, rfl, l, nd, RpL.lend hs (by simpa [newD] using n) r⟩
theorem RpL.lend (hs : ∀ a vs, G1 a = some (.tup vs) → G2 a = some (.tup vs)) : ∀ {ds : List D} {vs : List V} {F : List Addr}, newDL ds = true → RpL K G1 H ds vs F → RpL K G2 H ds vs F
  | [], _, _, _, h => h
  | d :: ds, vs, F, n, h => by
    obtain ⟨v, vs', F1, F2, rfl, rfl, r, rs⟩ := h
    have n2 : newD d = true ∧ newDL ds = true := by simpa [newDL] using n
    exact ⟨v, vs', F1, F2, rfl, rfl, Rp.lend hs n2.1 r, RpL.lend hs n2.2 rs⟩
end
end
def lendG (G G1 : Hp) : Hp := fun a => match G a with
  | some o => some o
  | none => match G1 a with
    | some (.tup vs) => some (.tup vs)
    | _ => none
theorem lendG_l {G G1 : Hp} {a : Addr} {o : HO} (h : G a = some o) : lendG G G1 a = some o := by unfold lendG; rw [h]
theorem lendG_cases {G G1 : Hp} {a : Addr} {o : HO} (h : lendG G G1 a = some o) : G a = some o ∨ (G a = none ∧ ∃ vs, o = .tup vs ∧ G1 a = some (.tup vs)) := by
  unfold lendG at h
  split at h
  · next e => exact .inl (e.trans h)
  · next e =>
    split at h
    · next vs e2 => cases h; exact .inr ⟨e, vs, rfl, e2⟩
    · cases h
section
variable {K : PySem.W.Frag} {b : Bs} {σ : L2.St} {H H' : Hp} {ε : Ep} {T : List D} {Tv : List V}
theorem SI.lend (I : SI K b σ H ε T Tv) {ds : List D} {vs : List V} {r : D} {v : V} (I' : SI K (callB H H []) [] H' [] (ds ++ [r]) (vs ++ [v])) (hl : ds.length = vs.length) (hz : newD r = true) : SI K b σ H' ε (T ++ [r]) (Tv ++ [v]) := by
  obtain ⟨G, F, Ft, J⟩ := I
  obtain ⟨G1, Fs, Ft', J'⟩ := I'
  obtain ⟨_, rfl⟩ := J'.slots
  obtain ⟨F1, F2, rfl, _, r2⟩ := J'.temps.split2 hl
  have r2 := RpL.one.mp r2
  have keep : ∀ a o, H a = some o → H' a = some o := fun a o e => J'.keep a o e fun z => nomatch z
  have new : ∀ a ∈ F2, H a = none := fun a z => by
    rcases J'.own a (by simp [z]) with h | h
    · exact nomatch h
    · exact h
  have there : ∀ a ∈ F ++ Ft, ∃ o, H a = some o ∧ Mut (some o) := fun a z => by
    rcases List.mem_append.mp z with z | z
    · exact J.slots.there a z
    · exact J.temps.there a z
  have same : ∀ a ∈ F ++ Ft, H' a = H a := fun a z => by
    obtain ⟨o, e, _⟩ := there a z
    rw [e, keep a o e]
  have sg : Sub G (lendG G G1) := fun a o e => lendG_l e
  have tp : ∀ a vs, G1 a = some (.tup vs) → lendG G G1 a = some (.tup vs) := fun a vs e => by
    cases h : G a with
    | none => unfold lendG; rw [h, e]
    | some o =>
      have h1 := J'.s0 a o (J.sub a o h)
      rw [e] at h1
      cases h1
      exact lendG_l h
  refine ⟨lendG G G1, F, Ft ++ F2, J.s0.trans sg, fun a o e => ?_, J.slots.mono sg fun a z => same a (List.mem_append_left _ z), (J.temps.mono sg fun a z => same a (List.mem_append_right _ z)).append (RpL.one.mpr (Rp.lend tp hz r2)), ?_, fun a z => ?_, fun a z => ?_, fun a o e => ?_, fun a o e n => keep a o (J.keep a o e n), J.kept⟩
  · rcases lendG_cases e with h | ⟨_, vs, rfl, h2⟩
    · exact keep a o (J.sub a o h)
    · exact J'.sub a _ h2
  · rw [← List.append_assoc]
    refine List.nodup_append.mpr ⟨J.nd, ?_, fun a z c hc e => ?_⟩
    · have := J'.nd
      rw [List.nil_append] at this
      exact (List.nodup_append.mp this).2.1
    · subst e
      obtain ⟨o, e, _⟩ := there a z
      rw [new a hc] at e
      cases e
  · rw [← List.append_assoc] at z
    rcases List.mem_append.mp z with z | z
    · have g0 := J.fr a z
      cases h : lendG G G1 a with
      | none => rfl
      | some o =>
        rcases lendG_cases h with h | ⟨_, vs, rfl, h2⟩
        · rw [g0] at h; cases h
        · have h1 := J'.sub a _ h2
          rw [same a z] at h1
          obtain ⟨o, e, m⟩ := there a z
          rw [h1] at e
          cases e
          exact m.elim
    · cases h : lendG G G1 a with
      | none => rfl
      | some o =>
        rcases lendG_cases h with h | ⟨_, vs, rfl, h2⟩
        · have := J.sub a o h
          rw [new a z] at this
          cases this
        · rw [J'.fr a (by simp [z])] at h2
          cases h2
  · rw [← List.append_assoc] at z
    rcases List.mem_append.mp z with z | z
    · exact J.own a z
    · exact J.h0 (new a z)
  · rcases lendG_cases e with h | ⟨_, vs, rfl, h2⟩
    · exact J.gn a o h
    · exact .inr (.inr (.inr ⟨vs, rfl⟩))
end
section
variable {X : Cv}
def vLend (vsp : VSp) (t : VTVs) : VTE := fun N ε Q => t ε fun ds => vsp ds (fun r ds' => newD r = true ∧ Q r ε) (fun cls row ds' => newD row = true ∧ N cls row ε)
theorem ve_lend {x : Str} {p pos : Pos} {e : Expr} {es : List Expr} {t : VTVs} {k n : Nat} {vsp : VSp} (F : Fv X.prog X.w X.K X.mg X.base x k n vsp) (m : Mono vsp) (hr : Room k X.A) (hg : Gl X.toCx x) (hn : (e :: es).length = n) (ha : VVs X (e :: es) t)
    (hdb : (x == ("__debug__" : Str)) = false := by decide) (he : starEach (e :: es) X.env = (false, eval e X.env) :: starEach es X.env := by rfl) (hpl : (backTo pos (starEach es X.env)).any (·.1) = false := by rfl) :
    VE X (.Call (.Name x p) (e :: es) [] pos) (vLend vsp t) := by
  obtain ⟨f, fd, ps, hm, hk, hb, F⟩ := F.ex
  obtain ⟨t', a1, a2⟩ := ha.ex
  refine ⟨fun W => tCallS (Lift X.K n vsp) (WE W) (t' W), fun W tk => pe_callS F hr hg hm hk hb (fun σ => passAt tk σ) (a1 W tk) hdb he hpl, fun b σ H ε T Tv W N Q Q' I q kk x => ?_⟩
  refine a2 b σ H ε T Tv W _ _ I q fun ds vs H1 s1 rr l z => ?_
  have I1 := I.grow s1
  have ll : ∀ {ds' : List D} {d : D} {v : V} {H' : Hp}, SI X.K (callB H1 H1 []) [] H' [] (ds' ++ [d]) (vs ++ [v]) → ds'.length = vs.length := fun I' => by
    have := I'.lenT
    simpa using this
  refine ⟨H1, [], ds, si_view rr, by rw [l, hn], m _ _ _ _ _ (fun r ds' q' v H' I' => ?_) (fun cls row ds' q' dd v H' I' e fr => ?_) z⟩
  · exact kk r v ε H' (I1.lend I' (ll I') q'.1) q'.2
  · refine x cls dd σ H' ε row v (I1.lend I' (ll I') q'.1) e ?_ q'.2
    rcases fr with h | h
    · exact nomatch h
    · obtain ⟨_, _, _, J⟩ := I1
      exact J.h0 h
end
end VL
namespace VL
open PySem PySem.Spec PyProof.Rows L2 VL
end VL
namespace VL
open PySem PySem.Spec PyProof.Rows L2 PySem.W
/-- below 2 ^ B either way -/
abbrev Bd (B : Nat) (i : Int) : Prop := i.natAbs < 2 ^ B
def MemB (B : Nat) (M : Mem) : Prop := ∀ p ∈ M, Bd B p.2
def OpB (B : Nat) : Opd → Prop
  | .inl i => Bd B i
  | .inr _ => True
end VL
namespace VL
open PySem PySem.Spec PyProof.Rows L2 VL
abbrev cRest : Cs := [114, 101, 115, 116]
def signOk (s : Cs) : Prop := s = [43] ∨ s = [45] ∨ s = [47] ∨ s = cRest ∨ s = [38] ∨ s = [94]
def testOk (s : Cs) : Prop := s = [60] ∨ s = [61]
/-- the deed of a row; none: refused -/
def deedR (M : Mem) : Rw → Option Dd
  | .sum _ x a s b => (madeV s (worthM M a) (worthM M b)).map fun v => .sum x (worthM M a) s (worthM M b) v
  | .test _ a s b _ => some (.test (worthM M a) s (worthM M b) (holdsV s (worthM M a) (worthM M b)))
  | _ => none
theorem plc_put1 {ks : List Nat} {vs : List D} {k : Nat} {y : D} (h : k ∉ ks) (hl : vs.length < 1000000) {P : D → Prop} : (∃ c, putD (.dK true (natK ks) vs) (.int (k : Int)) y = some c ∧ P c) ↔ P (.dK true (natK (ks ++ [k])) (vs ++ [y])) := by
  have e : putD (.dK true (natK ks) vs) (.int (k : Int)) y = some (.dK true (natK (ks ++ [k])) (vs ++ [y])) := by
    show (if vs.length < 1000000 then (some (Sum.inl (k : Int) : Kc)).map (fun z => match kIx (natK ks) z with | some j => D.dK true (natK ks) (vs.set j y) | none => .dK true (natK ks ++ [z]) (vs ++ [y])) else none) = _
    rw [if_pos hl]
    show some (match kIx (natK ks) (Sum.inl (k : Int)) with | some j => D.dK true (natK ks) (vs.set j y) | none => .dK true (natK ks ++ [Sum.inl (k : Int)]) (vs ++ [y])) = _
    rw [kIx_nat, if_neg h, natK_app]
  rw [e]
  exact ⟨fun ⟨_, e, p⟩ => by cases e; exact p, fun p => ⟨_, rfl, p⟩⟩
theorem cutL_maps {α β : Type} (f : α → β) (xs : List α) (lo hi : Option Int) : cutL (xs.map f) lo hi = (cutL xs lo hi).map f := by
  unfold cutL
  rw [List.length_map, List.map_take, List.map_drop]
theorem slice_script (ns : List Int) (lo hi : Option Int) : sliceD (scriptD ns) lo hi = some (.lst true ((cutL ns lo hi).map D.int)) := by
  show (if isFzL (ns.map D.int) = true then some (D.lst true (cutL (ns.map D.int) lo hi)) else none) = _
  rw [if_pos (show isFzL (ns.map D.int) = true from script_fz ns), cutL_maps]
theorem frz_ints (ns : List Int) : frzL (ns.map D.int) = ns.map D.int := frzL_id (show isFzL (ns.map D.int) = true from script_fz ns)
theorem new_dd (d : Dd) : newD (dedD d) = true := by cases d <;> rfl
theorem new_dds (ds : List Dd) : newDL (ds.map dedD) = true := by rw [newDL_all]; simp [new_dd]
theorem new_mm (M : Mem) : newD (mmD true M) = true := by
  show (true && newDL (M.map fun p : Cs × Int => D.int p.2)) = true
  rw [newDL_all]
  simp [newD]
theorem new_told (r : Told) : newD (toldD r) = true := by
  show newDL [.lst true (r.1.map dedD), .str r.2.1, mmD true r.2.2] = true
  show ((true && newDL (r.1.map dedD)) && (true && (newD (mmD true r.2.2) && true))) = true
  rw [new_dds, new_mm]
  rfl
end VL
namespace VL
open PySem PySem.Spec PyProof.Rows L2 VL
/-- along jumps to what is none; none: round and round -/
def folJ (nx : Nat → Option Nat) : Nat → Nat → Option Nat
  | 0, _ => none
  | f + 1, p => match nx p with
    | none => some p
    | some b => folJ nx f b
def fol (rs : List Rw) (p : Nat) : Option Nat := folJ (nxJ rs) (rs.length + 1) p
theorem folJ_none {nx : Nat → Option Nat} {f p : Nat} (h : nx p = none) : folJ nx (f + 1) p = some p := by
  show (match nx p with | none => some p | some b => folJ nx f b) = _
  rw [h]
theorem folJ_some {nx : Nat → Option Nat} {f p b : Nat} (h : nx p = some b) : folJ nx (f + 1) p = folJ nx f b := by
  show (match nx p with | none => some p | some b => folJ nx f b) = _
  rw [h]
theorem folJ_end {nx : Nat → Option Nat} : ∀ {f p q : Nat}, folJ nx f p = some q → nx q = none
  | 0, _, _, h => nomatch h
  | f + 1, p, q, h => by
    cases e : nx p with
    | none => rw [folJ_none e] at h; cases h; exact e
    | some b => rw [folJ_some e] at h; exact folJ_end h
/-- n steps of jumps -/
def itJ (nx : Nat → Option Nat) : Nat → Nat → Option Nat
  | 0, p => some p
  | n + 1, p => (nx p).bind (itJ nx n)
theorem itJ_add {nx : Nat → Option Nat} : ∀ {n m p q : Nat}, itJ nx n p = some q → itJ nx (n + m) p = itJ nx m q
  | 0, m, p, q, h => by cases h; rw [Nat.zero_add]
  | n + 1, m, p, q, h => by
    rw [Nat.succ_add]
    show (nx p).bind (itJ nx (n + m)) = _
    cases e : nx p with
    | none =>
      have h : (nx p).bind (itJ nx n) = some q := h
      rw [e] at h; cases h
    | some b =>
      have h : (nx p).bind (itJ nx n) = some q := h
      rw [e] at h
      exact itJ_add (p := b) h
theorem fol_end {rs : List Rw} {p q : Nat} (h : fol rs p = some q) : nxJ rs q = none := folJ_end h
theorem fol_self {rs : List Rw} {p : Nat} (h : nxJ rs p = none) : fol rs p = some p := folJ_none h
theorem fol_twice {rs : List Rw} {p q : Nat} (h : fol rs p = some q) : fol rs q = some q := fol_self (fol_end h)
/-- a run from a place, of at most so many deeds: the deeds, the word, the memory, where it came to -/
inductive MR (rs : List Rw) : Nat → Nat → Mem → List Dd → Cs → Mem → Option Nat → Prop
  | ring {m p : Nat} {M : Mem} : fol rs p = none → MR rs m p M [] cOn M none
  | fin {m p q n : Nat} {M : Mem} : fol rs p = some q → rs[q]? = some (.fin n) → MR rs m p M [] cEnd M (some q)
  | full {p q : Nat} {r : Rw} {M : Mem} : fol rs p = some q → rs[q]? = some r → r.falls = true → MR rs 0 p M [] cOn M (some q)
  | fault {m p q : Nat} {r : Rw} {M : Mem} : fol rs p = some q → rs[q]? = some r → r.falls = true → deedR M r = none → MR rs (m + 1) p M [] cFault M (some q)
  | sum {m p q n : Nat} {x s : Cs} {a b : Opd} {v : Int} {M M' : Mem} {ds : List Dd} {w : Cs} {z : Option Nat} : fol rs p = some q → rs[q]? = some (.sum n x a s b) → madeV s (worthM M a) (worthM M b) = some v →
      MR rs m (q + 1) (putM M x v) ds w M' z → MR rs (m + 1) p M (.sum x (worthM M a) s (worthM M b) v :: ds) w M' z
  | test {m p q n to : Nat} {s : Cs} {a b : Opd} {M M' : Mem} {ds : List Dd} {w : Cs} {z : Option Nat} : fol rs p = some q → rs[q]? = some (.test n a s b to) →
      MR rs m (if holdsV s (worthM M a) (worthM M b) = true then (nums rs).idxOf to else q + 1) M ds w M' z → MR rs (m + 1) p M (.test (worthM M a) s (worthM M b) (holdsV s (worthM M a) (worthM M b)) :: ds) w M' z
section
variable {rs : List Rw}
/-- only one answer -/
theorem MR.one {m p : Nat} {M : Mem} {ds ds' : List Dd} {w w' : Cs} {M1 M2 : Mem} {z z' : Option Nat} (h : MR rs m p M ds w M1 z) (k : MR rs m p M ds' w' M2 z') : ds = ds' ∧ w = w' ∧ M1 = M2 ∧ z = z' := by
  induction h generalizing ds' w' M2 z' with
  | ring h =>
    cases k with
    | ring _ => exact ⟨rfl, rfl, rfl, rfl⟩
    | fin e _ => rw [h] at e; cases e
    | full e _ _ => rw [h] at e; cases e
    | fault e _ _ _ => rw [h] at e; cases e
    | sum e _ _ _ => rw [h] at e; cases e
    | test e _ _ => rw [h] at e; cases e
  | fin h h2 =>
    cases k with
    | ring e => rw [h] at e; cases e
    | fin e _ => rw [h] at e; cases e; exact ⟨rfl, rfl, rfl, rfl⟩
    | full e e2 e3 => rw [h] at e; cases e; rw [h2] at e2; cases e2; cases e3
    | fault e e2 e3 _ => rw [h] at e; cases e; rw [h2] at e2; cases e2; cases e3
    | sum e e2 _ _ => rw [h] at e; cases e; rw [h2] at e2; cases e2
    | test e e2 _ => rw [h] at e; cases e; rw [h2] at e2; cases e2
  | full h h2 h3 =>
    cases k with
    | ring e => rw [h] at e; cases e
    | fin e e2 => rw [h] at e; cases e; rw [h2] at e2; cases e2; cases h3
    | full e _ _ => rw [h] at e; cases e; exact ⟨rfl, rfl, rfl, rfl⟩
  | fault h h2 h3 h4 =>
    cases k with
    | ring e => rw [h] at e; cases e
    | fin e e2 => rw [h] at e; cases e; rw [h2] at e2; cases e2; cases h3
    | fault e _ _ _ => rw [h] at e; cases e; exact ⟨rfl, rfl, rfl, rfl⟩
    | sum e e2 e3 _ => rw [h] at e; cases e; rw [h2] at e2; cases e2; simp [deedR, e3] at h4
    | test e e2 _ => rw [h] at e; cases e; rw [h2] at e2; cases e2; simp [deedR] at h4
  | sum h h2 h3 _ ih =>
    cases k with
    | ring e => rw [h] at e; cases e
    | fin e e2 => rw [h] at e; cases e; rw [h2] at e2; cases e2
    | fault e e2 e3 e4 => rw [h] at e; cases e; rw [h2] at e2; cases e2; simp [deedR, h3] at e4
    | sum e e2 e3 r =>
      rw [h] at e; cases e; rw [h2] at e2; cases e2; rw [h3] at e3; cases e3
      obtain ⟨rfl, rfl, rfl, rfl⟩ := ih r
      exact ⟨rfl, rfl, rfl, rfl⟩
    | test e e2 _ => rw [h] at e; cases e; rw [h2] at e2; cases e2
  | test h h2 _ ih =>
    cases k with
    | ring e => rw [h] at e; cases e
    | fin e e2 => rw [h] at e; cases e; rw [h2] at e2; cases e2
    | fault e e2 e3 e4 => rw [h] at e; cases e; rw [h2] at e2; cases e2; simp [deedR] at e4
    | sum e e2 e3 r => rw [h] at e; cases e; rw [h2] at e2; cases e2
    | test e e2 r =>
      rw [h] at e; cases e; rw [h2] at e2; cases e2
      obtain ⟨rfl, rfl, rfl, rfl⟩ := ih r
      exact ⟨rfl, rfl, rfl, rfl⟩
theorem MR.len {m p : Nat} {M : Mem} {ds : List Dd} {w : Cs} {M1 : Mem} {z : Option Nat} (h : MR rs m p M ds w M1 z) : ds.length ≤ m := by
  induction h with
  | sum _ _ _ _ ih => simpa using ih
  | test _ _ _ ih => simpa using ih
  | _ => simp
theorem MR.from {m p q : Nat} {M M1 : Mem} {ds : List Dd} {w : Cs} {z : Option Nat} (h : MR rs m q M ds w M1 z) (hf : fol rs p = fol rs q) : MR rs m p M ds w M1 z := by
  cases h with
  | ring h => exact .ring (hf.trans h)
  | fin h h2 => exact .fin (hf.trans h) h2
  | full h h2 h3 => exact .full (hf.trans h) h2 h3
  | fault h h2 h3 h4 => exact .fault (hf.trans h) h2 h3 h4
  | sum h h2 h3 r => exact .sum (hf.trans h) h2 h3 r
  | test h h2 r => exact .test (hf.trans h) h2 r
theorem MR.on {m p q : Nat} {M M1 : Mem} {ds : List Dd} {w : Cs} (h : MR rs m p M ds w M1 (some q)) {j : Nat} {ds2 : List Dd} {w2 : Cs} {M2 : Mem} {z2 : Option Nat} (k : MR rs (j + 1) q M1 ds2 w2 M2 z2) : MR rs (m + (j + 1)) p M (ds ++ ds2) w2 M2 z2 := by
  generalize hz : some q = z at h
  induction h with
  | ring _ => cases hz
  | fin h h2 =>
    cases hz
    have k2 := k.one (.fin (fol_twice h) h2)
    obtain ⟨rfl, rfl, rfl, rfl⟩ := k2
    exact .fin h h2
  | full h h2 h3 =>
    cases hz
    rw [Nat.zero_add]
    exact k.from (h.trans (fol_twice h).symm)
  | fault h h2 h3 h4 =>
    cases hz
    have k2 := k.one (.fault (fol_twice h) h2 h3 h4)
    obtain ⟨rfl, rfl, rfl, rfl⟩ := k2
    rw [Nat.succ_add]
    exact .fault h h2 h3 h4
  | sum h1 h2 h3 _ ih =>
    rw [Nat.succ_add]
    exact .sum h1 h2 h3 (ih k hz)
  | test h1 h2 _ ih =>
    rw [Nat.succ_add]
    exact .test h1 h2 (ih k hz)
end
end VL
namespace VL
open PySem PySem.Spec PyProof.Rows L2 VL
end VL
namespace VL
open PySem PySem.Spec PyProof.Rows L2 VL
theorem ded_frz (d : Dd) : frz (dedD d) = dedD d := frz_id (ded_fz d)
theorem rwD_frz (r : Rw) : frz (rwD r) = rwD r := frz_id (rwD_fz r)
section
variable {rs : List Rw}
/-- where a run ended -/
theorem MR.last {m p : Nat} {M : Mem} {ds : List Dd} {w : Cs} {M1 : Mem} {z : Option Nat} (h : MR rs m p M ds w M1 z) :
    (z = none ∧ w = cOn) ∨ (∃ q n, z = some q ∧ rs[q]? = some (.fin n) ∧ w = cEnd) ∨ ∃ q r, z = some q ∧ rs[q]? = some r ∧ r.falls = true ∧ ((ds.length = m ∧ w = cOn) ∨ (ds.length < m ∧ deedR M1 r = none ∧ w = cFault)) := by
  induction h with
  | ring _ => exact .inl ⟨rfl, rfl⟩
  | fin _ h2 => exact .inr (.inl ⟨_, _, rfl, h2, rfl⟩)
  | full _ h2 h3 => exact .inr (.inr ⟨_, _, rfl, h2, h3, .inl ⟨rfl, rfl⟩⟩)
  | fault _ h2 h3 h4 => exact .inr (.inr ⟨_, _, rfl, h2, h3, .inr ⟨Nat.succ_pos _, h4, rfl⟩⟩)
  | sum _ _ _ _ ih =>
    rcases ih with h | h | ⟨q, r, h1, h2, h3, h4⟩
    · exact .inl h
    · exact .inr (.inl h)
    · refine .inr (.inr ⟨q, r, h1, h2, h3, ?_⟩)
      rcases h4 with ⟨h, e⟩ | ⟨h, e⟩
      · exact .inl ⟨by simp [h], e⟩
      · exact .inr ⟨by simpa using h, e⟩
  | test _ _ _ ih =>
    rcases ih with h | h | ⟨q, r, h1, h2, h3, h4⟩
    · exact .inl h
    · exact .inr (.inl h)
    · refine .inr (.inr ⟨q, r, h1, h2, h3, ?_⟩)
      rcases h4 with ⟨h, e⟩ | ⟨h, e⟩
      · exact .inl ⟨by simp [h], e⟩
      · exact .inr ⟨by simpa using h, e⟩
end
end VL
namespace VL
open PySem PySem.Spec PyProof.Rows L2 VL
end VL
namespace VL
open PySem PySem.Spec PyProof.Rows L2 VL
abbrev cIf : Cs := [105, 102]
abbrev cElse : Cs := [101, 108, 115, 101]
abbrev cDone : Cs := [100, 111, 110, 101]
abbrev cRound : Cs := [114, 111, 117, 110, 100]
abbrev cPart : Cs := [112, 97, 114, 116]
abbrev cLeave : Cs := [108, 101, 97, 118, 101]
abbrev cAgain : Cs := [97, 103, 97, 105, 110]
abbrev cChoice : Cs := [99, 104, 111, 105, 99, 101]
inductive Ln where
  | sum (x : Cs) (a : Opd) (s : Cs) (b : Opd)
  | iff (a : Opd) (s : Cs) (b : Opd)
  | els
  | done
  | round (n : Int)
  | part (n : Int)
  | leave (n : Int)
  | again (n : Int)
  | fin
def lnL : Ln → List D
  | .sum x a s b => [.str cSum, .str x, opD a, .str s, opD b]
  | .iff a s b => [.str cIf, opD a, .str s, opD b]
  | .els => [.str cElse]
  | .done => [.str cDone]
  | .round n => [.str cRound, .int n]
  | .part n => [.str cPart, .int n]
  | .leave n => [.str cLeave, .int n]
  | .again n => [.str cAgain, .int n]
  | .fin => [.str cEnd]
def lnD (l : Ln) : D := .tup (lnL l)
theorem ln_fzL (l : Ln) : isFzL (lnL l) = true := by cases l <;> simp [lnL, isFzL, isFz, opD_fz]
theorem ln_fz (l : Ln) : isFz (lnD l) = true := ln_fzL l
theorem ln_frz (l : Ln) : frz (lnD l) = lnD l := frz_id (ln_fz l)
theorem lns_fz (L : List Ln) : isFzL (L.map lnD) = true := by rw [isFzL_all]; simp [ln_fz]
theorem lns_frz (L : List Ln) : frzL (L.map lnD) = L.map lnD := frzL_id (lns_fz L)
/-- what is open -/
inductive Tk where
  | iff
  | els
  | rnd (n : Int)
  | prt (n : Int)
def tkD : Tk → D
  | .iff => .tup [.str cIf, .int (-1)]
  | .els => .tup [.str cElse, .int (-1)]
  | .rnd n => .tup [.str cRound, .int n]
  | .prt n => .tup [.str cPart, .int n]
theorem tk_fz (k : Tk) : isFz (tkD k) = true := by cases k <;> rfl
theorem tks_fz (st : List Tk) : isFzL (st.map tkD) = true := by rw [isFzL_all]; simp [tk_fz]
theorem tks_frz (st : List Tk) : frzL (st.map tkD) = st.map tkD := frzL_id (tks_fz st)
/-- open ones as Python has them: the innermost last -/
def stD (st : List Tk) : List D := st.reverse.map tkD
theorem std_fz (st : List Tk) : isFzL (stD st) = true := tks_fz _
theorem std_frz (st : List Tk) : frzL (stD st) = stD st := tks_frz _
theorem std_len (st : List Tk) : (stD st).length = st.length := by simp [stD]
def stepT (st : List Tk) : Ln → Option (List Tk)
  | .iff _ _ _ => some (.iff :: st)
  | .round n => some (.rnd n :: st)
  | .part n => some (.prt n :: st)
  | .els => match st with
    | .iff :: t => some (.els :: t)
    | _ => none
  | .done => match st with
    | _ :: t => some t
    | [] => none
  | _ => some st
def home (st : List Tk) (n : Int) : Prop := Tk.rnd n ∈ st ∨ Tk.prt n ∈ st
def okT (st : List Tk) : Ln → Prop
  | .iff _ _ _ => st.length < 60
  | .round _ => st.length < 60
  | .part _ => st.length < 60
  | .leave n => home st n
  | .again n => Tk.rnd n ∈ st
  | _ => True
inductive RunsP (P : List Tk → Ln → Prop) : List Tk → List Ln → List Tk → Prop
  | nil {st : List Tk} : RunsP P st [] st
  | cons {st st1 st2 : List Tk} {l : Ln} {L : List Ln} : stepT st l = some st1 → P st l → RunsP P st1 L st2 → RunsP P st (l :: L) st2
theorem RunsP.mono {P P' : List Tk → Ln → Prop} (h : ∀ st l, P st l → P' st l) {st st' : List Tk} {L : List Ln} (r : RunsP P st L st') : RunsP P' st L st' := by
  induction r with
  | nil => exact .nil
  | cons e p _ ih => exact .cons e (h _ _ p) ih
theorem RunsP.app {P : List Tk → Ln → Prop} {a b c : List Tk} {L M : List Ln} (h : RunsP P a L b) (k : RunsP P b M c) : RunsP P a (L ++ M) c := by
  induction h with
  | nil => exact k
  | cons e p _ ih => exact .cons e p (ih k)
theorem RunsP.snoc {P : List Tk → Ln → Prop} {a b c : List Tk} {L : List Ln} {l : Ln} (h : RunsP P a L b) (e : stepT b l = some c) (p : P b l) : RunsP P a (L ++ [l]) c := h.app (.cons e p .nil)
inductive Fm where
  | sum (x : Cs) (a : Opd) (s : Cs) (b : Opd)
  | choice (a : Opd) (s : Cs) (b : Opd) (yes no : List Fm) (e : Bool)
  | round (n : Int) (body : List Fm)
  | part (n : Int) (body : List Fm)
  | leave (n : Int)
  | again (n : Int)
  | fin
mutual
def lnsF : Fm → List Ln
  | .sum x a s b => [.sum x a s b]
  | .choice a s b y n e => .iff a s b :: (lnsL y ++ ((if e = true then .els :: lnsL n else []) ++ [.done]))
  | .round n b => .round n :: (lnsL b ++ [.done])
  | .part n b => .part n :: (lnsL b ++ [.done])
  | .leave n => [.leave n]
  | .again n => [.again n]
  | .fin => [.fin]
def lnsL : List Fm → List Ln
  | [] => []
  | f :: fs => lnsF f ++ lnsL fs
end
mutual
def fmD : Fm → D
  | .sum x a s b => .tup [.str cSum, .str x, opD a, .str s, opD b]
  | .choice a s b y n e => .tup [.str cChoice, opD a, .str s, opD b, .lst false (fmsD y), .lst false (if e = true then fmsD n else [])]
  | .round n b => .tup [.str cRound, .int n, .lst false (fmsD b)]
  | .part n b => .tup [.str cPart, .int n, .lst false (fmsD b)]
  | .leave n => .tup [.str cLeave, .int n]
  | .again n => .tup [.str cAgain, .int n]
  | .fin => .tup [.str cEnd]
def fmsD : List Fm → List D
  | [] => []
  | f :: fs => fmD f :: fmsD fs
end
mutual
/-- how deep: a list without lists is 1 deep -/
def dpF : Fm → Nat
  | .choice _ _ _ y n e => max (dpL y) (if e = true then dpL n else 0) + 1
  | .round _ b => dpL b + 1
  | .part _ b => dpL b + 1
  | _ => 0
def dpL : List Fm → Nat
  | [] => 0
  | f :: fs => max (dpF f) (dpL fs)
end
mutual
theorem fm_fz : ∀ f : Fm, isFz (fmD f) = true
  | .sum x a s b => by simp [fmD, isFz, isFzL, opD_fz]
  | .choice a s b y n e => by
    have h1 := fms_fz y
    have h2 := fms_fz n
    rw [fmD]
    cases e <;> simp [isFz, isFzL, opD_fz, h1, h2]
  | .round n b => by
    have h1 := fms_fz b
    simp [fmD, isFz, isFzL, h1]
  | .part n b => by
    have h1 := fms_fz b
    simp [fmD, isFz, isFzL, h1]
  | .leave n => by simp [fmD, isFz, isFzL]
  | .again n => by simp [fmD, isFz, isFzL]
  | .fin => by simp [fmD, isFz, isFzL]
theorem fms_fz : ∀ fs : List Fm, isFzL (fmsD fs) = true
  | [] => by rw [fmsD]; rfl
  | f :: fs => by
    rw [fmsD]
    show (isFz (fmD f) && isFzL (fmsD fs)) = true
    rw [fm_fz f, fms_fz fs]
    rfl
end
theorem fms_frz (fs : List Fm) : frzL (fmsD fs) = fmsD fs := frzL_id (fms_fz fs)
theorem fm_frz (f : Fm) : frz (fmD f) = fmD f := frz_id (fm_fz f)
end VL
namespace VL
open PySem PySem.Spec PyProof.Rows L2 VL
def isLet (c : Nat) : Bool := decide (97 ≤ c ∧ c ≤ 122)
def isLd (c : Nat) : Bool := isLet c || decide (48 ≤ c ∧ c ≤ 57)
def keptW : List Cs := [[105, 102], [106, 117, 109, 112], [101, 110, 100], [114, 101, 115, 116], [114, 111, 117, 110, 100], [112, 97, 114, 116], [108, 101, 97, 118, 101], [97, 103, 97, 105, 110], [101, 108, 115, 101], [100, 111, 110, 101]]
/-- a letter ahead, then letters and figures -/
def wordOk (s : Cs) : Prop := (∃ c t, s = c :: t ∧ isLet c = true) ∧ ∀ c ∈ s, isLd c = true
def NameOk (s : Cs) : Prop := wordOk s ∧ s.length ≤ 8 ∧ s ∉ keptW
def OpdOk : Opd → Prop
  | .inl i => i.natAbs < 1000000000000000000
  | .inr s => NameOk s
theorem opd_bd {a : Opd} (h : OpdOk a) : OpB 61 a := by
  cases a with
  | inl i =>
    have h : i.natAbs < 1000000000000000000 := h
    show i.natAbs < 2 ^ 61
    omega
  | inr s => trivial
def LnOk : Ln → Prop
  | .sum x a s b => NameOk x ∧ OpdOk a ∧ signOk s ∧ OpdOk b
  | .iff a s b => OpdOk a ∧ testOk s ∧ OpdOk b
  | _ => True
/-- the numbers of rounds and parts -/
def homes : List Ln → List Int
  | [] => []
  | .round n :: L => n :: homes L
  | .part n :: L => n :: homes L
  | _ :: L => homes L
theorem homes_app (L M : List Ln) : homes (L ++ M) = homes L ++ homes M := by
  induction L with
  | nil => rfl
  | cons l L ih => cases l <;> simp [homes, ih]
/-- lines as they are drawn, up to so many -/
structure GenOk (L : List Ln) : Prop where
  runs : RunsP okT [] L []
  ln : ∀ l ∈ L, LnOk l
  nd : (homes L).Nodup
  rng : ∀ n ∈ homes L, 0 ≤ n ∧ n ≤ 9999
  few : L.length ≤ 121
end VL
namespace VL
open PySem PySem.Spec PyProof.Rows L2 VL
/-- what a drawn line keeps: the rounds and parts that are open -/
def hm (f k : Int) : Int := (f + 97 * k) % 10000
theorem hm_rng (f k : Int) : 0 ≤ hm f k ∧ hm f k ≤ 9999 := by
  unfold hm
  have h1 := Int.emod_nonneg (f + 97 * k) (show (10000 : Int) ≠ 0 by decide)
  have h2 := Int.emod_lt_of_pos (f + 97 * k) (show (0 : Int) < 10000 by decide)
  omega
theorem hm_inj {f : Int} {i j : Nat} (hi : i < 1000) (hj : j < 1000) (h : hm f (i : Int) = hm f (j : Int)) : i = j := by
  unfold hm at h
  omega
/-- k steps are done -/
structure GSt (f : Int) (k : Nat) (L : List Ln) (st : List Tk) : Prop where
  runs : RunsP okT [] L st
  ln : ∀ l ∈ L, LnOk l
  hs : ∃ js : List Nat, homes L = js.map (fun j : Nat => hm f (j : Int)) ∧ js.Pairwise (· < ·) ∧ ∀ j ∈ js, j < k
  len : L.length = k
  few : st.length ≤ 60
  pos : ∀ n, home st n → 0 ≤ n
/-- one line more -/
structure GLn (f : Int) (k : Nat) (st : List Tk) (l : Ln) (st' : List Tk) : Prop where
  step : stepT st l = some st'
  ok : okT st l
  ln : LnOk l
  hm : homes [l] = [] ∨ homes [l] = [hm f (k : Int)]
theorem stepT_len {st st' : List Tk} {l : Ln} (h : stepT st l = some st') (ho : okT st l) (hl : st.length ≤ 60) : st'.length ≤ 60 := by
  cases l with
  | iff a s b => cases h; have : st.length < 60 := ho; simp; omega
  | round n => cases h; have : st.length < 60 := ho; simp; omega
  | part n => cases h; have : st.length < 60 := ho; simp; omega
  | els =>
    cases st with
    | nil => cases h
    | cons k t => cases k <;> cases h; simpa using hl
  | done =>
    cases st with
    | nil => cases h
    | cons k t => cases h; simp at hl; omega
  | _ => cases h; exact hl
theorem stepT_home {st st' : List Tk} {l : Ln} (h : stepT st l = some st') {n : Int} (hn : home st' n) : home st n ∨ n ∈ homes [l] := by
  cases l with
  | iff a s b =>
    cases h
    rcases hn with hn | hn
    · exact .inl (.inl (by simpa using hn))
    · exact .inl (.inr (by simpa using hn))
  | round m =>
    cases h
    rcases hn with hn | hn
    · rcases List.mem_cons.mp hn with e | hn
      · cases e; exact .inr (by simp [homes])
      · exact .inl (.inl hn)
    · exact .inl (.inr (by simpa using hn))
  | part m =>
    cases h
    rcases hn with hn | hn
    · exact .inl (.inl (by simpa using hn))
    · rcases List.mem_cons.mp hn with e | hn
      · cases e; exact .inr (by simp [homes])
      · exact .inl (.inr hn)
  | els =>
    cases st with
    | nil => cases h
    | cons k t =>
      cases k <;> cases h
      rcases hn with hn | hn
      · exact .inl (.inl (by simpa using hn))
      · exact .inl (.inr (by simpa using hn))
  | done =>
    cases st with
    | nil => cases h
    | cons k t =>
      cases h
      rcases hn with hn | hn
      · exact .inl (.inl (List.mem_cons_of_mem _ hn))
      · exact .inl (.inr (List.mem_cons_of_mem _ hn))
  | _ => cases h; exact .inl hn
theorem GSt.next {f : Int} {k : Nat} {L : List Ln} {st st' : List Tk} {l : Ln} (G : GSt f k L st) (h : GLn f k st l st') : GSt f (k + 1) (L ++ [l]) st' where
  runs := G.runs.snoc h.step h.ok
  ln := fun x hx => by
    rcases List.mem_append.mp hx with hx | hx
    · exact G.ln x hx
    · rw [List.mem_singleton.mp hx]; exact h.ln
  hs := by
    obtain ⟨js, e, pw, lt⟩ := G.hs
    rw [homes_app, e]
    rcases h.hm with e2 | e2
    · exact ⟨js, by rw [e2, List.append_nil], pw, fun j hj => by have := lt j hj; omega⟩
    · refine ⟨js ++ [k], by rw [e2, List.map_append]; rfl, ?_, fun j hj => ?_⟩
      · exact List.pairwise_append.mpr ⟨pw, List.pairwise_singleton _ _, fun a ha b hb => by rw [List.mem_singleton.mp hb]; exact lt a ha⟩
      · rcases List.mem_append.mp hj with hj | hj
        · have := lt j hj; omega
        · rw [List.mem_singleton.mp hj]; omega
  len := by rw [List.length_append, G.len]; rfl
  few := stepT_len h.step h.ok G.few
  pos := fun n hn => by
    rcases stepT_home h.step hn with hn | hn
    · exact G.pos n hn
    · rcases h.hm with e | e
      · rw [e] at hn; cases hn
      · rw [e] at hn
        rw [List.mem_singleton.mp hn]
        exact (hm_rng f k).1
/-- what is open at the end is closed -/
theorem close_runs : ∀ (st : List Tk), RunsP okT st (List.replicate st.length .done) []
  | [] => .nil
  | _ :: t => .cons (st1 := t) rfl trivial (close_runs t)
theorem homes_done (n : Nat) : homes (List.replicate n .done) = [] := by
  induction n with
  | zero => rfl
  | succ n ih => exact ih
theorem GSt.gen {f : Int} {k : Nat} {L : List Ln} {st : List Tk} (G : GSt f k L st) (hk : k ≤ 61) : GenOk (L ++ List.replicate st.length .done) where
  runs := G.runs.app (close_runs st)
  ln := fun x hx => by
    rcases List.mem_append.mp hx with hx | hx
    · exact G.ln x hx
    · rw [(List.mem_replicate.mp hx).2]; trivial
  nd := by
    obtain ⟨js, e, pw, lt⟩ := G.hs
    rw [homes_app, homes_done, List.append_nil, e]
    refine List.pairwise_map.mpr (pw.imp_of_mem fun {a b} ha hb hab e => ?_)
    have := hm_inj (by have := lt a ha; omega) (by have := lt b hb; omega) e
    omega
  rng := fun n hn => by
    obtain ⟨js, e, pw, lt⟩ := G.hs
    rw [homes_app, homes_done, List.append_nil, e] at hn
    obtain ⟨j, _, rfl⟩ := List.mem_map.mp hn
    exact hm_rng f j
  few := by
    have := G.few
    have := G.len
    simp
    omega
end VL
namespace VL
open PySem PySem.Spec PyProof.Rows L2 VL
end VL
namespace VL
open PySem PySem.Spec PyProof.Rows L2 VL
end VL
namespace VL
open PySem PySem.Spec PyProof.Rows L2 VL
inductive All2 {α β : Type} (R : α → β → Prop) : List α → List β → Prop
  | nil : All2 R [] []
  | cons {a : α} {b : β} {l : List α} {m : List β} : R a b → All2 R l m → All2 R (a :: l) (b :: m)
theorem All2.app {α β : Type} {R : α → β → Prop} {a c : List α} {b d : List β} (h : All2 R a b) (k : All2 R c d) : All2 R (a ++ c) (b ++ d) := by
  induction h with
  | nil => exact k
  | cons r _ ih => exact .cons r ih
theorem All2.id {α : Type} {R : α → α → Prop} (h : ∀ a, R a a) : ∀ l : List α, All2 R l l
  | [] => .nil
  | a :: l => .cons (h a) (All2.id h l)
theorem All2.len {α β : Type} {R : α → β → Prop} {a : List α} {b : List β} (h : All2 R a b) : a.length = b.length := by
  induction h with
  | nil => rfl
  | cons _ _ ih => simp [ih]
/-- numbers changed, rounds and parts, leave and again: the same nesting -/
def sameSh : Ln → Ln → Prop
  | .round _, .round _ => True
  | .round _, .part _ => True
  | .part _, .round _ => True
  | .part _, .part _ => True
  | .leave _, .leave _ => True
  | .leave _, .again _ => True
  | .again _, .leave _ => True
  | .again _, .again _ => True
  | a, b => a = b
theorem sameSh.refl (l : Ln) : sameSh l l := by cases l <;> simp [sameSh]
end VL
namespace VL
open PySem PySem.Spec PyProof.Rows L2 VL
end VL
namespace VL
open PySem PySem.Spec PyProof.Rows L2 VL
/-- where a list goes -/
inductive Gs where
  | nil
  | leave (n : Int)
  | again (n : Int)
  | fin
  | on
abbrev Rs := Dds × Option Gs
def testD (d : Dds) (a : Opd) (s : Cs) (b : Opd) : Dds := ⟨d.mem, d.most, d.done ++ [.test (worthM d.mem a) s (worthM d.mem b) (holdsV s (worthM d.mem a) (worthM d.mem b))]⟩
inductive Opn where
  | sum (x : Cs) (a : Opd) (s : Cs) (b : Opd) (to : Nat)
  | test (a : Opd) (s : Cs) (b : Opd) (yes no : Nat)
  | stop
structure Cd where
  nx : Nat → Option Nat
  op : Nat → Opn
section
variable {c : Cd}
/-- in silence -/
def Sl (c : Cd) (p q : Nat) : Prop := ∃ n, itJ c.nx n p = some q
def Sl1 (c : Cd) (p q : Nat) : Prop := ∃ n, itJ c.nx (n + 1) p = some q
def Fol (c : Cd) (p q : Nat) : Prop := Sl c p q ∧ c.nx q = none
theorem Sl.refl {p : Nat} : Sl c p p := ⟨0, rfl⟩
theorem Sl.trans {p q r : Nat} (h : Sl c p q) (k : Sl c q r) : Sl c p r := by
  obtain ⟨n, h⟩ := h
  obtain ⟨m, k⟩ := k
  exact ⟨n + m, by rw [itJ_add h]; exact k⟩
theorem Sl1.sl {p q : Nat} (h : Sl1 c p q) : Sl c p q := let ⟨n, h⟩ := h; ⟨n + 1, h⟩
theorem Sl.then1 {p q r : Nat} (h : Sl c p q) (k : Sl1 c q r) : Sl1 c p r := by
  obtain ⟨n, h⟩ := h
  obtain ⟨m, k⟩ := k
  exact ⟨n + m, by rw [show n + m + 1 = n + (m + 1) by omega, itJ_add h]; exact k⟩
theorem it_stop {p q : Nat} (h : c.nx p = none) : ∀ {n : Nat}, itJ c.nx n p = some q → n = 0 ∧ q = p
  | 0, e => ⟨rfl, (Option.some.inj e).symm⟩
  | n + 1, e => by
    have e : (c.nx p).bind (itJ c.nx n) = some q := e
    rw [h] at e
    cases e
theorem Fol.one {p q r : Nat} (h : Fol c p q) (k : Fol c p r) : q = r := by
  obtain ⟨⟨n, h⟩, hq⟩ := h
  obtain ⟨⟨m, k⟩, hr⟩ := k
  rcases Nat.le_total n m with l | l
  · have e := itJ_add (m := m - n) h
    rw [show n + (m - n) = m by omega, k] at e
    exact (it_stop hq e.symm).2.symm
  · have e := itJ_add (m := n - m) k
    rw [show m + (n - m) = n by omega, h] at e
    exact (it_stop hr e.symm).2
theorem Fol.self {p : Nat} (h : c.nx p = none) : Fol c p p := ⟨.refl, h⟩
theorem Fol.back {p q r : Nat} (h : Sl c p q) (k : Fol c q r) : Fol c p r := ⟨h.trans k.1, k.2⟩
theorem Fol.on {p q r : Nat} (h : Sl c p q) (k : Fol c p r) : Fol c q r := by
  obtain ⟨n, h⟩ := h
  obtain ⟨⟨m, k⟩, hr⟩ := k
  rcases Nat.le_total n m with l | l
  · have e := itJ_add (m := m - n) h
    rw [show n + (m - n) = m by omega, k] at e
    exact ⟨⟨_, e.symm⟩, hr⟩
  · have e := itJ_add (m := n - m) k
    rw [show m + (n - m) = n by omega, h] at e
    rw [(it_stop hr e.symm).2]
    exact .self hr
/-- a run of code from deed to deed -/
inductive MG (c : Cd) : Nat → Nat → Mem → List Dd → Cs → Mem → Prop
  | ring {m p : Nat} {M : Mem} : (∀ q, ¬Fol c p q) → MG c m p M [] cOn M
  | fin {m p q : Nat} {M : Mem} : Fol c p q → c.op q = .stop → MG c m p M [] cEnd M
  | full {p q : Nat} {M : Mem} : Fol c p q → c.op q ≠ .stop → MG c 0 p M [] cOn M
  | fault {m p q : Nat} {x s : Cs} {a b : Opd} {t : Nat} {M : Mem} : Fol c p q → c.op q = .sum x a s b t → madeV s (worthM M a) (worthM M b) = none → MG c (m + 1) p M [] cFault M
  | sum {m p q t : Nat} {x s : Cs} {a b : Opd} {v : Int} {M M' : Mem} {ds : List Dd} {w : Cs} : Fol c p q → c.op q = .sum x a s b t → madeV s (worthM M a) (worthM M b) = some v →
      MG c m t (putM M x v) ds w M' → MG c (m + 1) p M (.sum x (worthM M a) s (worthM M b) v :: ds) w M'
  | test {m p q y n : Nat} {s : Cs} {a b : Opd} {M M' : Mem} {ds : List Dd} {w : Cs} : Fol c p q → c.op q = .test a s b y n →
      MG c m (if holdsV s (worthM M a) (worthM M b) = true then y else n) M ds w M' → MG c (m + 1) p M (.test (worthM M a) s (worthM M b) (holdsV s (worthM M a) (worthM M b)) :: ds) w M'
theorem MG.from {m p q : Nat} {M M1 : Mem} {ds : List Dd} {w : Cs} (s : Sl c p q) (h : MG c m q M ds w M1) : MG c m p M ds w M1 := by
  cases h with
  | ring h => exact .ring fun r k => h r (k.on s)
  | fin h h2 => exact .fin (.back s h) h2
  | full h h2 => exact .full (.back s h) h2
  | fault h h2 h3 => exact .fault (.back s h) h2 h3
  | sum h h2 h3 r => exact .sum (.back s h) h2 h3 r
  | test h h2 r => exact .test (.back s h) h2 r
theorem MG.one {m p : Nat} {M M1 M2 : Mem} {ds ds' : List Dd} {w w' : Cs} (h : MG c m p M ds w M1) (k : MG c m p M ds' w' M2) : ds = ds' ∧ w = w' ∧ M1 = M2 := by
  induction h generalizing ds' w' M2 with
  | ring h =>
    cases k with
    | ring _ => exact ⟨rfl, rfl, rfl⟩
    | fin e _ => exact (h _ e).elim
    | full e _ => exact (h _ e).elim
    | fault e _ _ => exact (h _ e).elim
    | sum e _ _ _ => exact (h _ e).elim
    | test e _ _ => exact (h _ e).elim
  | fin h h2 =>
    cases k with
    | ring e => exact (e _ h).elim
    | fin _ _ => exact ⟨rfl, rfl, rfl⟩
    | full e e2 => cases h.one e; exact (e2 h2).elim
    | fault e e2 _ => cases h.one e; rw [h2] at e2; cases e2
    | sum e e2 _ _ => cases h.one e; rw [h2] at e2; cases e2
    | test e e2 _ => cases h.one e; rw [h2] at e2; cases e2
  | full h h2 =>
    cases k with
    | ring e => exact (e _ h).elim
    | fin e e2 => cases h.one e; exact (h2 e2).elim
    | full _ _ => exact ⟨rfl, rfl, rfl⟩
  | fault h h2 h3 =>
    cases k with
    | ring e => exact (e _ h).elim
    | fin e e2 => cases h.one e; rw [h2] at e2; cases e2
    | fault _ _ _ => exact ⟨rfl, rfl, rfl⟩
    | sum e e2 e3 _ => cases h.one e; rw [h2] at e2; cases e2; rw [h3] at e3; cases e3
    | test e e2 _ => cases h.one e; rw [h2] at e2; cases e2
  | sum h h2 h3 _ ih =>
    cases k with
    | ring e => exact (e _ h).elim
    | fin e e2 => cases h.one e; rw [h2] at e2; cases e2
    | fault e e2 e3 => cases h.one e; rw [h2] at e2; cases e2; rw [h3] at e3; cases e3
    | sum e e2 e3 r =>
      cases h.one e; rw [h2] at e2; cases e2; rw [h3] at e3; cases e3
      obtain ⟨rfl, rfl, rfl⟩ := ih r
      exact ⟨rfl, rfl, rfl⟩
    | test e e2 _ => cases h.one e; rw [h2] at e2; cases e2
  | test h h2 _ ih =>
    cases k with
    | ring e => exact (e _ h).elim
    | fin e e2 => cases h.one e; rw [h2] at e2; cases e2
    | fault e e2 e3 => cases h.one e; rw [h2] at e2; cases e2
    | sum e e2 e3 r => cases h.one e; rw [h2] at e2; cases e2
    | test e e2 r =>
      cases h.one e; rw [h2] at e2; cases e2
      obtain ⟨rfl, rfl, rfl⟩ := ih r
      exact ⟨rfl, rfl, rfl⟩
mutual
def At (c : Cd) (lv ag : Int → Nat) : Nat → Fm → Nat → Prop
  | p, .sum x a s b, q => c.nx p = none ∧ ∃ t, c.op p = .sum x a s b t ∧ Sl c t q
  | p, .choice a s b Y Z e, q => c.nx p = none ∧ ∃ y n, c.op p = .test a s b y n ∧ AtL c lv ag y Y q ∧ (e = true → AtL c lv ag n Z q) ∧ (e = false → Sl c n q)
  | p, .round n B, q => Sl c p (ag n) ∧ (∃ r, AtL c lv ag (ag n) B r ∧ Sl1 c r (ag n)) ∧ Sl c (lv n) q
  | p, .part n B, q => (∃ b, Sl c p b ∧ AtL c lv ag b B q) ∧ Sl c (lv n) q
  | p, .leave n, _ => Sl1 c p (lv n)
  | p, .again n, _ => Sl1 c p (ag n)
  | p, .fin, _ => c.nx p = none ∧ c.op p = .stop
def AtL (c : Cd) (lv ag : Int → Nat) : Nat → List Fm → Nat → Prop
  | p, [], q => Sl c p q
  | p, f :: fs, q => ∃ r, At c lv ag p f r ∧ AtL c lv ag r fs q
end
def Dds.rem (d : Dds) : Nat := (d.most - (d.done.length : Int)).toNat
def To (c : Cd) (d d' : Dds) (p t : Nat) (ds : List Dd) : Prop :=
  (∀ ds2 w M2, MG c d'.rem t d'.mem ds2 w M2 → MG c d.rem p d.mem (ds ++ ds2) w M2) ∧ (ds = [] → d'.mem = d.mem ∧ Sl c p t)
def To1 (c : Cd) (d d' : Dds) (p t : Nat) (ds : List Dd) : Prop :=
  (∀ ds2 w M2, MG c d'.rem t d'.mem ds2 w M2 → MG c d.rem p d.mem (ds ++ ds2) w M2) ∧ (ds = [] → d'.mem = d.mem ∧ Sl1 c p t)
def Out (c : Cd) (lv ag : Int → Nat) (d d' : Dds) (p q : Nat) (ds : List Dd) : Option Gs → Prop
  | none => MG c d.rem p d.mem ds cFault d'.mem
  | some .on => MG c d.rem p d.mem ds cOn d'.mem
  | some .fin => MG c d.rem p d.mem ds cEnd d'.mem
  | some .nil => To c d d' p q ds
  | some (.leave n) => To1 c d d' p (lv n) ds
  | some (.again n) => To1 c d d' p (ag n) ds
structure Grow (d d' : Dds) (ds : List Dd) : Prop where
  done : d'.done = d.done ++ ds
  most : d'.most = d.most
  fit : ds = [] ∨ ((d.done ++ ds).length : Int) ≤ d.most
theorem Grow.refl (d : Dds) : Grow d d [] := ⟨by simp, rfl, .inl rfl⟩
theorem Grow.trans {d1 d2 d3 : Dds} {a b : List Dd} (h : Grow d1 d2 a) (k : Grow d2 d3 b) : Grow d1 d3 (a ++ b) where
  done := by rw [k.done, h.done, List.append_assoc]
  most := k.most.trans h.most
  fit := by
    rcases k.fit with e | f
    · subst e
      rw [List.append_nil]
      exact h.fit
    · right
      rw [h.done, h.most, List.append_assoc] at f
      exact f
theorem Grow.rem {d d' : Dds} {ds : List Dd} (h : Grow d d' ds) : d'.rem + ds.length = d.rem := by
  unfold Dds.rem
  rw [h.most, h.done]
  rcases h.fit with e | f
  · subst e; simp
  · simp at f ⊢; omega
def Simd (c : Cd) (lv ag : Int → Nat) (d : Dds) (p q : Nat) (r : Rs) : Prop := ∃ ds, Grow d r.1 ds ∧ Out c lv ag d r.1 p q ds r.2
theorem To.trans {d1 d2 d3 : Dds} {p q r : Nat} {a b : List Dd} (h : To c d1 d2 p q a) (k : To c d2 d3 q r b) : To c d1 d3 p r (a ++ b) :=
  ⟨fun ds2 w M2 g => by rw [List.append_assoc]; exact h.1 _ _ _ (k.1 _ _ _ g), fun e => by
    obtain ⟨rfl, rfl⟩ := List.append_eq_nil_iff.mp e
    exact ⟨(k.2 rfl).1.trans (h.2 rfl).1, (h.2 rfl).2.trans (k.2 rfl).2⟩⟩
theorem To.trans1 {d1 d2 d3 : Dds} {p q r : Nat} {a b : List Dd} (h : To c d1 d2 p q a) (k : To1 c d2 d3 q r b) : To1 c d1 d3 p r (a ++ b) :=
  ⟨fun ds2 w M2 g => by rw [List.append_assoc]; exact h.1 _ _ _ (k.1 _ _ _ g), fun e => by
    obtain ⟨rfl, rfl⟩ := List.append_eq_nil_iff.mp e
    exact ⟨(k.2 rfl).1.trans (h.2 rfl).1, (h.2 rfl).2.then1 (k.2 rfl).2⟩⟩
theorem To.sl {d : Dds} {p q : Nat} (h : Sl c p q) : To c d d p q [] := ⟨fun _ _ _ g => g.from h, fun _ => ⟨rfl, h⟩⟩
theorem To1.sl {d : Dds} {p q : Nat} (h : Sl1 c p q) : To1 c d d p q [] := ⟨fun _ _ _ g => g.from h.sl, fun _ => ⟨rfl, h⟩⟩
section
variable {lv ag : Int → Nat}
theorem Simd.pre {d1 d2 : Dds} {p q z : Nat} {r : Rs} {a : List Dd} (g : Grow d1 d2 a) (h : To c d1 d2 p q a) (k : Simd c lv ag d2 q z r) : Simd c lv ag d1 p z r := by
  obtain ⟨ds, g2, o⟩ := k
  refine ⟨a ++ ds, g.trans g2, ?_⟩
  obtain ⟨d3, e⟩ := r
  cases e with
  | none => exact h.1 _ _ _ o
  | some e =>
    cases e with
    | on => exact h.1 _ _ _ o
    | fin => exact h.1 _ _ _ o
    | nil => exact h.trans o
    | leave n => exact h.trans1 o
    | again n => exact h.trans1 o
end
end
end VL
namespace VL
open PySem PySem.Spec PyProof.Rows L2 VL
abbrev cHome : Cs := [104, 111, 109, 101]
/-- marks: what stands where -/
abbrev Mks := Cs → Int → Option Nat
def Mks.v (μ : Mks) (c : Cs) (i : Int) : Nat := (μ c i).getD 0
theorem Mks.v_of {μ : Mks} {c : Cs} {i : Int} {n : Nat} (h : μ c i = some n) : μ.v c i = n := by unfold Mks.v; rw [h]; rfl
end VL
namespace VL
open PySem PySem.Spec PyProof.Rows L2 VL
def CtxW (L : List Ln) (μ : Mks) (W : List Int) : Prop := ∀ n ∈ W, ∃ p q, μ cHome n = some p ∧ μ cDone (p : Int) = some q ∧ p < L.length ∧ q < L.length
theorem CtxW.snoc {L : List Ln} {μ : Mks} {W : List Int} (h : CtxW L μ W) {n : Int} {p q : Nat} (h1 : μ cHome n = some p) (h2 : μ cDone (p : Int) = some q) (h3 : p < L.length) (h4 : q < L.length) : CtxW L μ (W ++ [n]) := fun m hm => by
  rcases List.mem_append.mp hm with hm | hm
  · exact h m hm
  · rw [List.mem_singleton.mp hm]; exact ⟨p, q, h1, h2, h3, h4⟩
end VL
namespace VL
open PySem PySem.Spec PyProof.Rows L2 VL
def gsD : Gs → D
  | .nil => .non
  | .leave n => .tup [.str cLeave, .int n]
  | .again n => .tup [.str cAgain, .int n]
  | .fin => .tup [.str cEnd]
  | .on => .tup [.str cOn]
/-- small enough -/
structure SOk (d : Dds) : Prop where
  mem : MemB (61 + d.done.length) d.mem
  few : d.mem.length ≤ 10 + d.done.length
  done : d.done.length ≤ 180
  most : d.most ≤ 180
/-- a line whose numbers are bounded -/
def LnB : Ln → Prop
  | .sum _ a _ b => OpB 61 a ∧ OpB 61 b
  | _ => True
theorem LnOk.b {l : Ln} (h : LnOk l) : LnB l := by
  cases l with
  | sum x a s b => exact ⟨opd_bd h.2.1, opd_bd h.2.2.2⟩
  | _ => trivial
end VL
namespace VL
open PySem PySem.Spec PyProof.Rows L2 VL
end VL
namespace VL
open PySem PySem.Spec PyProof.Rows L2 VL
def RunPre (d : Dds) (L : List Ln) : Prop := SOk d ∧ d.rem < 200 ∧ ∀ l ∈ L, LnB l
/-- told by what it runs to -/
def RsOut (o : Rs) (f : Dds → List D) (A : D → List D → Prop) (B : Value → D → List D → Prop) : Prop := match o with
  | (d', some g) => A (gsD g) (f d')
  | (d', none) => B (.type "ByNought") .non (f d')
theorem RsOut.mono {o : Rs} {f : Dds → List D} {A A' : D → List D → Prop} {B B' : Value → D → List D → Prop} (hA : ∀ r l, A r l → A' r l) (hB : ∀ c r l, B c r l → B' c r l) (q : RsOut o f A B) : RsOut o f A' B' := by
  obtain ⟨d', g⟩ := o
  cases g with
  | none => exact hB _ _ _ q
  | some g => exact hA _ _ q
theorem RsOut.of {o : Rs} {f : Dds → List D} {A : D → List D → Prop} {B : Value → D → List D → Prop} (q1 : ∀ d' g, o = (d', some g) → A (gsD g) (f d')) (q2 : ∀ d', o = (d', none) → B (.type "ByNought") .non (f d')) : RsOut o f A B := by
  obtain ⟨d', g⟩ := o
  cases g with
  | none => exact q2 d' rfl
  | some g => exact q1 d' g rfl
theorem RsOut.yes {o : Rs} {f : Dds → List D} {A : D → List D → Prop} {B : Value → D → List D → Prop} (q : RsOut o f A B) {d' : Dds} {g : Gs} (e : o = (d', some g)) : A (gsD g) (f d') := by
  subst e
  exact q
theorem RunPre.mono {d : Dds} {L M : List Ln} (h : RunPre d L) (s : ∀ l ∈ M, l ∈ L) : RunPre d M := ⟨h.1, h.2.1, fun l hl => h.2.2 l (s l hl)⟩
theorem RunPre.on {d d' : Dds} {L M : List Ln} {ds : List Dd} (h : RunPre d L) (g : Grow d d' ds) (o : SOk d') (s : ∀ l ∈ M, l ∈ L) : RunPre d' M := ⟨o, by have := g.rem; have := h.2.1; omega, fun l hl => h.2.2 l (s l hl)⟩
end VL
namespace VL
open PySem PySem.Spec PyProof.Rows L2 VL
def keyCI (c : Cs) (i : Int) : List Kc := [.inr c, .inl i]
structure RepM (μ : Mks) (ks : List (List Kc)) (js : List Nat) : Prop where
  len : ks.length = js.length
  at_ : ∀ c i, ((kIx ks (keyCI c i)).bind fun j => js[j]?) = μ c i
theorem RepM.nil : RepM (fun _ _ => none) [] [] := ⟨rfl, fun _ _ => rfl⟩
end VL
namespace VL
open PySem PySem.Spec PyProof.Rows L2 VL
/-- nothing else is changed -/
structure FrM (μ μ' : Mks) (p q : Nat) (hs : List Int) : Prop where
  pos : ∀ c, c ≠ cHome → ∀ k : Nat, (k < p ∨ q ≤ k) → μ' c (k : Int) = μ c (k : Int)
  hm : ∀ n, n ∉ hs → μ' cHome n = μ cHome n
theorem FrM.refl {μ : Mks} {p q : Nat} {hs : List Int} : FrM μ μ p q hs := ⟨fun _ _ _ _ => rfl, fun _ _ => rfl⟩
theorem FrM.trans {μ1 μ2 μ3 : Mks} {p q r s : Nat} {a b : List Int} (h : FrM μ1 μ2 p q a) (k : FrM μ2 μ3 r s b) {P Q : Nat} {hs : List Int} (h1 : P ≤ p) (h2 : q ≤ Q) (h3 : P ≤ r) (h4 : s ≤ Q) (h5 : ∀ n ∈ a, n ∈ hs) (h6 : ∀ n ∈ b, n ∈ hs) : FrM μ1 μ3 P Q hs :=
  ⟨fun c hc i hi => by rw [k.pos c hc i (by omega), h.pos c hc i (by omega)], fun n hn => by rw [k.hm n (fun z => hn (h6 n z)), h.hm n (fun z => hn (h5 n z))]⟩
end VL
namespace VL
open PySem PySem.Spec PyProof.Rows L2 VL
end VL
namespace VL
open PySem PySem.Spec PyProof.Rows L2 VL
/-- a def whose last parameter, of the name y, is named by the asker -/
structure Fk (P : Program) (w : World) (K : PySem.W.Frag) (mg : Str → Option Value) (base : Heap) (x y : Str) (k n : Nat) (vsp : VSp) : Prop where
  ex : ∃ f fd ps, mg x = some (.ref f) ∧ PySem.W.keepIn K (.ref f) = true ∧ KBn K fd ps (n - 1) [y] (fun us ws => us ++ ws) (fun vs zs => vs ++ zs) ∧ FnOk P w K mg base (VL.CX P w) k f fd ps (Lift K n vsp)
/-- a def whose last parameter has a number as default and is named by some askers -/
structure Fdk (P : Program) (w : World) (K : PySem.W.Frag) (mg : Str → Option Value) (base : Heap) (x y : Str) (z : Int) (k n : Nat) (vsp : VSp) : Prop where
  ex : ∃ f fd ps, mg x = some (.ref f) ∧ PySem.W.keepIn K (.ref f) = true ∧ Binds K fd ps [] ∧ (∃ ds, Vals [.int z] ds ∧ Binds K fd ps ds) ∧ KBn K fd ps (n - 1) [y] (fun us ws => us ++ ws) (fun vs zs => vs ++ zs) ∧ FnOk P w K mg base (VL.CX P w) k f fd ps (Lift K n vsp)
theorem Fdk.d {P w K mg base x y z k n vsp} (F : Fdk P w K mg base x y z k n vsp) : Fd P w K mg base x z k n vsp := let ⟨f, fd, ps, a, b, c, d, _, e⟩ := F.ex; ⟨f, fd, ps, a, b, c, d, e⟩
theorem Fdk.k {P w K mg base x y z k n vsp} (F : Fdk P w K mg base x y z k n vsp) : Fk P w K mg base x y k n vsp := let ⟨f, fd, ps, a, b, _, _, c, e⟩ := F.ex; ⟨f, fd, ps, a, b, c, e⟩
end VL
namespace VL
open PySem PySem.Spec PyProof.Rows L2 VL
def osR (rs : List Rw) : List Nat := orderAt (glOf (rawOf rs)) (rawOf rs).length (comeTo rs 0)
theorem osR_ok {rs : List Rw} (R : RwOk rs) : OrdOk (glOf (rawOf rs)) (rawOf rs).length (comeTo rs 0) (osR rs) :=
  order_ok (by rw [rawOf_len]; exact come_lt R R.pos) fun x hx g hg => by
    obtain ⟨h1, _⟩ := raw_ok R
    unfold glOf at hg
    rw [List.getElem?_eq_getElem hx] at hg
    exact h1 _ (List.getElem_mem hx) g hg
theorem graphR_eq (rs : List Rw) : graphR rs = (osR rs).map fun o => (((rawOf rs)[o]?).getD .fin).ren fun x => (osR rs).idxOf x := rfl
theorem graphR_at {rs : List Rw} (R : RwOk rs) {o : Nat} (h : o ∈ osR rs) : (graphR rs)[(osR rs).idxOf o]? = some ((nodeAt rs o).ren fun x => (osR rs).idxOf x) := by
  have ho : o < rs.length := by have := (osR_ok R).rng o h; rwa [rawOf_len] at this
  have hi : (osR rs).idxOf o < (osR rs).length := List.idxOf_lt_length_iff.mpr h
  rw [graphR_eq, List.getElem?_map, List.getElem?_eq_getElem hi, List.getElem_idxOf hi]
  show some ((((rawOf rs)[o]?).getD .fin).ren _) = _
  rw [rawOf_at ho]
  rfl
theorem os_closed {rs : List Rw} (R : RwOk rs) {o t : Nat} (h : o ∈ osR rs) (ht : t ∈ goals (nodeAt rs o)) : t ∈ osR rs := by
  have ho : o < rs.length := by have := (osR_ok R).rng o h; rwa [rawOf_len] at this
  refine (osR_ok R).closed o h t ?_
  unfold glOf
  rw [rawOf_at ho]
  exact ht
theorem os_first {rs : List Rw} (R : RwOk rs) : comeTo rs 0 ∈ osR rs ∧ (osR rs).idxOf (comeTo rs 0) = 0 := by
  have h := (osR_ok R).head
  cases e : osR rs with
  | nil => rw [e] at h; cases h
  | cons a t =>
    rw [e] at h
    cases h
    exact ⟨List.mem_cons_self, by simp⟩
end VL
namespace VL
open PySem PySem.Spec PyProof.Rows L2 VL
structure KeysIn (nm : List Cs) (M : Mem) : Prop where
  nd : (M.map (·.1)).Nodup
  sub : ∀ s ∈ M.map (·.1), s ∈ nm
theorem nd_sub_len {α : Type} [DecidableEq α] : ∀ {xs ys : List α}, xs.Nodup → (∀ x ∈ xs, x ∈ ys) → xs.length ≤ ys.length
  | [], ys, _, _ => Nat.zero_le _
  | x :: xs, ys, nd, h => by
    obtain ⟨h1, h2⟩ := List.nodup_cons.mp nd
    have hx : x ∈ ys := h x List.mem_cons_self
    have := nd_sub_len (xs := xs) (ys := ys.erase x) h2 fun y hy => (List.mem_erase_of_ne (fun e => h1 (by rw [← e]; exact hy))).mpr (h y (List.mem_cons_of_mem _ hy))
    rw [List.length_erase_of_mem hx] at this
    have lp : 0 < ys.length := List.length_pos_of_mem hx
    rw [List.length_cons]
    omega
theorem KeysIn.len {nm : List Cs} {M : Mem} (h : KeysIn nm M) : M.length ≤ nm.length := by
  have := nd_sub_len h.nd h.sub
  simpa using this
theorem KeysIn.nil {nm : List Cs} : KeysIn nm [] := ⟨List.nodup_nil, fun _ h => nomatch h⟩
end VL
namespace VL
open PySem PySem.Spec PyProof.Rows L2 VL
end VL
namespace VL
open PySem PySem.Spec PyProof.Rows L2 VL
abbrev cYes : Cs := [121, 101, 115]
/-- a row whose goals are told by keys -/
inductive Sr where
  | sum (x : Cs) (a : Opd) (s : Cs) (b : Opd)
  | test (a : Opd) (s : Cs) (b : Opd) (h : Nat)
  | jump (c : Cs) (i : Int)
  | fin
def DefS (S : List Sr) (μ : Mks) (k : Nat) : Prop := match S[k]? with
  | some (.jump c i) => ∃ q, μ c i = some q ∧ q < S.length
  | some (.test _ _ _ h) => ∃ q, μ cYes (h : Int) = some q ∧ q < S.length
  | _ => True
def CtxS (S : List Sr) (μ : Mks) (c : Cs) (W : List Int) : Prop := ∀ n ∈ W, ∃ q, μ c n = some q ∧ q < S.length
theorem CtxS.snoc {S : List Sr} {μ : Mks} {c : Cs} {W : List Int} (h : CtxS S μ c W) {n : Int} {q : Nat} (h1 : μ c n = some q) (h2 : q < S.length) : CtxS S μ c (W ++ [n]) := fun m hm => by
  rcases List.mem_append.mp hm with hm | hm
  · exact h m hm
  · rw [List.mem_singleton.mp hm]; exact ⟨q, h1, h2⟩
end VL
namespace VL
open PySem PySem.Spec PyProof.Rows L2 VL
/-- nothing else is changed -/
structure FrR (μ μ' : Mks) (p q : Nat) (hs : List Int) : Prop where
  pos : ∀ c, c ≠ cLeave → c ≠ cAgain → ∀ k : Nat, (k < p ∨ q ≤ k) → μ' c (k : Int) = μ c (k : Int)
  hm : ∀ c, (c = cLeave ∨ c = cAgain) → ∀ n, n ∉ hs → μ' c n = μ c n
theorem FrR.refl {μ : Mks} {p q : Nat} {hs : List Int} : FrR μ μ p q hs := ⟨fun _ _ _ _ _ => rfl, fun _ _ _ _ => rfl⟩
theorem FrR.trans {μ1 μ2 μ3 : Mks} {p q r s : Nat} {a b : List Int} (h : FrR μ1 μ2 p q a) (k : FrR μ2 μ3 r s b) {P Q : Nat} {hs : List Int} (h1 : P ≤ p) (h2 : q ≤ Q) (h3 : P ≤ r) (h4 : s ≤ Q) (h5 : ∀ n ∈ a, n ∈ hs) (h6 : ∀ n ∈ b, n ∈ hs) : FrR μ1 μ3 P Q hs where
  pos c c1 c2 n hn := (k.pos c c1 c2 n (by omega)).trans (h.pos c c1 c2 n (by omega))
  hm c hc n hn := (k.hm c hc n fun z => hn (h6 n z)).trans (h.hm c hc n fun z => hn (h5 n z))
section
variable {S : List Sr} {μ : Mks}
theorem DefS.jump {k : Nat} {c : Cs} {i : Int} (d : DefS S μ k) (h : S[k]? = some (.jump c i)) : μ.v c i < S.length := by
  unfold DefS at d
  rw [h] at d
  obtain ⟨q, h1, h2⟩ := d
  rw [Mks.v_of h1]
  exact h2
theorem DefS.test {k : Nat} {a : Opd} {s : Cs} {b : Opd} {h0 : Nat} (d : DefS S μ k) (h : S[k]? = some (.test a s b h0)) : μ.v cYes (h0 : Int) < S.length := by
  unfold DefS at d
  rw [h] at d
  obtain ⟨q, h1, h2⟩ := d
  rw [Mks.v_of h1]
  exact h2
end
theorem MG.on {c : Cd} {m p q : Nat} {M M1 : Mem} {ds : List Dd} {w : Cs} (s : Sl c p q) (h : MG c m p M ds w M1) : MG c m q M ds w M1 := by
  cases h with
  | ring h => exact .ring fun r k => h r (.back s k)
  | fin h h2 => exact .fin (.on s h) h2
  | full h h2 => exact .full (.on s h) h2
  | fault h h2 h3 => exact .fault (.on s h) h2 h3
  | sum h h2 h3 h4 => exact .sum (.on s h) h2 h3 h4
  | test h h2 h3 => exact .test (.on s h) h2 h3
end VL
namespace VL
open PySem PySem.Spec PyProof.Rows L2 VL
end VL
namespace VL
open PySem PySem.Spec PyProof.Rows L2 VL
end VL
namespace VL
open PySem PySem.Spec PyProof.Rows L2 VL
/-- the signs of a number -/
def intC (i : Int) : Cs := (Str.ofString (toString i)).cps.toList
def sStr : List D → (D → Prop) → Prop := fun ds Q => (∃ i : Int, ds = [.int i] ∧ i.natAbs.log2 < 1920 ∧ Q (.str (intC i))) ∨ ∃ s, ds = [.str s] ∧ Q (.str s)
theorem e_strS {s : Cs} {Q : D → Prop} : sStr [.str s] Q ↔ Q (.str s) := ⟨fun h => by rcases h with ⟨i, e, _⟩ | ⟨t, e, q⟩ <;> cases e; exact q, fun q => .inr ⟨s, rfl, q⟩⟩
/-- sep.join(texts) -/
def sJoin : List D → (D → Prop) → Prop := fun ds Q => ∃ a m ss, ds = [.str a, .lst m (strsD ss)] ∧ (ss.map (·.length)).sum + ss.length * a.length ≤ 16777216 ∧ Q (.str (TL.joinL a ss))
/-- text.split(sep) -/
def sSplit : List D → (D → Prop) → Prop := fun ds Q => ∃ a b, ds = [.str a, .str b] ∧ b ≠ [] ∧ b.all (· < 256) = true ∧ a.length < 1000000 ∧ Q (.lst true (strsD (TL.spl b 0 [] a)))
/-- text.partition(sep) -/
def partC (a b : Cs) : Cs × Cs × Cs := match TL.par b [] a with
  | some (p, q) => (p, b, q)
  | none => (a, [], [])
def sPart : List D → (D → Prop) → Prop := fun ds Q => ∃ a b, ds = [.str a, .str b] ∧ b ≠ [] ∧ a.length < 1000000 ∧ Q (.tup [.str (partC a b).1, .str (partC a b).2.1, .str (partC a b).2.2])
/-- text.startswith(start) -/
def sStarts : List D → (D → Prop) → Prop := fun ds Q => ∃ a b, ds = [.str a, .str b] ∧ Q (.bl (b.isPrefixOf a))
section
variable {a b : Cs} {m : Bool} {ss : List Cs} {Q : D → Prop}
theorem e_join : sJoin [.str a, .lst m (strsD ss)] Q ↔ (ss.map (·.length)).sum + ss.length * a.length ≤ 16777216 ∧ Q (.str (TL.joinL a ss)) := by
  refine ⟨fun ⟨_, _, _, e, h, q⟩ => ?_, fun ⟨h, q⟩ => ⟨_, _, _, rfl, h, q⟩⟩
  obtain ⟨e1, e2⟩ := List.cons.inj e
  cases e1
  have e3 := (List.map_inj_right (f := D.str) (fun _ _ h => D.str.inj h)).mp (D.lst.inj (List.cons.inj e2).1).2
  subst e3
  exact ⟨h, q⟩
theorem e_split : sSplit [.str a, .str b] Q ↔ b ≠ [] ∧ b.all (· < 256) = true ∧ a.length < 1000000 ∧ Q (.lst true (strsD (TL.spl b 0 [] a))) := ⟨fun ⟨_, _, e, h⟩ => by cases e; exact h, fun h => ⟨_, _, rfl, h⟩⟩
theorem e_part : sPart [.str a, .str b] Q ↔ b ≠ [] ∧ a.length < 1000000 ∧ Q (.tup [.str (partC a b).1, .str (partC a b).2.1, .str (partC a b).2.2]) := ⟨fun ⟨_, _, e, h⟩ => by cases e; exact h, fun h => ⟨_, _, rfl, h⟩⟩
theorem e_starts : sStarts [.str a, .str b] Q ↔ Q (.bl (b.isPrefixOf a)) := ⟨fun ⟨_, _, e, h⟩ => by cases e; exact h, fun h => ⟨_, _, rfl, h⟩⟩
end
end VL
namespace VL
open PySem PySem.Spec PyProof.Rows L2 VL
def sJoinA (a : Cs) : List D → (D → Prop) → Prop := fun ds Q => ∃ m ss, ds = [.lst m (strsD ss)] ∧ (ss.map (·.length)).sum + ss.length * a.length ≤ 16777216 ∧ Q (.str (TL.joinL a ss))
theorem e_joinA {a : Cs} {m : Bool} {ss : List Cs} {Q : D → Prop} : sJoinA a [.lst m (strsD ss)] Q ↔ (ss.map (·.length)).sum + ss.length * a.length ≤ 16777216 ∧ Q (.str (TL.joinL a ss)) := by
  refine ⟨fun ⟨_, _, e, h, q⟩ => ?_, fun ⟨h, q⟩ => ⟨_, _, rfl, h, q⟩⟩
  have e3 := (List.map_inj_right (f := D.str) (fun _ _ h => D.str.inj h)).mp (D.lst.inj (List.cons.inj e).1).2
  subst e3
  exact ⟨h, q⟩
end VL
namespace VL
open PySem PySem.Spec PyProof.Rows L2 VL
def sInG (neg : Bool) (ss : List Cs) : List D → (D → Prop) → Prop := fun ds Q => ∃ s, ds = [.str s] ∧ Q (.bl (if neg then !decide (s ∈ ss) else decide (s ∈ ss)))
theorem e_inG {neg : Bool} {s : Cs} {ss : List Cs} {Q : D → Prop} : sInG neg ss [.str s] Q ↔ Q (.bl (if neg then !decide (s ∈ ss) else decide (s ∈ ss))) := ⟨fun ⟨_, e, q⟩ => by cases e; exact q, fun q => ⟨_, rfl, q⟩⟩
end VL
namespace VL
open PySem PySem.Spec PyProof.Rows L2 VL
end VL
namespace VL
open PySem PySem.Spec PyProof.Rows L2 VL
def vM1 (op : List D → (D → Prop) → Prop) (ra rb : Option Nat) (to te : VTE) : VTE := fun N ε Q => to N ε fun x ε1 => (∃ s, x = .str s) ∧ te N ε1 fun y ε2 => op [x, y] fun d => Q d (restore [ra, rb] [x, y] ε2)
end VL
namespace VL
open PySem PySem.Spec PyProof.Rows L2 VL
/-- for .. in zip(still, ours) -/
def vForZO (j i : Nat) (g : VTG) (body : VTS) : VTS := fun N ε => ∃ ts m xs, ε[j]? = some (some (.lst false ts)) ∧ ε[i]? = some (some (.lst m xs)) ∧ isFzL ts = true ∧ isFzL xs = true ∧
  vForL g body (zipD ts xs) { nx := fun ε' => N.nx (ε'.set i (some (.lst m xs))), rt := fun d ε' => N.rt d (ε'.set i (some (.lst m xs))), rx := N.rx } (ε.set i none)
section
variable {X : Cv}
/-- a block over a list of ours, that is ours behind it -/
def vLcO (i : Nat) (own : List Nat) (w : List D → List D) (g : VTG) (tt : VTT) (te : VTE) : VTE := fun _ ε Q => ∃ m xs, ε[i]? = some (some (.lst m xs)) ∧ isFzL xs = true ∧
  vLcL own g tt te (w xs) [] (pull own (ε.set i none)).2.2 fun acc ε' => Q (.lst true acc) ((restore (pull own (ε.set i none)).1 (pull own (ε.set i none)).2.1 ε').set i (some (.lst m xs)))
end
end VL
namespace VL
open PySem PySem.Spec PyProof.Rows L2 VL
end VL
namespace VL
open PySem PySem.Spec PyProof.Rows L2 VL
mutual
/-- the numbers of rounds and parts, in the order of the text -/
def hmF : Fm → List Int
  | .choice _ _ _ Y Z e => hmL Y ++ (if e = true then hmL Z else [])
  | .round n B => n :: hmL B
  | .part n B => n :: hmL B
  | .sum _ _ _ _ => []
  | .leave _ => []
  | .again _ => []
  | .fin => []
def hmL : List Fm → List Int
  | [] => []
  | f :: fs => hmF f ++ hmL fs
end
/-- a word at the tail is none -/
def tl (lv : Bool) (n : Int) : Rs → Rs
  | (d, some (.leave m)) => if lv = true ∧ m = n then (d, some .nil) else (d, some (.leave m))
  | (d, some (.again m)) => if lv = false ∧ m = n then (d, some .nil) else (d, some (.again m))
  | r => r
mutual
def okF (W R : Int → Prop) : Fm → Prop
  | .leave n => W n
  | .again n => R n
  | .round n B => okL (fun k => k = n ∨ W k) (fun k => k = n ∨ R k) B
  | .part n B => okL (fun k => k = n ∨ W k) R B
  | .choice _ _ _ Y Z e => okL W R Y ∧ (if e = true then okL W R Z else True)
  | .sum _ _ _ _ => True
  | .fin => True
def okL (W R : Int → Prop) : List Fm → Prop
  | [] => True
  | f :: fs => okF W R f ∧ okL W R fs
end
mutual
theorem ok_monoF : ∀ (f : Fm) {W R W' R' : Int → Prop}, (∀ k, W k → W' k) → (∀ k, R k → R' k) → okF W R f → okF W' R' f
  | .leave n, W, R, W', R', hw, hr, h => by rw [okF] at h ⊢; exact hw n h
  | .again n, W, R, W', R', hw, hr, h => by rw [okF] at h ⊢; exact hr n h
  | .round n B, W, R, W', R', hw, hr, h => by
    rw [okF] at h ⊢
    exact ok_monoL B (fun k z => z.imp id (hw k)) (fun k z => z.imp id (hr k)) h
  | .part n B, W, R, W', R', hw, hr, h => by
    rw [okF] at h ⊢
    exact ok_monoL B (fun k z => z.imp id (hw k)) hr h
  | .choice a s b Y Z e, W, R, W', R', hw, hr, h => by
    rw [okF] at h ⊢
    refine ⟨ok_monoL Y hw hr h.1, ?_⟩
    cases e with
    | true => exact ok_monoL Z hw hr h.2
    | false => trivial
  | .sum x a s b, W, R, W', R', hw, hr, h => by rw [okF]; trivial
  | .fin, W, R, W', R', hw, hr, h => by rw [okF]; trivial
theorem ok_monoL : ∀ (F : List Fm) {W R W' R' : Int → Prop}, (∀ k, W k → W' k) → (∀ k, R k → R' k) → okL W R F → okL W' R' F
  | [], W, R, W', R', hw, hr, h => by rw [okL]; trivial
  | f :: fs, W, R, W', R', hw, hr, h => by
    rw [okL] at h ⊢
    exact ⟨ok_monoF f hw hr h.1, ok_monoL fs hw hr h.2⟩
end
end VL
namespace VL
open PySem PySem.Spec PyProof.Rows L2 PySem.Calls
section
variable {X : Cv}
/-- o.setdefault(n, m): n's number, or m as n's number -/
def vSetd (i : Nat) (t : VTP) (te : VTVs) : VTE := fun N ε Q => t N ε fun p => ∃ d0 ks ds, ε[i]? = some (some d0) ∧ getP d0 p = some (.dK true ks ds) ∧ te ε fun es => ∃ n m : Int, es = [.int n, .int m] ∧ ds.length < 1000000 ∧ isFzL ds = true ∧
  match kIx ks (.inl n) with
  | some j => ∃ z : Int, ds[j]? = some (.int z) ∧ Q (.int z) ε
  | none => Q (.int m) (ε.set i (some (setP d0 p (.dK true (ks ++ [.inl n]) (ds ++ [.int m])))))
end
end VL
namespace VL
open PySem PySem.Spec PyProof.Rows L2 VL
def vAddL (t1 t2 : VTE) : VTE := fun N ε Q => t1 N ε fun x ε1 => t2 N ε1 fun y ε2 => ∃ m xs ys, x = .lst m xs ∧ y = .lst true ys ∧ isFzL xs = true ∧ xs.length + ys.length < 1000000 ∧ Q (.lst true (xs ++ ys)) ε2
end VL
namespace VL
open PySem PySem.Spec PyProof.Rows L2 VL
section
variable {K : PySem.W.Frag} {G H : Hp}
theorem RpS.view (hs : Sub G H) : ∀ {ε : Ep} {σ : L2.St} {F : List Addr}, RpS K G H ε σ F → RpS K H H (ε.map (Option.map frz)) σ []
  | [], σ, F, h => ⟨h.1, rfl⟩
  | od :: ε, σ, F, h => by
    obtain ⟨ov, σ', F1, F2, rfl, rfl, r, rs⟩ := h
    refine ⟨ov, σ', [], [], rfl, rfl, ?_, rs.view hs⟩
    cases od with
    | none => rfl
    | some d =>
      obtain ⟨v, e, r⟩ := r
      exact ⟨v, e, r.view hs⟩
end
def vPeek (t : VTE) : VTE := fun _ ε Q => t noX (ε.map (Option.map frz)) fun d _ => ∃ ds, d = .lst true ds ∧ ds.all flatD = true ∧ Q (.lst true ds) ε
/-- seen as if all stood still -/
theorem SI.look {K : PySem.W.Frag} {b : Bs} {σ : L2.St} {H : Hp} {ε : Ep} {T : List D} {Tv : List V} (I : SI K b σ H ε T Tv) : SI K (callB H H []) σ H (ε.map (Option.map frz)) [] [] := by
  obtain ⟨G, F, Ft, J⟩ := I
  exact ⟨H, [], [], Sub.refl, Sub.refl, J.slots.view J.sub, ⟨rfl, rfl⟩, List.nodup_nil, (fun _ z => nomatch z), (fun _ z => nomatch z), (fun a o e => .inl e), (fun a o e _ => e), fun j v e => by simp [callB] at e⟩
end VL
namespace VL
open PySem PySem.Spec PyProof.Rows L2 VL
mutual
def gdF : Fm → Bool
  | .sum x a s b => Cs.good x && (a.good && (Cs.good s && b.good))
  | .choice a s b Y Z e => (a.good && (Cs.good s && b.good)) && (gdL Y && (if e = true then gdL Z else true))
  | .round _ B => gdL B
  | .part _ B => gdL B
  | .leave _ => true
  | .again _ => true
  | .fin => true
def gdL : List Fm → Bool
  | [] => true
  | f :: fs => gdF f && gdL fs
end
mutual
def nsF : Fm → Nat
  | .choice _ _ _ Y Z e => nsL Y + (if e = true then nsL Z else 0) + 1
  | .round _ B => nsL B + 1
  | .part _ B => nsL B + 1
  | .sum _ _ _ _ => 1
  | .leave _ => 1
  | .again _ => 1
  | .fin => 1
def nsL : List Fm → Nat
  | [] => 0
  | f :: fs => nsF f + nsL fs
end
end VL
namespace VL
open PySem PySem.Spec PyProof.Rows L2 VL
end VL
namespace VL
open PySem PySem.Spec PyProof.Rows L2 VL
inductive FrH where
  | form
  | choice (a : Opd) (s : Cs) (b : Opd)
  | part (n : Int)
  | round (n : Int)
structure Fr where
  h : FrH
  yes : Option (List Fm)
  own : List Fm
def FrH.ns : FrH → List Int
  | .part n => [n]
  | .round n => [n]
  | _ => []
def FrH.isForm : FrH → Bool
  | .form => true
  | _ => false
def FrH.isCh : FrH → Bool
  | .choice _ _ _ => true
  | _ => false
def FrH.ok : FrH → Prop
  | .choice a s b => a.good = true ∧ Cs.good s = true ∧ b.good = true
  | _ => True
/-- the names that the laws of tidying draw -/
def allNm : List Cs := [[120], [121], [122], [119], [97, 98], [97, 97], [98, 98], [98, 97], [113, 49], [113], [113, 49, 49], [113, 50], [115, 117, 109, 49, 97, 97, 97, 97], [115, 117, 109, 49, 97, 97, 97, 98], [115, 117, 109, 50, 97, 97, 97, 97], [116, 117, 109, 49, 97, 97, 97, 97]]
def LnC : Ln → Prop
  | .sum x a _ b => (OpB 61 a ∧ OpB 61 b) ∧ x ∈ allNm
  | _ => True
theorem LnC.b {l : Ln} (h : LnC l) : LnB l := by
  cases l with
  | sum x a s b => exact h.1
  | _ => trivial
/-- what a list of statements keeps -/
structure FmsOk (W R : Int → Prop) (F : List Fm) : Prop where
  ok : okL W R F
  gd : gdL F = true
  lb : ∀ l ∈ lnsL F, LnC l
theorem FmsOk.nil {W R : Int → Prop} : FmsOk W R [] := ⟨by rw [okL]; trivial, rfl, fun l hl => by rw [lnsL] at hl; exact nomatch hl⟩
def LvS (st : List Fr) (k : Int) : Prop := ∃ f ∈ st, f.h = .round k ∨ f.h = .part k
def AgS (st : List Fr) (k : Int) : Prop := ∃ f ∈ st, f.h = .round k
/-- a stack of frames, the top first -/
def StOk : List Fr → Prop
  | [] => True
  | f :: st => (FmsOk (LvS (f :: st)) (AgS (f :: st)) f.own ∧ dpL f.own + st.length ≤ 30) ∧ (∀ Y, f.yes = some Y → FmsOk (LvS (f :: st)) (AgS (f :: st)) Y ∧ dpL Y + st.length ≤ 30) ∧ f.h.ok ∧ (f.h.isForm = true ↔ st = []) ∧ StOk st
def frN (f : Fr) : List Int := f.h.ns ++ ((f.yes.elim [] hmL) ++ hmL f.own)
def stN (st : List Fr) : List Int := st.flatMap frN
def frC (f : Fr) : Nat := 1 + ((f.yes.elim 0 nsL) + nsL f.own)
def stC : List Fr → Nat
  | [] => 0
  | f :: st => frC f + stC st
theorem FmsOk.mono {W R W' R' : Int → Prop} {F : List Fm} (hw : ∀ k, W k → W' k) (hr : ∀ k, R k → R' k) (h : FmsOk W R F) : FmsOk W' R' F := ⟨ok_monoL F hw hr h.ok, h.gd, h.lb⟩
end VL
namespace VL
open PySem PySem.Spec PyProof.Rows L2 VL
structure FrsOk (k : Nat) (st : List Fr) : Prop where
  ok : StOk st
  ne : st ≠ []
  nd : (stN st).Nodup
  lt : ∀ n ∈ stN st, n < 97 * (k : Int)
  hy : ∀ f ∈ st, ∀ Y, f.yes = some Y → f.h.isCh = true
theorem FrsOk.up {k j : Nat} {st : List Fr} (h : FrsOk k st) (l : k ≤ j) : FrsOk j st := ⟨h.ok, h.ne, h.nd, fun n hn => by have := h.lt n hn; omega, h.hy⟩
theorem FrsOk.init : FrsOk 0 [⟨.form, none, []⟩] := by
  refine ⟨⟨⟨FmsOk.nil, by rw [dpL]; decide⟩, (fun Y e => nomatch e), trivial, ⟨fun _ => rfl, fun _ => rfl⟩, trivial⟩, (fun z => nomatch z), ?_, ?_, ?_⟩
  · show ((([] : List Int) ++ ([] ++ hmL [])) ++ []).Nodup
    rw [hmL]; exact List.nodup_nil
  · show ∀ n ∈ ((([] : List Int) ++ ([] ++ hmL [])) ++ []), _
    rw [hmL]; exact fun n hn => nomatch hn
  · intro f hf Y e
    rw [List.mem_singleton.mp hf] at e
    exact nomatch e
/-- a frame is opened -/
theorem FrsOk.push {k : Nat} {st : List Fr} {hd : FrH} (h : FrsOk k st) (l : st.length ≤ 29) (g : hd.ok) (nf : hd.isForm = false) (fresh : ∀ n ∈ hd.ns, n < 97 * (k : Int) ∧ n ∉ stN st) : FrsOk k (⟨hd, none, []⟩ :: st) := by
  have e : stN (⟨hd, none, []⟩ :: st) = hd.ns ++ stN st := by
    show (hd.ns ++ ([] ++ hmL [])) ++ stN st = _
    rw [hmL, List.append_nil, List.append_nil]
  have one : hd.ns.Nodup := by cases hd <;> simp [FrH.ns]
  refine ⟨⟨⟨FmsOk.nil, by show dpL [] + st.length ≤ 30; rw [dpL]; omega⟩, (fun Y e => nomatch e), g, ⟨fun z => (by have : hd.isForm = true := z; rw [nf] at this; exact nomatch this), fun z => absurd z h.ne⟩, h.ok⟩, (fun z => nomatch z), ?_, ?_, ?_⟩
  · rw [e, List.nodup_append]
    exact ⟨one, h.nd, fun a ha b hb z => (fresh a ha).2 (z ▸ hb)⟩
  · rw [e]
    intro n hn
    rcases List.mem_append.mp hn with hn | hn
    · exact (fresh n hn).1
    · exact h.lt n hn
  · intro f hf
    rcases List.mem_cons.mp hf with rfl | hf
    · exact fun Y e => nomatch e
    · exact h.hy f hf
/-- the form when all else is closed -/
theorem FrsOk.fin {k : Nat} {f : Fr} (h : FrsOk k [f]) : (okL (fun _ => False) (fun _ => False) f.own ∧ gdL f.own = true ∧ (∀ l ∈ lnsL f.own, LnC l)) ∧ dpL f.own ≤ 30 ∧ (hmL f.own).Nodup ∧ nsL f.own < stC [f] ∧ f.h.isForm = true ∧ f.yes = none := by
  have isf := h.ok.2.2.2.1.mpr rfl
  have hfm : f.h = .form := by
    cases e : f.h with
    | form => rfl
    | _ => rw [e] at isf; exact nomatch isf
  have hy : f.yes = none := by
    cases e : f.yes with
    | none => rfl
    | some Y => have := h.hy f (List.mem_cons_self ..) Y e; rw [hfm] at this; exact nomatch this
  obtain ⟨⟨h1, h2⟩, _⟩ := h.ok
  have hw : ∀ n, LvS [f] n → False := fun n ⟨x, hx, e⟩ => by
    rw [List.mem_singleton.mp hx, hfm] at e
    rcases e with e | e <;> exact nomatch e
  have hr : ∀ n, AgS [f] n → False := fun n ⟨x, hx, e⟩ => by
    rw [List.mem_singleton.mp hx, hfm] at e
    exact nomatch e
  refine ⟨⟨ok_monoL _ hw hr h1.ok, h1.gd, h1.lb⟩, h2, ?_, ?_, isf, hy⟩
  · have := h.nd
    have e : stN [f] = hmL f.own := by
      show (f.h.ns ++ (f.yes.elim [] hmL ++ hmL f.own)) ++ [] = _
      rw [hfm, hy, List.append_nil]; rfl
    rw [e] at this
    exact this
  · show nsL f.own < 1 + (f.yes.elim 0 nsL + nsL f.own) + 0
    rw [hy]
    show nsL f.own < 1 + (0 + nsL f.own) + 0
    omega
end VL
namespace VL
open PySem PySem.Spec PyProof.Rows L2 VL
def FrH.d : FrH → D
  | .form => .tup [.str [102, 111, 114, 109]]
  | .choice a s b => .tup [.str cChoice, opD a, .str s, opD b]
  | .part n => .tup [.str cPart, .int n]
  | .round n => .tup [.str cRound, .int n]
end VL
namespace VL
open PySem PySem.Spec PyProof.Rows L2 VL
def FrH.num : FrH → Int
  | .part n => n
  | .round n => n
  | _ => 0
end VL
namespace VL
open PySem PySem.Spec PyProof.Rows L2 VL
end VL
namespace VL
open PySem PySem.Spec PyProof.Rows L2 VL
end VL
namespace VL
open PySem PySem.Spec PyProof.Rows L2 VL
/-- every deed of the lines keeps I, and is a small one -/
structure KeepI (I : Dds → Prop) (L : List Ln) : Prop where
  few : ∀ d, I d → d.mem.length < 100000 ∧ d.done.length < 100000
  sum : ∀ x a s b, Ln.sum x a s b ∈ L → ∀ d, I d → ¬d.most ≤ (d.done.length : Int) → Sm (worthM d.mem b) ∧ ∀ v, madeV s (worthM d.mem a) (worthM d.mem b) = some v → I ⟨putM d.mem x v, d.most, d.done ++ [.sum x (worthM d.mem a) s (worthM d.mem b) v]⟩
  test : ∀ a s b, Ln.iff a s b ∈ L → ∀ d, I d → ¬d.most ≤ (d.done.length : Int) → I (testD d a s b)
theorem KeepI.mono {I : Dds → Prop} {L L' : List Ln} (h : KeepI I L) (s : ∀ l ∈ L', l ∈ L) : KeepI I L' := ⟨h.few, fun x a s' b hl => h.sum x a s' b (s _ hl), fun a s' b hl => h.test a s' b (s _ hl)⟩
/-- what a run of four thousand turns asks -/
def PreI (d : Dds) (L : List Ln) : Prop := d.rem < 4000 ∧ ∃ I : Dds → Prop, KeepI I L ∧ I d
theorem PreI.mono {d : Dds} {L L' : List Ln} (h : PreI d L) (s : ∀ l ∈ L', l ∈ L) : PreI d L' := ⟨h.1, let ⟨I, k, i⟩ := h.2; ⟨I, k.mono s, i⟩⟩
theorem PreI.few {d : Dds} {L : List Ln} (h : PreI d L) : d.mem.length < 100000 ∧ d.done.length < 100000 := let ⟨_, k, i⟩ := h.2; k.few d i
end VL
namespace VL
open PySem PySem.Spec PyProof.Rows L2 VL
def rngD (hi : Int) (n : Nat) : List D := (List.range n).map fun (i : Nat) => D.int (hi + (i : Int) * -1)
def viRd (t : VTA) : VTA := fun N ε Q => t N ε fun ds ε1 => ∃ i j : Int, ds = [.int i, .int j, .int (-1)] ∧ (-(2 ^ 62) ≤ i ∧ i < 2 ^ 62 ∧ -(2 ^ 62) ≤ j ∧ j < 2 ^ 62) ∧ Q (rngD i (i - j).toNat) ε1
end VL
namespace VL
open PySem PySem.Spec PyProof.Rows L2 VL
end VL
namespace VL
open PySem PySem.Calls PySem.Spec PyProof.Rows L2
/-- a walk: the iterator at i, over xs; At c: it has told c of them; fp: what it stands on -/
structure Zk (i : Addr) (fp : List Addr) (xs : Array Value) (At : Nat → Heap → Prop) : Prop where
  mem : i ∈ fp
  there : ∀ {c h}, At c h → ∀ b ∈ fp, ∃ o, h.get? b = some o
  keep : ∀ {c h g}, At c h → (∀ b ∈ fp, ∀ o, h.get? b = some o → g.get? b = some o) → At c g
  more : ∀ {P : Program} {w : World} {A : Around} {E : Value → Shared → Prop} {s : Shared} {c : Nat} {x : Value} {Q : Value → Shared → Prop}, At c s.heap → xs[c]? = some x →
    (∀ h, At (c + 1) h → Heap.SameBut i s.heap h → Q x { s with heap := h }) → wpAny (model P w) A (Builtin.SmallTypes.nextOf (.ref i)) Q E s
  stop : ∀ {P : Program} {w : World} {A : Around} {E : Value → Shared → Prop} {s : Shared} {c : Nat} {Q : Value → Shared → Prop}, A.handled = none → At c s.heap → xs[c]? = none →
    (∀ h e, Heap.ExtBut i s.heap h → (∃ o, h.get? e = some o ∧ o.cls = .type "StopIteration") → E (.ref e) { s with heap := h }) → wpAny (model P w) A (Builtin.SmallTypes.nextOf (.ref i)) Q E s
theorem Zk.ext {i j : Addr} {fp : List Addr} {xs : Array Value} {At : Nat → Heap → Prop} (W : Zk i fp xs At) {c : Nat} {h g : Heap} (a : At c h) (s : Heap.ExtBut j h g) (n : j ∉ fp) : At c g := W.keep a fun b hb o e => s b o (fun z => n (z ▸ hb)) e
theorem zk_list {i l : Addr} {xs : Array Value} (n : l ≠ i) : Zk i [i, l] xs fun c h => h.IsListIter i l c ∧ h.IsList l xs where
  mem := List.mem_cons_self
  there := fun ⟨⟨o, e, _⟩, ⟨q, f, _⟩⟩ b hb => by
    rcases List.mem_cons.mp hb with rfl | hb
    · exact ⟨o, e⟩
    · rw [List.mem_singleton.mp hb]; exact ⟨q, f⟩
  keep := fun ⟨a, b⟩ k => ⟨a.at fun o e => k i List.mem_cons_self o e, b.at fun o e => k l (List.mem_cons_of_mem _ List.mem_cons_self) o e⟩
  more := fun ⟨a, b⟩ hx q => wpAny_nextOf_list_item a b hx fun h a2 sb => q h ⟨a2, b.extBut sb.extBut n⟩ sb
  stop := fun hh ⟨a, b⟩ hx q => wpAny_nextOf_list_end hh a b hx q
theorem zk_tup {i l : Addr} {xs : Array Value} (n : l ≠ i) : Zk i [i, l] xs fun c h => h.IsTupleIter i l c ∧ h.IsTuple l xs where
  mem := List.mem_cons_self
  there := fun ⟨⟨o, e, _⟩, ⟨q, f, _⟩⟩ b hb => by
    rcases List.mem_cons.mp hb with rfl | hb
    · exact ⟨o, e⟩
    · rw [List.mem_singleton.mp hb]; exact ⟨q, f⟩
  keep := fun ⟨a, b⟩ k => ⟨a.at fun o e => k i List.mem_cons_self o e, b.at fun o e => k l (List.mem_cons_of_mem _ List.mem_cons_self) o e⟩
  more := fun ⟨a, b⟩ hx q => RZ.nextOf_tuple_item a b hx fun h a2 sb => q h ⟨a2, b.extBut sb.extBut n⟩ sb
  stop := fun hh ⟨a, b⟩ hx q => RZ.nextOf_tuple_end hh a b hx q
/-- the zip object: p its pair that was told last, f whether that was seen alive -/
abbrev ZipF (h : Heap) (z TI TO : Addr) (p : Value) (f : Bool) : Prop :=
  h.get? z = some { cls := .type "zip", dict := none, data := .fields #[p, .bool f, .bool false, .ref TI, .ref TO], slots := #[] }
/-- its parts stand apart -/
structure ZOk (z TI TO i1 i2 : Addr) (f1 f2 : List Addr) : Prop where
  z1 : z ∉ f1
  z2 : z ∉ f2
  o1 : TO ∉ f1
  o2 : TO ∉ f2
  i12 : i1 ∉ f2
  i21 : i2 ∉ f1
  Iz : TI ≠ z
  IO : TI ≠ TO
  I1 : TI ≠ i1
  I2 : TI ≠ i2
  Oz : TO ≠ z
section
variable {P : Program} {w : World} {A : Around} {E : Value → Shared → Prop} {s : Shared} {z TI TO i1 i2 : Addr} {f1 f2 : List Addr} {xs ys : Array Value} {At1 At2 : Nat → Heap → Prop}
/-- is its own pair free? It was told to no one yet -/
theorem zk_free {f : Bool} {Q : Bool → Shared → Prop} (hz : ZipF s.heap z TI TO .none f) (q : Q true s) : wpAny (model P w) A (Builtin.SmallTypes.ownedTupleIsFree (.ref z)) Q E s :=
  wpAny_bind (wpAny_field hz rfl rfl (wpAny_pure q))
/-- the next pair, while its own one is free: that is filled, and told as a new tuple -/
theorem zk_more_free {c : Nat} {x y u0 v0 : Value} {Q : Value → Shared → Prop} (W1 : Zk i1 f1 xs At1) (W2 : Zk i2 f2 ys At2) (D : ZOk z TI TO i1 i2 f1 f2)
    (hz : ZipF s.heap z TI TO .none false) (hI : IsPair s.heap TI (.ref i1) (.ref i2)) (hO : IsPair s.heap TO u0 v0) (w1 : At1 c s.heap) (w2 : At2 c s.heap) (hx : xs[c]? = some x) (hy : ys[c]? = some y)
    (q : ∀ h, ZipF h z TI TO (rawInt s.heap.objs.size) false → IsPair h TO x y → At1 (c + 1) h → At2 (c + 1) h → IsPair h s.heap.objs.size x y → h.objs.size = s.heap.objs.size + 1 →
      (∀ b u, b ≠ z → b ≠ TO → b ≠ i1 → b ≠ i2 → s.heap.get? b = some u → h.get? b = some u) → Q (.ref s.heap.objs.size) { s with heap := h }) :
    wpAny (model P w) A (Builtin.«zip.__next__» ⟨[.ref z], []⟩) (fun r g => ∃ v, r = .done (.ret v) ∧ Q v g) E s := by
  have n1 : z ≠ i1 := fun e => D.z1 (e ▸ W1.mem)
  have n2 : z ≠ i2 := fun e => D.z2 (e ▸ W2.mem)
  have m1 : TO ≠ i1 := fun e => D.o1 (e ▸ W1.mem)
  have m2 : TO ≠ i2 := fun e => D.o2 (e ▸ W2.mem)
  change wpAny _ _ (field (.ref z) 2 >>= _) _ _ _; refine wpAny_bind (wpAny_field hz rfl (x := .bool false) rfl ?_)
  change wpAny _ _ (field (.ref z) 3 >>= _) _ _ _; refine wpAny_bind (wpAny_field hz rfl (x := .ref TI) rfl (wpAny_bind (wpAny_seqItems hI rfl ?_)))
  change wpAny _ _ (Builtin.SmallTypes.ownedTupleIsFree (.ref z) >>= _) _ _ _; refine wpAny_bind (zk_free hz ?_)
  simp only [if_true]; refine wpAny_bind (wpAny_rule (wpAny_bind (wpAny_field hz rfl (x := .ref TO) rfl (wpAny_bind (wpAny_setField_rec hz (by simp) fun g gz e0 => wpAny_bind ?_)))))
  replace gz : ZipF g z TI TO .ellipsis false := gz
  simp only [List.zipIdx_cons, List.zipIdx_nil, List.forIn_cons, List.forIn_nil]; refine wpAny_bind (wpAny_bind (wpAny_onRaise ?_))
  change wpAny _ _ (Builtin.SmallTypes.nextOf (.ref i1) >>= _) _ _ _; refine wpAny_bind (W1.more (W1.ext w1 e0.extBut D.z1) hx fun g1 w1' e1 => wpAny_pure ?_)
  have O1 : IsPair g1 TO u0 v0 := e1.extBut _ _ m1 (e0.extBut _ _ D.Oz hO)
  refine wpAny_bind (wpAny_seqItems O1 rfl (wpAny_bind (wpAny_updateSeq_pair O1 fun g2 O2 e2 => wpAny_bind (wpAny_letGo (wpAny_pure (wpAny_bind (wpAny_bind (wpAny_onRaise ?_))))))))
  replace O2 : IsPair g2 TO x v0 := O2
  change wpAny _ _ (Builtin.SmallTypes.nextOf (.ref i2) >>= _) _ _ _; refine wpAny_bind (W2.more (W2.ext (W2.ext (W2.ext w2 e0.extBut D.z2) e1.extBut D.i12) e2.extBut D.o2) hy fun g3 w2' e3 => wpAny_pure ?_)
  have O3 : IsPair g3 TO x v0 := e3.extBut _ _ m2 O2
  refine wpAny_bind (wpAny_seqItems O3 rfl (wpAny_bind (wpAny_updateSeq_pair O3 fun g4 O4 e4 => wpAny_bind (wpAny_letGo (wpAny_pure (wpAny_pure ?_))))))
  replace O4 : IsPair g4 TO x y := O4
  refine wpAny_bind (wpAny_seqItems O4 rfl (wpAny_bind (wpAny_newTuple (wpAny_bind ?_))))
  have sz : g4.objs.size = s.heap.objs.size := e4.1.trans (e3.1.trans (e2.1.trans (e1.1.trans e0.1)))
  have z4 : ZipF g4 z TI TO .ellipsis false := e4.extBut _ _ D.Oz.symm (e3.extBut _ _ n2 (e2.extBut _ _ D.Oz.symm (e1.extBut _ _ n1 gz)))
  have lz : z < g4.objs.size := Heap.lt_size z4
  unfold Builtin.SmallTypes.ownedTupleHandOut
  refine wpAny_bind (wpAny_setField_rec (Heap.get?_push_of_some _ z4) (by simp) fun g5 z5 e5 => ?_)
  replace z5 : ZipF g5 z TI TO (rawInt g4.objs.size) false := z5
  refine wpAny_setField_rec z5 (by simp) fun g6 z6 e6 => wpAny_pure ⟨_, rfl, ?_⟩
  replace z6 : ZipF g6 z TI TO (rawInt g4.objs.size) false := z6
  have up : ∀ b u, b ≠ z → g4.get? b = some u → g6.get? b = some u := fun b u n e => e6.extBut _ _ n (e5.extBut _ _ n (Heap.get?_push_of_some _ e))
  have new : IsPair g6 g4.objs.size x y := e6.extBut _ _ (Nat.ne_of_gt lz) (e5.extBut _ _ (Nat.ne_of_gt lz) (Heap.get?_push_size _ rfl))
  have sz6 : g6.objs.size = g4.objs.size + 1 := e6.1.trans (e5.1.trans (Heap.size_push ..))
  change Q (.ref g4.objs.size) _
  rw [sz] at z6 new sz6 ⊢
  exact q g6 z6 (up _ _ D.Oz O4) (W1.keep (W1.ext (W1.ext (W1.ext w1' e2.extBut D.o1) e3.extBut D.i21) e4.extBut D.o1) fun b hb u => up b u fun e => D.z1 (e ▸ hb)) (W2.keep (W2.ext w2' e4.extBut D.o2) fun b hb u => up b u fun e => D.z2 (e ▸ hb)) new sz6
    fun b u h0 hO h1 h2 e => up b u h0 (e4.extBut _ _ hO (e3.extBut _ _ h2 (e2.extBut _ _ hO (e1.extBut _ _ h1 (e0.extBut _ _ h0 e)))))
theorem zk_stop_free {c : Nat} {Q : Fin → Shared → Prop} (calm : A.handled = none) (W1 : Zk i1 f1 xs At1) (D : ZOk z TI TO i1 i2 f1 f2)
    (hz : ZipF s.heap z TI TO .none false) (hI : IsPair s.heap TI (.ref i1) (.ref i2)) (w1 : At1 c s.heap) (hx : xs[c]? = none)
    (q : ∀ h e, (∀ b u, b ≠ z → b ≠ i1 → s.heap.get? b = some u → h.get? b = some u) → (∃ o, h.get? e = some o ∧ o.cls = .type "StopIteration") → E (.ref e) { s with heap := h }) :
    wpAny (model P w) A (Builtin.«zip.__next__» ⟨[.ref z], []⟩) Q E s := by
  change wpAny _ _ (field (.ref z) 2 >>= _) _ _ _; refine wpAny_bind (wpAny_field hz rfl (x := .bool false) rfl ?_)
  change wpAny _ _ (field (.ref z) 3 >>= _) _ _ _; refine wpAny_bind (wpAny_field hz rfl (x := .ref TI) rfl (wpAny_bind (wpAny_seqItems hI rfl ?_)))
  change wpAny _ _ (Builtin.SmallTypes.ownedTupleIsFree (.ref z) >>= _) _ _ _; refine wpAny_bind (zk_free hz ?_)
  simp only [if_true]; refine wpAny_bind (wpAny_rule (wpAny_bind (wpAny_field hz rfl (x := .ref TO) rfl (wpAny_bind (wpAny_setField_rec hz (by simp) fun g gz e0 => wpAny_bind ?_)))))
  replace gz : ZipF g z TI TO .ellipsis false := gz
  simp only [List.zipIdx_cons, List.zipIdx_nil, List.forIn_cons, List.forIn_nil]; refine wpAny_bind (wpAny_bind (wpAny_onRaise ?_))
  change wpAny _ _ (Builtin.SmallTypes.nextOf (.ref i1) >>= _) _ _ _; refine wpAny_bind (W1.stop calm (W1.ext w1 e0.extBut D.z1) hx fun g1 e e1 ⟨oe, he, hc⟩ => ?_)
  have z1 : ZipF g1 z TI TO .ellipsis false := e1 _ _ (fun k => D.z1 (k ▸ W1.mem)) gz
  have ne : e ≠ z := fun k => by
    rw [k, z1] at he
    cases he
    exact absurd hc (by show Value.type "zip" ≠ Value.type "StopIteration"; decide)
  exact wpAny_setField_rec z1 (by simp) fun g2 _ e2 => q g2 e (fun b u h0 h1 k => e2.extBut _ _ h0 (e1 b u h1 (e0.extBut b u h0 k))) ⟨oe, e2.extBut _ _ ne he, hc⟩
/-- the zip object behind c pairs -/
def ZAt (z TI TO i1 i2 : Addr) (At1 At2 : Nat → Heap → Prop) (own : Addr → Prop) (c : Nat) (h : Heap) : Prop :=
  (IsPair h TI (.ref i1) (.ref i2) ∧ (∃ u v, IsPair h TO u v) ∧ At1 c h ∧ At2 c h) ∧ (ZipF h z TI TO .none false ∨ ∃ (a : Addr) (f : Bool) (o : Obj), ZipF h z TI TO (rawInt a) f ∧ h.get? a = some o ∧ own a)
theorem ZAt.zip {c : Nat} {own : Addr → Prop} (x : ZAt z TI TO i1 i2 At1 At2 own c s.heap) : s.TypeIs (.ref z) "zip" := by
  rcases x.2 with e | ⟨_, _, _, e, _⟩ <;> exact ⟨_, e, rfl⟩
theorem ZAt.keep {c : Nat} {S : Addr} {own : Addr → Prop} {h g : Heap} (W1 : Zk i1 f1 xs At1) (W2 : Zk i2 f2 ys At2) (x : ZAt z TI TO i1 i2 At1 At2 own c h) (n : S ≠ z ∧ S ≠ TI ∧ S ≠ TO ∧ S ∉ f1 ∧ S ∉ f2) (no : ∀ a, own a → a ≠ S) (k : ∀ b u, b ≠ S → h.get? b = some u → g.get? b = some u) : ZAt z TI TO i1 i2 At1 At2 own c g := by
  obtain ⟨⟨hI, ⟨u, v, hO⟩, w1, w2⟩, hz⟩ := x
  refine ⟨⟨k _ _ n.2.1.symm hI, ⟨u, v, k _ _ n.2.2.1.symm hO⟩, W1.keep w1 fun b hb o => k b o fun e => n.2.2.2.1 (e ▸ hb), W2.keep w2 fun b hb o => k b o fun e => n.2.2.2.2 (e ▸ hb)⟩, hz.imp (k _ _ n.1.symm) ?_⟩
  exact fun ⟨a, f, o, e, ha, ow⟩ => ⟨a, f, o, k _ _ n.1.symm e, k _ _ (no a ow) ha, ow⟩
end
/-- the pairs that were told, at as -/
structure Prs (xs ys : Array Value) (lo : Addr) (h : Heap) (as : List Addr) : Prop where
  up : as.Pairwise (· < ·)
  lo : ∀ a ∈ as, lo ≤ a
  is : ∀ (j : Nat) (a : Addr), as[j]? = some a → ∃ x y, xs[j]? = some x ∧ ys[j]? = some y ∧ IsPair h a x y
theorem Prs.lt {xs ys : Array Value} {lo : Addr} {h : Heap} {as : List Addr} (p : Prs xs ys lo h as) {a : Addr} (ha : a ∈ as) : a < h.objs.size := by
  obtain ⟨j, e⟩ := List.mem_iff_getElem?.mp ha
  obtain ⟨_, _, _, _, e⟩ := p.is j a e
  exact Heap.lt_size e
theorem Prs.keep {xs ys : Array Value} {lo : Addr} {h g : Heap} {as : List Addr} (p : Prs xs ys lo h as) (k : ∀ a ∈ as, ∀ u, h.get? a = some u → g.get? a = some u) : Prs xs ys lo g as :=
  ⟨p.up, p.lo, fun j a e => let ⟨x, y, e1, e2, e3⟩ := p.is j a e; ⟨x, y, e1, e2, k a (List.mem_of_getElem? e) _ e3⟩⟩
end VL
namespace VL
open PySem PySem.Calls PySem.Spec PyProof.Rows L2
end VL
namespace VL
open PySem PySem.Spec PyProof.Rows L2 PySem.W
end VL
namespace VL
open PySem PySem.Calls PySem.Spec PyProof.Rows L2
section
variable {P : Program} {w : World} {A : Around} {E : Value → Shared → Prop} {s : Shared} {z TI TO i1 i2 : Addr} {f1 f2 : List Addr} {xs ys : Array Value} {At1 At2 : Nat → Heap → Prop}
theorem zk_turn {c : Nat} {x y u0 v0 : Value} {Q : Option Value → Shared → Prop} (W1 : Zk i1 f1 xs At1) (W2 : Zk i2 f2 ys At2) (D : ZOk z TI TO i1 i2 f1 f2)
    (hz : ZipF s.heap z TI TO .none false) (hI : IsPair s.heap TI (.ref i1) (.ref i2)) (hO : IsPair s.heap TO u0 v0) (w1 : At1 c s.heap) (w2 : At2 c s.heap) (hx : xs[c]? = some x) (hy : ys[c]? = some y)
    (q : ∀ h, ZipF h z TI TO (rawInt s.heap.objs.size) false → IsPair h TO x y → At1 (c + 1) h → At2 (c + 1) h → IsPair h s.heap.objs.size x y →
      (∀ b u, b ≠ z → b ≠ TO → b ≠ i1 → b ≠ i2 → s.heap.get? b = some u → h.get? b = some u) → Q (some (.ref s.heap.objs.size)) { s with heap := h }) : wpAny (model P w) A (pyNext (.ref z)) Q E s := by
  have ty : s.TypeIs (.ref z) "zip" := ⟨_, hz, rfl⟩
  unfold pyNext
  exact wpAny_bind (wpAny_attempt (wpAny_callSpecial?_slot (name := Str.ofString "__next__") ty F.slot_zip_next (wpAny_call_entry F.slot_zip_next ty F.entry_zip_next (zk_more_free W1 W2 D hz hI hO w1 w2 hx hy fun h a1 a2 a3 a4 a5 _ k => wpAny_pure (q h a1 a2 a3 a4 a5 k)) (F.args_zip_next_1 _))))
theorem zk_over {c : Nat} {Q : Option Value → Shared → Prop} (calm : A.handled = none) (W1 : Zk i1 f1 xs At1) (D : ZOk z TI TO i1 i2 f1 f2) (hz : ZipF s.heap z TI TO .none false) (hI : IsPair s.heap TI (.ref i1) (.ref i2)) (w1 : At1 c s.heap) (hx : xs[c]? = none)
    (q : ∀ h, (∀ b u, b ≠ z → b ≠ i1 → s.heap.get? b = some u → h.get? b = some u) → Q none { s with heap := h }) : wpAny (model P w) A (pyNext (.ref z)) Q E s := by
  have ty : s.TypeIs (.ref z) "zip" := ⟨_, hz, rfl⟩
  unfold pyNext
  refine wpAny_bind (wpAny_attempt (wpAny_callSpecial?_slot (name := Str.ofString "__next__") ty F.slot_zip_next (wpAny_call_entry F.slot_zip_next ty F.entry_zip_next (zk_stop_free calm W1 D hz hI w1 hx fun h e k he => ?_) (F.args_zip_next_1 _))))
  obtain ⟨o, ho, hc⟩ := he
  exact wpAny_bind (wpAny_isInstance (T := "StopIteration") (b := true) ⟨o, ho, hc⟩ isSubtype_stop (wpAny_pure (q h k)))
end
/-- the tuple at a and the list at b, at each turn as they stand then -/
def ItzM (K : PySem.W.Frag) (a b : Addr) : It :=
  ⟨fun i H => ∃ (xs ys : List V) (x y : V), SqT K H a xs ∧ SqL K H b ys ∧ xs[i]? = some x ∧ ys[i]? = some y,
    fun i H v G => ∃ T x y, (v = .ref T ∧ H T = none ∧ G = upd H T (.tup [x, y])) ∧ (∀ xs, SqT K H a xs → xs[i]? = some x) ∧ ∀ ys, SqL K H b ys → ys[i]? = some y,
    fun i H => ∃ xs, SqT K H a xs ∧ (∃ ys, SqL K H b ys) ∧ xs.length ≤ i⟩
theorem zOk_of {z TI TO i1 i2 a b : Addr} (D : ZipApart z TI TO i1 i2 a b) : ZOk z TI TO i1 i2 [i1, a] [i2, b] :=
  ⟨by simp [D.i1z.symm, D.l1z.symm], by simp [D.i2z.symm, D.l2z.symm], by simp [D.TOi1, D.l1TO.symm], by simp [D.TOi2, D.l2TO.symm], by simp [D.i12, D.l2i1.symm], by simp [D.i12.symm, D.l1i2.symm], D.TIz, D.TITO, D.TIi1, D.TIi2, D.TOz⟩
theorem turn_zipM {P : Program} {w : World} {K : PySem.W.Frag} {elts : List Expr} {kk : Nat} {tpos : Pos} {a b z TI TO i1 i2 : Addr} (D : ZipApart z TI TO i1 i2 a b) :
    Turn P w K (.Tuple elts kk tpos) (ItzM K a b) [z, TI, TO, i1, i2] z (fun i h => ZipF h z TI TO .none false ∧ IsPair h TI (.ref i1) (.ref i2) ∧ (∃ x y, IsPair h TO x y) ∧ h.IsTupleIter i1 a i ∧ h.IsListIter i2 b i) where
  mem := List.mem_cons_self
  obj := fun i h ⟨hz, hI, ⟨x, y, hO⟩, ⟨o1, e1, _, d1⟩, ⟨o2, e2, _, d2⟩⟩ c hc => by
    simp only [List.mem_cons, List.not_mem_nil, or_false] at hc
    rcases hc with rfl | rfl | rfl | rfl | rfl
    · exact ⟨_, hz, fun v e => nomatch e⟩
    · exact ⟨_, hI, fun v e => nomatch e⟩
    · exact ⟨_, hO, fun v e => nomatch e⟩
    · exact ⟨o1, e1, fun v e => by rw [d1] at e; cases e⟩
    · exact ⟨o2, e2, fun v e => by rw [d2] at e; cases e⟩
  keep := fun i h g ⟨hz, hI, ⟨x, y, hO⟩, h1, h2⟩ k => ⟨k z (by simp) _ hz, k TI (by simp) _ hI, ⟨x, y, k TO (by simp) _ hO⟩, h1.at fun o e => k i1 (by simp) o e, h2.at fun o e => k i2 (by simp) o e⟩
  item := by
    rintro X rfl rfl rfl hc i pins s σ H E I hf ⟨hz, hI, ⟨x0, y0, hO⟩, h1, h2⟩ ⟨xs, ys, x, y, qx, qy, hx, hy⟩
    obtain ⟨us, ru, pu, _⟩ := I.tuple qx
    obtain ⟨vs, rv, pv, _⟩ := I.list qy
    obtain ⟨u, hu, xu⟩ := ru.get hx
    obtain ⟨v, hv, yv⟩ := rv.get hy
    have lz : z < s.heap.objs.size := Heap.lt_size hz
    refine zk_turn (zk_tup D.l1i1) (zk_list D.l2i2) (zOk_of D) hz hI hO ⟨h1, pu⟩ ⟨h2, pv.isList⟩ (x := u) (y := v) (by simpa using hu) (by simpa using hv) fun g z1 O1 a1 a2 new k => ⟨_, rfl, wpAny_letOwnedTupleGo_zip (s := { s with heap := g }) z1 fun g2 z2 e2 => ?_⟩
    have new2 : IsPair g2 s.heap.objs.size u v := e2.extBut _ _ (Nat.ne_of_gt lz) new
    have out : ∀ c o, c ∉ [z, TI, TO, i1, i2] → s.heap.get? c = some o → g2.get? c = some o := fun c o n e => by
      simp only [List.mem_cons, List.not_mem_nil, or_false, not_or] at n
      exact e2.extBut c o n.1 (k c o n.1 n.2.2.1 n.2.2.2.1 n.2.2.2.2 e)
    have J : Inv X pins σ (upd H s.heap.objs.size (.tup [x, y])) { s with heap := g2 } := I.turnedNew (t' := s.toks) (ch := [z, TI, TO, i1, i2]) out hf (Nat.le_refl _) ⟨by show 2 ≤ sizeLine; decide, [u, v], .cons xu (.cons yv .nil), ⟨_, new2, rfl, _, rfl⟩⟩
    refine ⟨.ref s.heap.objs.size, _, J, rfl, ⟨_, x, y, ⟨rfl, I.hok.fresh (Nat.le_refl _), rfl⟩, fun l hl => by rw [I.tuple_inj hl qx]; exact hx, fun l hl => by rw [I.list_inj hl qy]; exact hy⟩,
      ⟨z2, e2.extBut _ _ D.TIz (k _ _ D.TIz D.TITO D.TIi1 D.TIi2 hI), ⟨u, v, e2.extBut _ _ D.TOz O1⟩, a1.1.at fun o => e2.extBut _ o D.i1z, a2.1.at fun o => e2.extBut _ o D.i2z⟩, fun c hcm => ?_⟩
    have lc : c < s.heap.objs.size := by
      simp only [List.mem_cons, List.not_mem_nil, or_false] at hcm
      rcases hcm with rfl | rfl | rfl | rfl | rfl
      · exact lz
      · exact Heap.lt_size hI
      · exact Heap.lt_size hO
      · exact let ⟨_, e, _⟩ := h1; Heap.lt_size e
      · exact let ⟨_, e, _⟩ := h2; Heap.lt_size e
    exact (upd_ne (Nat.ne_of_lt lc)).trans (hf c hcm).1
  done := by
    rintro X rfl rfl rfl hc i pins s σ H E I hf ⟨hz, hI, _, h1, h2⟩ ⟨xs, qx, _, le⟩
    obtain ⟨us, ru, pu, _⟩ := I.tuple qx
    have lu := ru.length
    refine zk_over (I.ok.hd hc) (zk_tup (xs := us.toArray) D.l1i1) (zOk_of D) hz hI ⟨h1, pu⟩ (by simp; omega) fun g k => ⟨rfl, I.turnedL (t' := s.toks) (ch := [z, TI, TO, i1, i2]) (fun c o n e => ?_) hf⟩
    simp only [List.mem_cons, List.not_mem_nil, or_false, not_or] at n
    exact k c o n.1 n.2.2.2.1 e
  self := fun A i s Q E st q => wpAny_pyIter_zip st.1 q
/-- what it lays: two iterators, the pair of them, its own pair, itself -/
def zmL (l1 l2 : Addr) (n : Nat) : List Obj :=
  [{ cls := .type "tuple_iterator", data := .fields #[.ref l1, .int 0 0] }, { cls := .type "list_iterator", data := .fields #[.ref l2, .int 0 0] }, { cls := .type "tuple", data := .seq #[.ref n, .ref (n + 1)] },
    { cls := .type "tuple", data := .seq #[.none, .none] }, { cls := .type "zip", data := .fields #[.none, .bool false, .bool false, .ref (n + 2), .ref (n + 3)] }]
def pushO : List Obj → Heap → Heap
  | [], h => h
  | o :: os, h => pushO os (h.push o)
theorem pushO_old : ∀ (os : List Obj) {h : Heap} {b : Addr} {u : Obj}, h.get? b = some u → (pushO os h).get? b = some u
  | [], _, _, _, e => e
  | o :: os, h, b, u, e => pushO_old os (Heap.get?_push_of_some o e)
theorem pushO_new : ∀ (os : List Obj) (h : Heap) (j : Nat) (o : Obj), os[j]? = some o → o.isFreed = false → (pushO os h).get? (h.objs.size + j) = some o
  | [], _, j, o, e, _ => by simp at e
  | o' :: os, h, 0, o, e, hf => by
    cases e
    exact pushO_old os (Heap.get?_push_size h hf)
  | o' :: os, h, j + 1, o, e, hf => by
    have := pushO_new os (h.push o') j o (by simpa using e) hf
    rw [Heap.size_push] at this
    show (pushO os (h.push o')).get? (h.objs.size + (j + 1)) = some o
    rw [Nat.add_comm j 1, ← Nat.add_assoc]
    exact this
theorem meets_zipM (l1 l2 : Addr) (xs ys : Array Value) : Meets (Builtin.«zip.__new__» ⟨[.type "zip", .ref l1, .ref l2], []⟩) (fun _ R s => s.heap.IsTuple l1 xs ∧ s.heap.IsList l2 ys ∧
    R (.ok (.ret (.ref (s.heap.objs.size + 4)))) { s with heap := pushO (zmL l1 l2 s.heap.objs.size) s.heap }) :=
  .of_wp fun P w A R s ⟨a, b, q⟩ => by
    obtain ⟨h, g, d, tk, os⟩ := s
    have sub := sub_zip
    have a1 : Heap.IsTuple (Shared.heap ⟨h, g, d, tk, os⟩) l1 xs := a
    have b1 : Heap.IsList (Shared.heap ⟨h.push { cls := .type "tuple_iterator", data := .fields #[.ref l1, .int 0 0] }, g, d, tk, os⟩) l2 ys := Heap.IsList.push b _
    wp_walk using wpAny_pyIter_tuple a1, wpAny_pyIter_list b1
    refine ⟨_, rfl, ?_⟩
    simp only [Heap.size_push, Nat.add_assoc]
    exact q
theorem call_zipM {P : Program} {w : World} {A : Around} {E : Value → Shared → Prop} {s : Shared} {l1 l2 : Addr} {xs ys : Array Value} {Q : Value → Shared → Prop} (a : s.heap.IsTuple l1 xs) (b : s.heap.IsList l2 ys)
    (q : ∀ h, ZipF h (s.heap.objs.size + 4) (s.heap.objs.size + 2) (s.heap.objs.size + 3) .none false → IsPair h (s.heap.objs.size + 2) (.ref s.heap.objs.size) (.ref (s.heap.objs.size + 1)) → IsPair h (s.heap.objs.size + 3) .none .none →
      h.IsTupleIter s.heap.objs.size l1 0 → h.IsListIter (s.heap.objs.size + 1) l2 0 → (∀ c o, s.heap.get? c = some o → h.get? c = some o) → Q (.ref (s.heap.objs.size + 4)) { s with heap := h }) :
    wpAny (model P w) A (call (.type "zip") [.ref l1, .ref l2]) Q E s := by
  have at' := fun (j : Nat) (o : Obj) => pushO_new (zmL l1 l2 s.heap.objs.size) s.heap j o
  refine callType_new F.called_zip (by decide) (F.typeCall_zip_2 _ _) (F.newCall_zip_2 _ _) (fun obj => F.args_object_init_3 obj _ _) F.entry_zip_new (meets_zipM l1 l2 xs ys) ⟨a, b, ?_⟩
  exact ⟨⟨_, at' 4 _ rfl rfl, rfl⟩, q _ (at' 4 _ rfl rfl) (at' 2 _ rfl rfl) (at' 3 _ rfl rfl) ⟨_, at' 0 _ rfl rfl, rfl, rfl⟩ ⟨_, at' 1 _ rfl rfl, rfl, rfl⟩ fun c o e => pushO_old _ e⟩
end VL
namespace VL
open PySem PySem.Calls PySem.Spec PyProof.Rows L2
def iZipM (K : PySem.W.Frag) (ta : TA) : TI := fun σ H R => ta σ H fun vs H1 => ∃ a b xs ys, vs = [.ref a, .ref b] ∧ SqT K H1 a xs ∧ SqL K H1 b ys ∧ R (ItzM K a b) H1
theorem pi_zipM {X : Cx} {e e2 : Expr} {ta : TA} {p pos tpos : Pos} {elts : List Expr} {kk : Nat} (hg : Gl X "zip") (hm : X.mg "zip" = none) (ha : PA X [e, e2] ta)
    (hs : starEach [e, e2] X.env = (false, eval e X.env) :: starEach [e2] X.env) (hpl : (backTo pos (starEach [e2] X.env)).any (·.1) = false) : PI X (.Tuple elts kk tpos) (.Call (.Name "zip" p) [e, e2] [] pos) (iZipM X.K ta) := by
  refine ⟨fun pins s σ H R I h => Call_ (ld_blt I hg hm PyProof.Rows.boot_zip (PyProof.Rows.callWith_type1 (thn (ha.run pos pins s σ H _ I h) fun us s1 ⟨vs, H1, J, rv, z⟩ => ?_) hs hpl))⟩
  obtain ⟨a, b, xs, ys, rfl, qa, qb, z⟩ := z
  obtain ⟨u, v, rfl, ru, rv'⟩ := vals2 rv
  cases ru
  cases rv'
  obtain ⟨us, _, pa, _⟩ := J.tuple qa
  obtain ⟨ws, _, pb, _⟩ := J.list qb
  have la : a < s1.heap.objs.size := let ⟨_, e, _⟩ := id pa; Heap.lt_size e
  refine call_zipM (xs := us.toArray) (ys := ws.toArray) pa pb.isList fun g gz gI gO g1 g2 k => wpAny_pyIter_zip gz ?_
  refine ⟨_, [s1.heap.objs.size + 4, s1.heap.objs.size + 2, s1.heap.objs.size + 3, s1.heap.objs.size, s1.heap.objs.size + 1], _, _, H1, rfl, J.kept (t' := s1.toks) k, turn_zipM (PySem.W.ktu_apart s1.heap.objs.size a b la pb.lt), ⟨gz, gI, ⟨_, _, gO⟩, g1, g2⟩, fun c hc => ?_, z⟩
  have le : s1.heap.objs.size ≤ c := by
    simp only [List.mem_cons, List.not_mem_nil, or_false] at hc
    rcases hc with rfl | rfl | rfl | rfl | rfl
    · exact Nat.le_add_right _ 4
    · exact Nat.le_add_right _ 2
    · exact Nat.le_add_right _ 3
    · exact Nat.le_refl _
    · exact Nat.le_add_right _ 1
  exact J.fpOk le (J.hok.fresh le)
theorem wk_zipM {K : PySem.W.Frag} {ds es : List D} {a c : Addr} (hd1 : isFzL ds = true) (le : ds.length ≤ es.length) : Wk K (ItzM K a c) (zipD ds es) [.tup ds, .lst false es] [.ref a, .ref c] := fun b σ H ε T Tv i hl I => by
  obtain ⟨G, F, Ft, J⟩ := id I
  obtain ⟨F1, F2, rfl, r1, r2⟩ := J.temps.split2 hl
  obtain ⟨v1, vs', A, B, e1, rfl, ra, v2, vs2, A2, B2, e2, rfl, rb, rfl, rfl⟩ := r2
  cases e1
  cases e2
  obtain ⟨a', vs, e, s, r⟩ := ra
  cases e
  obtain ⟨c', us, e, s', rfl, r'⟩ := rb
  cases e
  obtain rfl := r.fz hd1
  have s2 : SqT K H a vs := SqT.of (J.sub _ _ s)
  have s3 : SqL K H c us := J.sub.sqL s'
  refine ⟨fun d hd => ?_, fun h => ⟨vs, s2, ⟨us, s3⟩, by rw [zipD_len] at h; rw [← r.len]; omega⟩⟩
  obtain ⟨x, y, hx, hy, rfl⟩ := zipD_get hd
  obtain ⟨v, hv, rv⟩ := r.get hx
  obtain ⟨u, hu, ru⟩ := r'.get hy
  refine ⟨⟨vs, us, v, u, s2, s3, hv, hu⟩, fun z H' ⟨p, w1, w2, ⟨e1, hp, e2⟩, y1, y2⟩ => ?_⟩
  subst e1 e2
  obtain rfl : v = w1 := by have := (y1 vs s2).symm.trans hv; exact (Option.some.inj this).symm
  obtain rfl : u = w2 := by have := (y2 us s3).symm.trans hu; exact (Option.some.inj this).symm
  have J2 := (J.push (rv.fzUp Sub.refl)).push (ru.fzUp Sub.refl)
  have I2 : SI K b σ H ε ((T ++ [.tup ds, .lst false es]) ++ [x, y]) ((Tv ++ [.ref a, .ref c]) ++ [v, u]) := ⟨G, F, _, by simpa only [List.append_assoc, List.cons_append, List.nil_append] using J2⟩
  simpa only [List.append_assoc] using I2.newTup (lenApp hl rfl) hp
section
variable {X : Cv}
def viZipM (t : VTA) : VTA := fun N ε Q => t N ε fun ds ε1 => ∃ xs ys, ds = [.tup xs, .lst false ys] ∧ isFzL xs = true ∧ xs.length ≤ ys.length ∧ Q (zipD xs ys) ε1
theorem vi_zipM {e e2 : Expr} {t : VTA} {p pos tpos : Pos} {elts : List Expr} {kk : Nat} (hg : Gl X.toCx "zip") (hm : X.mg "zip" = none) (ha : VA X [e, e2] [none, none] t)
    (hs : starEach [e, e2] X.env = (false, eval e X.env) :: starEach [e2] X.env := by rfl) (hpl : (backTo pos (starEach [e2] X.env)).any (·.1) = false := by rfl) : VI X (.Tuple elts kk tpos) (.Call (.Name "zip" p) [e, e2] [] pos) (viZipM t) := by
  obtain ⟨t', a1, a2⟩ := ha.ex
  refine ⟨fun W => iZipM X.K (t' W), fun W tk => pi_zipM hg hm (a1 W tk) hs hpl, fun b σ H ε T Tv W N Q Q' I q k x => ?_⟩
  refine a2 b σ H ε T Tv W N _ _ I q (fun ds vs ε1 H1 J l hh z => ?_) x
  obtain ⟨xs, ys, rfl, f1, le, z⟩ := z
  obtain ⟨v, w, rfl⟩ := len2 l
  obtain ⟨G, F, F2, su, r, r'⟩ := J.last2 I.lenT
  obtain ⟨a, us, rfl, s, _⟩ := r
  obtain ⟨c, ws, rfl, s', _, _⟩ := r'
  exact ⟨a, c, us, ws, rfl, SqT.of (su _ _ s), su.sqL s', k _ [.tup xs, .lst false ys] [.ref a, .ref c] _ ε1 H1 J rfl (wk_zipM f1 le) z⟩
end
end VL
namespace VL
open PySem PySem.Calls PySem.Spec PyProof.Rows L2
def rValsL : V → Hp → VK → Prop := fun x H Q => ∃ (d : Addr) (kvs : List (Key × V)), x = .ref d ∧ H d = some (.dK kvs) ∧ ∀ p, H p = none → Q (.ref p) (upd H p (.lst (kvs.map (·.2))))
theorem kv_vals : ∀ {kvs : List (Key × V)} {us : List (Key × Value)}, KV kvs us → Vals (kvs.map (·.2)) (us.map (·.2))
  | _, _, .nil => .nil
  | _, _, .cons h t => .cons h.2 (kv_vals t)
section
variable {X : Cx} {e : Expr} {te : TE} {p apos cpos pos : Pos}
theorem pe_listVals (calm : X.calm = true) (he : PE X e te) (hg : Gl X "list") (hm : X.mg "list" = none) (hbase : attributeBase e "values" X.env (eval e X.env) = eval e X.env) (hline : (apos.endLine == cpos.line) = true)
    (hs : starEach [.Call (.Attribute e "values" apos) [] [] cpos] X.env = (false, eval (.Call (.Attribute e "values" apos) [] [] cpos) X.env) :: starEach [] X.env) :
    PE X (.Call (.Name "list" p) [.Call (.Attribute e "values" apos) [] [] cpos] [] pos) (tUn rValsL te) := by
  refine ⟨fun pins s σ H Q I z => Call_ (ld_blt I hg hm boot_list (PyProof.Rows.callWith_type1 (args_cons ?_ hs) hs rfl))⟩
  refine wpAny_Call_method (T := "dict") (id := "dict.values") hbase rfl hline F.plainAttrs_dict F.slot_dict_values F.type_dict_values (thn (he.run pins s σ H _ I z) fun u s1 ⟨x, H1, J, rx, d, kvs, ex, hd, q⟩ => ?_)
  subst ex
  obtain rfl : u = Value.ref d := rx
  obtain ⟨fits, ns, us, kv, hdo⟩ := J.hok d _ hd
  obtain ⟨ep, hat⟩ := hdo.dictAt
  have lk : kvs.length = us.length := Paired.length kv
  refine ⟨hdo.typeIs, hdo.mapOf.noDict, ?_⟩
  change wpAny _ _ (callWith cpos (.builtin "dict.values") [.ref d] [] []) _ X.xe s1
  refine method_meetsIn F.slot_dict_values F.entry_dict_values rfl (PySem.evalArgs_none ⟨rfl, hdo.typeIs, F.args_dict_values_1 _, _, meets_dict_values (mixKind X.prog X.w) d ns, ⟨us, hdo⟩, args_nil ?_⟩)
  have sz : (s1.heap.push { cls := .type "dict_values", data := .fields #[.ref d] }).objs.size = s1.heap.objs.size + 1 := Heap.size_push ..
  refine PySem.W.kdl_call (PySem.W.kdl_values (knd := mixKind X.prog X.w) (kvs := us) (ep := ep)) (J.ok.hd calm) ⟨⟨_, Heap.get?_push_size _ rfl, rfl, rfl⟩, hat.push _⟩ (by omega) fun h tk acc c k hS it => ?_
  have all : ∀ b o, s1.heap.get? b = some o → h.get? b = some o := fun b o e => k b o (Heap.get?_push_of_some _ e)
  have eqv : acc.toList = us.map (·.2) := PySem.W.kdl_vals_eq acc.toList (by rw [Array.length_toList]; exact it.1) fun j v e => it.2 j v (by simpa using e)
  change h.get? (s1.heap.push _).objs.size = _ at hS
  change EP X pins σ Q (.ref (s1.heap.push _).objs.size) _
  rw [sz] at hS ⊢
  refine ⟨.ref (s1.heap.objs.size + 1), upd H1 (s1.heap.objs.size + 1) (.lst (kvs.map (·.2))), J.laid (t' := tk) all (Nat.le_succ _) ⟨by rw [List.length_map]; exact fits, acc.toList, c, by rw [eqv]; exact kv_vals kv, by rw [Array.toArray_toList]; exact hS⟩, rfl, q _ (J.hok.fresh (Nat.le_succ _))⟩
end
def sValsL : List D → (D → Prop) → Prop := fun ds Q => ∃ ks xs, ds = [.dK true ks xs] ∧ isFzL xs = true ∧ Q (.lst true xs)
theorem opn_valsL {K : PySem.W.Frag} : OpN K (r1N rValsL) sValsL := OpN.mk fun G H ds vs F Q Q' hs r q k => by
  obtain ⟨ks, xs, rfl, fz, q⟩ := q
  obtain ⟨v, rfl, rx⟩ := r.one'
  obtain ⟨a, us, F', rfl, s, rfl, lk, nd, rl⟩ := rx
  obtain rfl := rl.fz fz
  have le := rl.len
  have e : (kzip ks us).map (·.2) = us := by
    unfold kzip
    rw [List.map_snd_zip]
    rw [List.length_map]
    omega
  exact ⟨_, rfl, a, _, rfl, s, fun p hp => k _ _ _ (by rw [e]; exact .lst rl hp) q⟩
theorem ve_listVals {X : Cv} {e : Expr} {r : Option Nat} {t : VTE} {p apos cpos pos : Pos} (calm : X.calm = true) (hg : Gl X.toCx "list") (hm : X.mg "list" = none) (ha : VG X e r t)
    (hbase : attributeBase e "values" X.env (eval e X.env) = eval e X.env := by rfl) (hline : (apos.endLine == cpos.line) = true := by rfl)
    (hs : starEach [.Call (.Attribute e "values" apos) [] [] cpos] X.env = (false, eval (.Call (.Attribute e "values" apos) [] [] cpos) X.env) :: starEach [] X.env := by rfl) :
    VE X (.Call (.Name "list" p) [.Call (.Attribute e "values" apos) [] [] cpos] [] pos) (vOp sValsL [r] (va1 t)) := by
  obtain ⟨t', a1, a2⟩ := ha.ex
  refine ⟨fun W => tUn rValsL (t' W), fun W tk => pe_listVals calm (a1 W tk) hg hm hbase hline hs, fun b σ H ε T Tv W N Q Q' I q k x => ?_⟩
  exact a2 b σ H ε T Tv W N _ _ I q (fun d v ε1 H1 J hd z => one_run opn_valsL I.lenT J hd z k) x
def sMinL : List D → (D → Prop) → Prop := fun ds Q => ∃ m xs, ∃ ns : List Int, ds = [.lst m xs] ∧ xs = ns.map D.int ∧ 0 < ns.length ∧ ∀ z ∈ ns, (∀ y ∈ ns, z ≤ y) → Q (.int z)
theorem Rp.lstOf {K : PySem.W.Frag} {G H : Hp} (hs : Sub G H) {m : Bool} {xs : List D} {v : V} {F : List Addr} (r : Rp K G H (.lst m xs) v F) : ∃ a us F', v = .ref a ∧ SqL K H a us ∧ RpL K G H xs us F' := by
  cases m with
  | false => exact let ⟨a, us, e, s, _, r⟩ := r; ⟨a, us, [], e, hs.sqL s, r⟩
  | true => exact let ⟨a, us, F', e, s, _, r⟩ := r; ⟨a, us, F', e, SqL.of s, r⟩
theorem opn_minL {K : PySem.W.Frag} : OpN K (rMin K) sMinL := OpN.pure fun G H ds vs F Q Q' hs r q k => by
  obtain ⟨m, xs, ns, rfl, rfl, h0, q⟩ := q
  obtain ⟨v, rfl, rl⟩ := r.one'
  obtain ⟨a, us, F', rfl, s, r⟩ := rl.lstOf hs
  rw [ints_vs r] at s
  exact ⟨a, ns, rfl, s, h0, fun z h1 h2 => k (.int z) _ (fun _ _ _ => ⟨rfl, rfl⟩) (q z h1 h2)⟩
theorem q_minL {m : Bool} {xs : List Nat} {z : Nat} {Q : D → Prop} (hz : z ∈ xs) (le : ∀ y ∈ xs, z ≤ y) (q : Q (.int (z : Int))) : sMinL [.lst m (natsD xs)] Q := by
  refine ⟨m, _, _, rfl, natsD_ints xs, by rw [List.length_map]; exact List.length_pos_of_mem hz, fun w hw lw => ?_⟩
  obtain ⟨y, hy, e⟩ := List.mem_map.mp hw
  have e : (y : Int) = w := e
  have a := lw z (List.mem_map.mpr ⟨z, hz, rfl⟩)
  have b := le y hy
  have : w = (z : Int) := by omega
  rw [this]
  exact q
end VL
namespace VL
open PySem PySem.Spec PyProof.Rows L2 VL
/-- the ring's least is the least of those seen from its first one on -/
theorem ring_least {rs : List Rw} (R : RwOk rs) {k0 c : Nat} {seen : List Nat} (J : JInv rs k0 seen c) : ∀ (d m h i j : Nat), seen.length - i ≤ d → KInv rs k0 c m h i seen j → (m ∈ (seen.drop j).take (i - j)) → (∀ y ∈ (seen.drop j).take (i - j), m ≤ y) →
    comeTo rs k0 ∈ seen.drop j ∧ ∀ y ∈ seen.drop j, comeTo rs k0 ≤ y := by
  intro d
  induction d with
  | zero =>
    intro m h i j hd I hm lm
    have hi : i = seen.length := by have := I.le; omega
    have hc : h = c := by
      have e := I.here
      rw [hi, List.getElem?_append_right (Nat.le_refl _), Nat.sub_self] at e
      exact (Option.some.inj e).symm
    rw [I.stop J hc]
    have e : (seen.drop j).take (i - j) = seen.drop j := List.take_of_length_le (by rw [List.length_drop]; omega)
    rw [e] at hm lm
    exact ⟨hm, lm⟩
  | succ d ih =>
    intro m h i j hd I hm lm
    by_cases hc : h = c
    · have hi : i = seen.length := by
        rcases Nat.lt_or_ge i seen.length with l | l
        · have e := I.here
          rw [List.getElem?_append_left l, hc] at e
          have a := I.at_
          have l1 := I.le
          obtain ⟨p1, q1⟩ := List.getElem?_eq_some_iff.mp e
          obtain ⟨p2, q2⟩ := List.getElem?_eq_some_iff.mp a
          have x1 := List.Nodup.idxOf_getElem J.nd i p1
          have x2 := List.Nodup.idxOf_getElem J.nd j p2
          rw [q1] at x1
          rw [q2] at x2
          omega
        · have := I.le; omega
      rw [I.stop J hc]
      have e : (seen.drop j).take (i - j) = seen.drop j := List.take_of_length_le (by rw [List.length_drop]; omega)
      rw [e] at hm lm
      exact ⟨hm, lm⟩
    · obtain ⟨hi, b, hb, I2⟩ := I.next R J hc
      have l1 := I.le
      have hh : seen[i]? = some h := by have e := I.here; rwa [List.getElem?_append_left hi] at e
      have e : (seen.drop j).take (i + 1 - j) = (seen.drop j).take (i - j) ++ [h] := by
        rw [show i + 1 - j = (i - j) + 1 by omega, List.take_succ, List.getElem?_drop, show j + (i - j) = i by omega, hh]
        rfl
      refine ih (min m h) b (i + 1) j (by omega) I2 ?_ fun y hy => ?_
      · rw [e]
        by_cases le : m ≤ h
        · rw [Nat.min_eq_left le]; exact List.mem_append_left _ hm
        · rw [Nat.min_eq_right (by omega)]; exact List.mem_append_right _ List.mem_cons_self
      · rw [e] at hy
        rcases List.mem_append.mp hy with hy | hy
        · exact Nat.le_trans (Nat.min_le_left _ _) (lm y hy)
        · rw [List.mem_singleton.mp hy]; exact Nat.min_le_right _ _
theorem come_least {rs : List Rw} (R : RwOk rs) {k0 c b : Nat} {seen : List Nat} (J : JInv rs k0 seen c) (hc : c ∈ seen) (hb : nxJ rs c = some b) :
    comeTo rs k0 ∈ seen.drop (seen.idxOf c) ∧ ∀ y ∈ seen.drop (seen.idxOf c), comeTo rs k0 ≤ y := by
  obtain ⟨j, I⟩ := J.ring hc hb
  have ej : seen.idxOf c = j := by
    obtain ⟨p, q⟩ := List.getElem?_eq_some_iff.mp I.at_
    rw [← q]
    exact List.Nodup.idxOf_getElem J.nd j p
  rw [ej]
  have l := I.le
  have e1 : (seen.drop j).take (j + 1 - j) = [c] := by
    rw [show j + 1 - j = 0 + 1 by omega, List.take_succ, List.take_zero, List.getElem?_drop, Nat.add_zero, I.at_]
    rfl
  refine ring_least R J _ c b (j + 1) j (Nat.le_refl _) I ?_ ?_
  · rw [e1]; exact List.mem_cons_self
  · rw [e1]; exact fun y hy => Nat.le_of_eq (List.mem_singleton.mp hy).symm
end VL
namespace VL
open PySem PySem.Spec PyProof.Rows L2 VL
/-- the row that node k stands for -/
def plc (rs : List Rw) (k : Nat) : Nat := (osR rs)[k]?.getD 0
section
variable {rs : List Rw} (R : RwOk rs)
theorem osR_len : (graphR rs).length = (osR rs).length := by rw [graphR_eq, List.length_map]
theorem plc_at {k : Nat} (h : k < (osR rs).length) : (osR rs)[k]? = some (plc rs k) := by
  unfold plc
  rw [List.getElem?_eq_getElem h]
  rfl
theorem plc_mem {k : Nat} (h : k < (osR rs).length) : plc rs k ∈ osR rs := List.mem_of_getElem? (plc_at h)
include R
theorem idx_plc {k : Nat} (h : k < (osR rs).length) : (osR rs).idxOf (plc rs k) = k := by
  obtain ⟨p, e⟩ := List.getElem?_eq_some_iff.mp (plc_at h)
  rw [← e]
  exact (osR_ok R).nd.idxOf_getElem k p
omit R in
theorem plc_idx {o : Nat} (h : o ∈ osR rs) : plc rs ((osR rs).idxOf o) = o := by
  unfold plc
  rw [List.getElem?_eq_getElem (List.idxOf_lt_length_iff.mpr h), List.getElem_idxOf]
  rfl
theorem plc_lt {k : Nat} (h : k < (osR rs).length) : plc rs k < rs.length := by
  have := (osR_ok R).rng _ (plc_mem h)
  rwa [rawOf_len] at this
theorem node_plc {k : Nat} (h : k < (osR rs).length) : (graphR rs)[k]? = some ((nodeAt rs (plc rs k)).ren fun x => (osR rs).idxOf x) := by
  have := graphR_at R (plc_mem h)
  rwa [idx_plc R h] at this
theorem way_in {k t : Nat} (h : k < (osR rs).length) (ht : t ∈ waysN (nodeAt rs (plc rs k))) : t ∈ osR rs := by
  rw [waysN_eq] at ht
  exact os_closed R (plc_mem h) (List.mem_reverse.mp ht)
theorem plc_0 : 0 < (osR rs).length ∧ plc rs 0 = comeTo rs 0 := by
  obtain ⟨h1, h2⟩ := os_first R
  have l := List.idxOf_lt_length_iff.mpr h1
  refine ⟨by omega, ?_⟩
  have e := plc_idx h1
  rwa [h2] at e
theorem all_in {ks : List Nat} (h0 : 0 ∈ ks) (cl : ∀ k ∈ ks, ∀ t ∈ waysN (nodeAt rs (plc rs k)), (osR rs).idxOf t ∈ ks) : ∀ k, k < (osR rs).length → k ∈ ks := by
  intro k
  induction k using Nat.strongRecOn with
  | _ k ih =>
    intro hk
    by_cases z : k = 0
    · rw [z]; exact h0
    · have O := osR_ok R
      have ne : plc rs k ≠ comeTo rs 0 := fun e => z (by rw [← idx_plc R hk, e]; exact (os_first R).2)
      obtain ⟨A, B, p, e, hp, hx⟩ := O.par _ (plc_mem hk) ne
      have po : p ∈ osR rs := by rw [e]; exact List.mem_append_left _ hp
      have lp : (osR rs).idxOf p < k := by
        have nA : plc rs k ∉ A := by
          have nd := O.nd
          rw [e] at nd
          exact fun h => (List.nodup_append.mp nd).2.2 _ h _ List.mem_cons_self rfl
        have e1 : (osR rs).idxOf (plc rs k) = A.length := by
          rw [e, List.idxOf_append, if_neg nA, List.idxOf_cons_self, Nat.zero_add]
        rw [idx_plc R hk] at e1
        have e2 : (osR rs).idxOf p = A.idxOf p := by rw [e, List.idxOf_append, if_pos hp]
        rw [e2, e1]
        exact List.idxOf_lt_length_iff.mpr hp
      have ik := ih _ lp (Nat.lt_trans lp hk)
      have pl : p < rs.length := by have := O.rng _ po; rwa [rawOf_len] at this
      have hw : plc rs k ∈ waysN (nodeAt rs (plc rs ((osR rs).idxOf p))) := by
        rw [plc_idx po, waysN_eq]
        refine List.mem_reverse.mpr ?_
        unfold glOf at hx
        rw [rawOf_at pl] at hx
        exact hx
      have := cl _ ik _ hw
      rwa [idx_plc R hk] at this
end
/-- what the walk side by side has: the nodes ks with a row each, open ones among them -/
structure SbS (rs : List Rw) (ks op : List Nat) : Prop where
  nd : ks.Nodup
  z : 0 ∈ ks
  lt : ∀ k ∈ ks, k < (osR rs).length
  sub : ∀ k ∈ op, k ∈ ks
  cl : ∀ k ∈ ks, k ∉ op → ∀ t ∈ waysN (nodeAt rs (plc rs k)), (osR rs).idxOf t ∈ ks
theorem SbS.len {rs : List Rw} {ks op : List Nat} (I : SbS rs ks op) : ks.length ≤ (osR rs).length := nodup_len I.nd I.lt
theorem SbS.all {rs : List Rw} {ks : List Nat} (R : RwOk rs) (I : SbS rs ks []) : ks.length = (osR rs).length := by
  have a := all_in R I.z fun k hk => I.cl k hk (fun h => nomatch h)
  refine Nat.le_antisymm I.len ?_
  have h := nd_sub_len (xs := List.range (osR rs).length) (ys := ks) List.nodup_range fun x hx => a x (List.mem_range.mp hx)
  rwa [List.length_range] at h
end VL
namespace Pk12
open PySem PySem.Spec PyProof.Rows L2 VL
def top (i : Nat) : Stmt := PySem.Challenge.pw_unjump_k12_graph_by_rows.main.body.getD i (.Pass ⟨0, 0, 0, 0⟩)
abbrev s_ways : Stmt := top 4
abbrev s_come_to : Stmt := top 7
abbrev s_node_of : Stmt := top 8
abbrev s_finished_last : Stmt := top 9
abbrev s_renumbered : Stmt := top 10
abbrev s_moved : Stmt := top 11
abbrev s_graph_of : Stmt := top 12
abbrev s_Lcell : Stmt := top 14
abbrev s_Lmixed : Stmt := top 15
abbrev s_Lnames : Stmt := top 16
abbrev s_Loperand : Stmt := top 17
abbrev s_Lrow : Stmt := top 18
abbrev s_Lrows : Stmt := top 19
abbrev s_Lalike : Stmt := top 20
abbrev s_Lcome : Stmt := top 21
abbrev s_Ldue_ways : Stmt := top 22
abbrev s_Ldue_head : Stmt := top 23
abbrev s_Lgood_ways : Stmt := top 24
abbrev s_Lside_by_side : Stmt := top 25
abbrev s_Lring : Stmt := top 26
abbrev s_law : Stmt := top 27
def sp_ways : VSp := Fsp (fun a : Nd => [ndD a]) (fun _ => True) fun a => .tup (natsD (waysN a))
theorem mono_ways : Mono sp_ways := Fsp.mono
theorem c_ways {x : Nd} {A : D → List D → Prop} {B : Value → D → List D → Prop} : sp_ways [ndD x] A B ↔ A (.tup (natsD (waysN x))) [ndD x] := by
  constructor
  · rintro ⟨y, e, _, q⟩
    have := nd_inj (List.cons.inj e).1
    subst this
    exact q
  · exact fun q => ⟨x, rfl, trivial, q⟩
def placesD (rs : List Rw) : D := .dK false (natK (nums rs)) (natsD (List.range rs.length))
theorem places_fz (rs : List Rw) : isFz (placesD rs) = true := natsD_fz _
theorem ix_places {rs : List Rw} {t : Nat} (h : t ∈ nums rs) : ixD (placesD rs) (.int (t : Int)) = some (.int ((nums rs).idxOf t : Nat)) := by
  show ((kIx (natK (nums rs)) (.inl (t : Int))).bind fun j => (natsD (List.range rs.length))[j]?) = _
  rw [kIx_nat, if_pos h]
  show (natsD (List.range rs.length))[(nums rs).idxOf t]? = _
  unfold natsD
  rw [List.getElem?_map, List.getElem?_range (place_lt h)]
  rfl
def sp_come_to : VSp := Fsp (fun a : List Rw × Nat => [.lst false (a.1.map rwD), placesD a.1, .int (a.2 : Int)]) (fun a => RwOk a.1 ∧ a.2 < a.1.length) fun a => .int (comeTo a.1 a.2 : Nat)
theorem mono_come_to : Mono sp_come_to := Fsp.mono
theorem c_come_to {rs : List Rw} {k : Nat} {A : D → List D → Prop} {B : Value → D → List D → Prop} (h : RwOk rs ∧ k < rs.length) (q : A (.int (comeTo rs k : Nat)) [.lst false (rs.map rwD), placesD rs, .int (k : Int)]) : sp_come_to [.lst false (rs.map rwD), placesD rs, .int (k : Int)] A B := ⟨(rs, k), rfl, h, q⟩
def sp_node_of : VSp := Fsp (fun a : List Rw × Nat => [.lst false (a.1.map rwD), placesD a.1, .int (a.2 : Int)]) (fun a => RwOk a.1 ∧ a.2 < a.1.length) fun a => ndD (nodeAt a.1 a.2)
theorem mono_node_of : Mono sp_node_of := Fsp.mono
theorem c_node_of {rs : List Rw} {k : Nat} {A : D → List D → Prop} {B : Value → D → List D → Prop} (h : RwOk rs ∧ k < rs.length) (q : A (ndD (nodeAt rs k)) [.lst false (rs.map rwD), placesD rs, .int (k : Int)]) : sp_node_of [.lst false (rs.map rwD), placesD rs, .int (k : Int)] A B := ⟨(rs, k), rfl, h, q⟩
def sp_finished_last : VSp := Fsp (fun a : List Nd × Nat => [.lst false (a.1.map ndD), .int (a.2 : Int)]) (fun a => a.1.length < 100000 ∧ (∀ x ∈ a.1, x.ok a.1.length) ∧ a.2 < a.1.length) fun a => .lst true (natsD (orderAt (glOf a.1) a.1.length a.2))
theorem mono_finished_last : Mono sp_finished_last := Fsp.mono
theorem c_finished_last {raw : List Nd} {st : Nat} {A : D → List D → Prop} {B : Value → D → List D → Prop} (h : raw.length < 100000 ∧ (∀ x ∈ raw, x.ok raw.length) ∧ st < raw.length) (q : A (.lst true (natsD (orderAt (glOf raw) raw.length st))) [.lst false (raw.map ndD), .int (st : Int)]) : sp_finished_last [.lst false (raw.map ndD), .int (st : Int)] A B := ⟨(raw, st), rfl, h, q⟩
structure RnA (raw : List Nd) (os : List Nat) : Prop where
  few : raw.length < 100000
  nd : os.Nodup
  rng : ∀ o ∈ os, o < raw.length
  clo : ∀ o ∈ os, ∀ x, raw[o]? = some x → ∀ g ∈ goals x, g ∈ os
def sp_renumbered : VSp := Fsp (fun a : List Nd × List Nat => [.lst false (a.1.map ndD), .lst false (natsD a.2)]) (fun a => RnA a.1 a.2) fun a => .lst true ((a.2.map fun o => ((a.1[o]?).getD .fin).ren fun x => a.2.idxOf x).map ndD)
theorem mono_renumbered : Mono sp_renumbered := Fsp.mono
theorem c_renumbered {raw : List Nd} {os : List Nat} {A : D → List D → Prop} {B : Value → D → List D → Prop} (h : RnA raw os) (q : A (.lst true ((os.map fun o => ((raw[o]?).getD .fin).ren fun x => os.idxOf x).map ndD)) [.lst false (raw.map ndD), .lst false (natsD os)]) : sp_renumbered [.lst false (raw.map ndD), .lst false (natsD os)] A B := ⟨(raw, os), rfl, h, q⟩
/-- old numbers, each with its new one -/
def newD (os : List Nat) : D := .dK false (natK os) (natsD (List.range os.length))
theorem newD_fz (os : List Nat) : isFz (newD os) = true := natsD_fz _
theorem ix_new {os : List Nat} {t : Nat} (h : t ∈ os) : ixD (newD os) (.int (t : Int)) = some (.int (os.idxOf t : Nat)) := by
  show ((kIx (natK os) (.inl (t : Int))).bind fun j => (natsD (List.range os.length))[j]?) = _
  rw [kIx_nat, if_pos h]
  show (natsD (List.range os.length))[os.idxOf t]? = _
  unfold natsD
  rw [List.getElem?_map, List.getElem?_range (List.idxOf_lt_length_iff.mpr h)]
  rfl
def sp_moved : VSp := Fsp (fun a : Nd × List Nat => [ndD a.1, newD a.2]) (fun a => ∀ g ∈ goals a.1, g ∈ a.2) fun a => ndD (a.1.ren fun x => a.2.idxOf x)
theorem mono_moved : Mono sp_moved := Fsp.mono
theorem c_moved {x : Nd} {os : List Nat} {A : D → List D → Prop} {B : Value → D → List D → Prop} (h : ∀ g ∈ goals x, g ∈ os) (q : A (ndD (x.ren fun x => os.idxOf x)) [ndD x, newD os]) : sp_moved [ndD x, newD os] A B := ⟨(x, os), rfl, h, q⟩
def sp_graph_of : VSp := Fsp (fun a : List Rw => [.lst false (a.map rwD)]) (fun a => RwOk a ∧ (graphR a).length ≤ 40) fun a => .lst true ((graphR a).map ndD)
theorem mono_graph_of : Mono sp_graph_of := Fsp.mono
theorem c_graph_of {rs : List Rw} {A : D → List D → Prop} {B : Value → D → List D → Prop} (h : RwOk rs ∧ (graphR rs).length ≤ 40) (q : A (.lst true ((graphR rs).map ndD)) [.lst false (rs.map rwD)]) : sp_graph_of [.lst false (rs.map rwD)] A B := ⟨rs, rfl, h, q⟩
def cellI (ns : List Int) (k : Int) : Int := ns[k.toNat]?.getD 0
theorem cellI_bits {ns : List Int} (h : ∀ z ∈ ns, Builtin.Int.intBits z ≤ 1048576) (k : Int) : Builtin.Int.intBits (cellI ns k) ≤ 1048576 := by
  unfold cellI
  cases e : ns[k.toNat]? with
  | none => show Builtin.Int.intBits 0 ≤ _; decide
  | some z => exact h z (List.mem_of_getElem? e)
def sp_Lcell : VSp := Fsp (fun a : List Int × Int => [scriptD a.1, .int a.2]) (fun a => 0 ≤ a.2) fun a => .int (cellI a.1 a.2)
theorem mono_Lcell : Mono sp_Lcell := Fsp.mono
theorem c_Lcell {ns : List Int} {k : Int} {A : D → List D → Prop} {B : Value → D → List D → Prop} : sp_Lcell [scriptD ns, .int k] A B ↔ 0 ≤ k ∧ A (.int (cellI ns k)) [scriptD ns, .int k] := by
  constructor
  · rintro ⟨⟨ns', k'⟩, e, h, q⟩
    obtain ⟨e1, e2⟩ := List.cons.inj e
    obtain ⟨e2, _⟩ := List.cons.inj e2
    have e3 := D.int.inj e2
    subst e3
    have e5 : ns = ns' := ints_inj (D.lst.inj e1).2
    subst e5
    exact ⟨h, q⟩
  · exact fun ⟨h, q⟩ => ⟨(ns, k), rfl, h, q⟩
def mixed (c k : Int) : Int :=
  let n := (c % 2147483647 * 48271 + 7919 * k * k + 104729) % 2147483647
  n * n % 2147483629
def sp_Lmixed : VSp := Fsp (fun a : Int × Int => [.int a.1, .int a.2]) (fun a => a.2.natAbs < 1125899906842624) fun a => .int (mixed a.1 a.2)
theorem mono_Lmixed : Mono sp_Lmixed := Fsp.mono
theorem c_Lmixed {c k : Int} {A : D → List D → Prop} {B : Value → D → List D → Prop} : sp_Lmixed [.int c, .int k] A B ↔ k.natAbs < 1125899906842624 ∧ A (.int (mixed c k)) [.int c, .int k] :=
  ⟨fun ⟨_, e, h, q⟩ => by cases e; exact ⟨h, q⟩, fun ⟨h, q⟩ => ⟨(c, k), rfl, h, q⟩⟩
def sp_Lnames : VSp := Psp (fun a : Int => [.int a]) (fun _ => True) fun _ r => ∃ nm, r = .lst false (strsD nm) ∧ NmsOk nm
theorem mono_Lnames : Mono sp_Lnames := Psp.mono
theorem c_Lnames {n : Int} {A : D → List D → Prop} {B : Value → D → List D → Prop} (q : ∀ nm, NmsOk nm → A (.lst false (strsD nm)) [.int n]) : sp_Lnames [.int n] A B := ⟨n, rfl, trivial, fun _ ⟨nm, e, h⟩ => by cases e; exact q nm h⟩
def sp_Loperand : VSp := Psp (fun a : Int × Int × List Cs => [.int a.1, .int a.2.1, .lst false (strsD a.2.2)]) (fun a => NmsOk a.2.2) fun _ r => ∃ o : Opd, r = opD o ∧ o.good = true
theorem mono_Loperand : Mono sp_Loperand := Psp.mono
theorem c_Loperand {n z : Int} {nm : List Cs} {A : D → List D → Prop} {B : Value → D → List D → Prop} (h : NmsOk nm) (q : ∀ o : Opd, o.good = true → A (opD o) [.int n, .int z, .lst false (strsD nm)]) : sp_Loperand [.int n, .int z, .lst false (strsD nm)] A B := ⟨(n, z, nm), rfl, h, fun _ ⟨o, e, g⟩ => by cases e; exact q o g⟩
structure RowA where
  c : Int
  k : Nat
  ns : List Nat
  nm : List Cs
def RowA.pre (a : RowA) : Prop := NmsOk a.nm ∧ a.k < a.ns.length ∧ a.ns.length ≤ 1000
def RowOk (ns : List Nat) (n : Nat) (r : Rw) : Prop := r.num = n ∧ (∀ t ∈ r.tos, t ∈ ns) ∧ r.good = true
def sp_Lrow : VSp := Psp (fun a : RowA => [.int a.c, .int (a.k : Int), .lst false (natsD a.ns), .lst false (strsD a.nm)]) RowA.pre fun a r => ∃ x : Rw, r = rwD x ∧ ∃ n, a.ns[a.k]? = some n ∧ RowOk a.ns n x
theorem mono_Lrow : Mono sp_Lrow := Psp.mono
theorem c_Lrow {c : Int} {k : Nat} {ns : List Nat} {nm : List Cs} {A : D → List D → Prop} {B : Value → D → List D → Prop} {n : Nat} (h : NmsOk nm ∧ ns.length ≤ 1000) (hk : ns[k]? = some n) (q : ∀ x : Rw, RowOk ns n x → A (rwD x) [.int c, .int (k : Int), .lst false (natsD ns), .lst false (strsD nm)]) : sp_Lrow [.int c, .int (k : Int), .lst false (natsD ns), .lst false (strsD nm)] A B :=
  ⟨⟨c, k, ns, nm⟩, rfl, ⟨h.1, (List.getElem?_eq_some_iff.mp hk).1, h.2⟩, fun _ ⟨x, e, n', hn, h⟩ => by
    have hn : ns[k]? = some n' := hn
    rw [hk] at hn
    cases hn
    cases e
    exact q x h⟩
def sp_Lrows : VSp := Psp (fun a : List Int × Int => [scriptD a.1, .int a.2]) (fun a => a.1.length ≤ 39 ∧ 0 ≤ a.2 ∧ a.2 < 1000000000000) fun _ r => ∃ rs : List Rw, r = .lst true (rs.map rwD) ∧ RwOk rs ∧ rs.length ≤ 40
theorem mono_Lrows : Mono sp_Lrows := Psp.mono
theorem c_Lrows {ns : List Int} {h : Int} {A : D → List D → Prop} {B : Value → D → List D → Prop} (p : ns.length ≤ 39 ∧ 0 ≤ h ∧ h < 1000000000000) (q : ∀ rs : List Rw, RwOk rs → rs.length ≤ 40 → A (.lst true (rs.map rwD)) [scriptD ns, .int h]) : sp_Lrows [scriptD ns, .int h] A B := ⟨(ns, h), rfl, p, fun _ ⟨rs, e, h1, h2⟩ => by cases e; exact q rs h1 h2⟩
/-- the same plain data, twice -/
def sp_Lalike : Nat → VSp
  | 0 => fun _ _ _ => False
  | n + 1 => Fsp (fun a : D => [a, a]) (fun a => plD n a = true) fun _ => .bl true
theorem mono_Lalike : ∀ n, Mono (sp_Lalike n)
  | 0 => fun _ _ _ _ _ _ _ h => h
  | _ + 1 => Fsp.mono
theorem c_Lalike {n : Nat} {x y : D} {A : D → List D → Prop} {B : Value → D → List D → Prop} (e : x = y) (h : plD n x = true) (q : A (.bl true) [x, x]) : sp_Lalike (n + 1) [x, y] A B := by
  subst e
  exact ⟨x, rfl, h, q⟩
def sp_Lcome : VSp := Fsp (fun a : List Rw × Nat => [.lst false (a.1.map rwD), .lst false (natsD (nums a.1)), .int (a.2 : Int)]) (fun a => RwOk a.1 ∧ a.2 < a.1.length) fun a => .int (comeTo a.1 a.2 : Nat)
theorem mono_Lcome : Mono sp_Lcome := Fsp.mono
theorem c_Lcome {rs : List Rw} {k : Nat} {A : D → List D → Prop} {B : Value → D → List D → Prop} (h : RwOk rs ∧ k < rs.length) (q : A (.int (comeTo rs k : Nat)) [.lst false (rs.map rwD), .lst false (natsD (nums rs)), .int (k : Int)]) : sp_Lcome [.lst false (rs.map rwD), .lst false (natsD (nums rs)), .int (k : Int)] A B := ⟨(rs, k), rfl, h, q⟩
def sp_Ldue_ways : VSp := Fsp (fun a : List Rw × Nat => [.lst false (a.1.map rwD), .lst false (natsD (nums a.1)), .int (a.2 : Int)]) (fun a => RwOk a.1 ∧ a.2 < a.1.length) fun a => .lst true (natsD (waysN (nodeAt a.1 a.2)))
theorem mono_Ldue_ways : Mono sp_Ldue_ways := Fsp.mono
theorem c_Ldue_ways {rs : List Rw} {k : Nat} {A : D → List D → Prop} {B : Value → D → List D → Prop} (h : RwOk rs ∧ k < rs.length) (q : A (.lst true (natsD (waysN (nodeAt rs k)))) [.lst false (rs.map rwD), .lst false (natsD (nums rs)), .int (k : Int)]) : sp_Ldue_ways [.lst false (rs.map rwD), .lst false (natsD (nums rs)), .int (k : Int)] A B := ⟨(rs, k), rfl, h, q⟩
/-- what a node of the row tells, but for its ways -/
def hdRw : Rw → List D
  | .sum _ x a s b => [.str cSum, .str x, opD a, .str s, opD b]
  | .test _ a s b _ => [.str cTest, opD a, .str s, opD b]
  | .jump _ _ => [.str cSpin]
  | .fin _ => [.str cEnd]
def sp_Ldue_head : VSp := Fsp (fun a : Rw => [rwD a]) (fun _ => True) fun a => .tup (hdRw a)
theorem mono_Ldue_head : Mono sp_Ldue_head := Fsp.mono
theorem c_Ldue_head {r : Rw} {A : D → List D → Prop} {B : Value → D → List D → Prop} (q : A (.tup (hdRw r)) [rwD r]) : sp_Ldue_head [rwD r] A B := ⟨r, rfl, trivial, q⟩
structure GwA where
  r : Rw
  ws : List Nat
  ds : List Nat
  n : Nat
def GwA.args (a : GwA) : List D := [.tup (hdRw a.r ++ natsD a.ws), .tup (hdRw a.r), .lst false (natsD a.ds), .int (a.n : Int)]
def sp_Lgood_ways : VSp := Fsp GwA.args (fun a => a.ds.length = a.ws.length ∧ a.ws.length ≤ 2 ∧ ∀ w ∈ a.ws, w < a.n) fun _ => .bl true
theorem mono_Lgood_ways : Mono sp_Lgood_ways := Fsp.mono
theorem c_Lgood_ways {r : Rw} {ws ds : List Nat} {n : Nat} {A : D → List D → Prop} {B : Value → D → List D → Prop} (h : ds.length = ws.length ∧ ws.length ≤ 2 ∧ ∀ w ∈ ws, w < n) (q : A (.bl true) [.tup (hdRw r ++ natsD ws), .tup (hdRw r), .lst false (natsD ds), .int (n : Int)]) :
    sp_Lgood_ways [.tup (hdRw r ++ natsD ws), .tup (hdRw r), .lst false (natsD ds), .int (n : Int)] A B := ⟨⟨r, ws, ds, n⟩, rfl, h, q⟩
def sp_Lside_by_side : VSp := Fsp (fun a : List Rw => [.lst false ((graphR a).map ndD), .lst false (a.map rwD)]) (fun a => RwOk a ∧ a.length ≤ 40) fun _ => .bl true
theorem mono_Lside_by_side : Mono sp_Lside_by_side := Fsp.mono
theorem c_Lside_by_side {rs : List Rw} {A : D → List D → Prop} {B : Value → D → List D → Prop} (h : RwOk rs ∧ rs.length ≤ 40) (q : A (.bl true) [.lst false ((graphR rs).map ndD), .lst false (rs.map rwD)]) : sp_Lside_by_side [.lst false ((graphR rs).map ndD), .lst false (rs.map rwD)] A B := ⟨rs, rfl, h, q⟩
def sp_Lring : VSp := Psp (fun a : Int × Int => [.int a.1, .int a.2]) (fun a => Builtin.Int.intBits a.1 ≤ 1048576 ∧ Builtin.Int.intBits a.2 ≤ 1048576) fun _ r => ∃ rs : List Rw, r = .lst true (rs.map rwD) ∧ RwOk rs ∧ rs.length ≤ 40
theorem mono_Lring : Mono sp_Lring := Psp.mono
theorem c_Lring {x y : Int} {A : D → List D → Prop} {B : Value → D → List D → Prop} (p : Builtin.Int.intBits x ≤ 1048576 ∧ Builtin.Int.intBits y ≤ 1048576) (q : ∀ rs : List Rw, RwOk rs → rs.length ≤ 40 → A (.lst true (rs.map rwD)) [.int x, .int y]) : sp_Lring [.int x, .int y] A B := ⟨(x, y), rfl, p, fun _ ⟨rs, e, h1, h2⟩ => by cases e; exact q rs h1 h2⟩
def sp_law : VSp := Fsp (fun a : List Int => [scriptD a]) (fun a => a.length ≤ 63 ∧ ∀ z ∈ a, Builtin.Int.intBits z ≤ 1048576) fun _ => .bl true
theorem mono_law : Mono sp_law := Fsp.mono
def t_ways : VTS := vSeq (vIfS (vB (vOp sEq [none, none] (va2 (vOp sIx [none, none] (va2 (vVar 0) (vC (.int 0)))) (vC (.str [115, 117, 109]))))) (vRet (vTup (vaCons (vOp sIx [none, none] (va2 (vVar 0) (vC (.int 5)))) (vaNil)))) (vSkip)) (vSeq (vIfS (vB (vOp sEq [none, none] (va2 (vOp sIx [none, none] (va2 (vVar 0) (vC (.int 0)))) (vC (.str [116, 101, 115, 116]))))) (vRet (vTup (vaCons (vOp sIx [none, none] (va2 (vVar 0) (vC (.int 4)))) (vaCons (vOp sIx [none, none] (va2 (vVar 0) (vC (.int 5)))) (vaNil))))) (vSkip)) (vRet (vTup (vaNil))))
def lb_come_to0 : VTS := vSeq (vSet 3 (vC (.bl true)) (vpName 3) (vVar 2)) (vAsg 2 (vOp sIx [none, none] (va2 (vVar 1) (vOp sIx [none, none] (va2 (vOp sIx [none, none] (va2 (vVar 0) (vVar 2))) (vC (.int 2)))))))
def lb_come_to1 : VTS := vSeq (vAsg 4 (vOp sMin [none, none] (vaCons (vVar 4) (vaCons (vVar 5) (vaNil))))) (vAsg 5 (vOp sIx [none, none] (va2 (vVar 1) (vOp sIx [none, none] (va2 (vOp sIx [none, none] (va2 (vVar 0) (vVar 5))) (vC (.int 2)))))))
def t_come_to : VTS := vSeq (vAsg 3 (vC (.dK true [] []))) (vSeq (vWhile (vAnd (vB (vOp sEq [none, none] (va2 (vOp sIx [none, none] (va2 (vOp sIx [none, none] (va2 (vVar 0) (vVar 2))) (vC (.int 1)))) (vC (.str [106, 117, 109, 112]))))) (vViewT (wOp (sIn true) (w2 (wName 2) (wName 3))))) (lb_come_to0)) (vSeq (vIfS (vB (vOp sNe [none, none] (va2 (vOp sIx [none, none] (va2 (vOp sIx [none, none] (va2 (vVar 0) (vVar 2))) (vC (.int 1)))) (vC (.str [106, 117, 109, 112]))))) (vRet (vVar 2)) (vSkip)) (vSeq (vAsg 4 (vVar 2)) (vSeq (vAsg 5 (vOp sIx [none, none] (va2 (vVar 1) (vOp sIx [none, none] (va2 (vOp sIx [none, none] (va2 (vVar 0) (vVar 2))) (vC (.int 2))))))) (vSeq (vWhile (vB (vOp sNe [none, none] (va2 (vVar 5) (vVar 2)))) (lb_come_to1)) (vRet (vVar 4)))))))
def t_node_of : VTS := vSeq (vAsg 3 (vOp sIx [none, none] (va2 (vVar 0) (vVar 2)))) (vSeq (vIfS (vB (vOp sEq [none, none] (va2 (vOp sIx [none, none] (va2 (vVar 3) (vC (.int 1)))) (vC (.str [115, 117, 109]))))) (vRet (vTup (vaCons (vC (.str [115, 117, 109])) (vaCons (vOp sIx [none, none] (va2 (vVar 3) (vC (.int 2)))) (vaCons (vOp sIx [none, none] (va2 (vVar 3) (vC (.int 3)))) (vaCons (vOp sIx [none, none] (va2 (vVar 3) (vC (.int 4)))) (vaCons (vOp sIx [none, none] (va2 (vVar 3) (vC (.int 5)))) (vaCons (vCall (sp_come_to) [none, none, none] (vaCons (vVar 0) (vaCons (vVar 1) (vaCons (vOp sAdd [none, none] (va2 (vVar 2) (vC (.int 1)))) (vaNil))))) (vaNil))))))))) (vSkip)) (vSeq (vIfS (vB (vOp sEq [none, none] (va2 (vOp sIx [none, none] (va2 (vVar 3) (vC (.int 1)))) (vC (.str [116, 101, 115, 116]))))) (vSeq (vAsg 4 (vCall (sp_come_to) [none, none, none] (vaCons (vVar 0) (vaCons (vVar 1) (vaCons (vOp sIx [none, none] (va2 (vVar 1) (vOp sIx [none, none] (va2 (vVar 3) (vC (.int 5)))))) (vaNil)))))) (vRet (vTup (vaCons (vC (.str [116, 101, 115, 116])) (vaCons (vOp sIx [none, none] (va2 (vVar 3) (vC (.int 2)))) (vaCons (vOp sIx [none, none] (va2 (vVar 3) (vC (.int 3)))) (vaCons (vOp sIx [none, none] (va2 (vVar 3) (vC (.int 4)))) (vaCons (vVar 4) (vaCons (vCall (sp_come_to) [none, none, none] (vaCons (vVar 0) (vaCons (vVar 1) (vaCons (vOp sAdd [none, none] (va2 (vVar 2) (vC (.int 1)))) (vaNil))))) (vaNil)))))))))) (vSkip)) (vSeq (vIfS (vB (vOp sEq [none, none] (va2 (vOp sIx [none, none] (va2 (vVar 3) (vC (.int 1)))) (vC (.str [101, 110, 100]))))) (vRet (vTup (vaCons (vC (.str [101, 110, 100])) (vaNil)))) (vSkip)) (vRet (vTup (vaCons (vC (.str [115, 112, 105, 110])) (vaNil)))))))
def lb_finished_last0 : VTS := vSeq (vAsg 5 (vBor 3 (vOpQ oNeg (va1 (vC (.int 1)))))) (vSeq (vAsg 6 (vOp sRevT [none] (va1 (vCall (sp_ways) [none] (vaCons (vOp sIx [none, none] (va2 (vVar 0) (vOp sIx [some 5, none] (va2 (vMov 5) (vC (.int 0)))))) (vaNil)))))) (vSeq (vIfS (vViewT (wOp sEq (w2 (wOp sIx (w2 (wName 5) (wC (.int 1)))) (wOp sLen (wCons (wName 6) (wNil)))))) (vSeq (vDrop (vMutN muAppend 4 (vaCons (vOp sIx [some 5, none] (va2 (vMov 5) (vC (.int 0)))) (vaNil)))) (vGive 3 5 (vSeq (vDrop (vMut muPop 3 (vpName 3) vaNil)) (vCnt)))) (vSkip)) (vSeq (vAsg 7 (vView (wOp sIx (w2 (wName 6) (wOp sIx (w2 (wName 5) (wC (.int 1)))))))) (vSeq (vAugP (fun i j => i + j) 5 (vpName 5) (vC (.int 1)) (vC (.int 1))) (vGive 3 5 (vIfS (vViewT (wOp (sIn true) (w2 (wName 7) (wName 2)))) (vSeq (vSet 2 (vC (.bl true)) (vpName 2) (vVar 7)) (vDrop (vMutN muAppend 3 (vaCons (vLst (vaCons (vVar 7) (vaCons (vC (.int 0)) (vaNil)))) (vaNil))))) (vSkip)))))))
def t_finished_last : VTS := vSeq (vAsg 2 (vDisp1 1 (.bl true))) (vSeq (vAsg 3 (vLst (vaCons (vLst (vaCons (vVar 1) (vaCons (vC (.int 0)) (vaNil)))) (vaNil)))) (vSeq (vAsg 4 (vLst (vaNil))) (vSeq (vWhile (vViewT (wOp sNe (w2 (wName 3) (wLst (wNil))))) (lb_finished_last0)) (vRet (vOp sRev [some 4] (va1 (vMov 4)))))))
def lb_renumbered0 : VTS := vSet 2 (vVar 3) (vpName 2) (vVar 4)
def le_renumbered1 : VTE := vCall (sp_moved) [none, none] (vaCons (vOp sIx [none, none] (va2 (vVar 0) (vVar 4))) (vaCons (vFrz 2) (vaNil)))
def t_renumbered : VTS := vSeq (vAsg 2 (vC (.dK true [] []))) (vSeq (vFor (viEnum (vaCons (vVar 1) (vaNil))) (vNames [3, 4]) (lb_renumbered0)) (vRet (vLc [4] (viLst (vVar 1)) (vName 4) (vYes) (le_renumbered1))))
def t_moved : VTS := vSeq (vIfS (vB (vOp sEq [none, none] (va2 (vOp sIx [none, none] (va2 (vVar 0) (vC (.int 0)))) (vC (.str [115, 117, 109]))))) (vRet (vTup (vaCons (vC (.str [115, 117, 109])) (vaCons (vOp sIx [none, none] (va2 (vVar 0) (vC (.int 1)))) (vaCons (vOp sIx [none, none] (va2 (vVar 0) (vC (.int 2)))) (vaCons (vOp sIx [none, none] (va2 (vVar 0) (vC (.int 3)))) (vaCons (vOp sIx [none, none] (va2 (vVar 0) (vC (.int 4)))) (vaCons (vOp sIx [none, none] (va2 (vVar 1) (vOp sIx [none, none] (va2 (vVar 0) (vC (.int 5)))))) (vaNil))))))))) (vSkip)) (vSeq (vIfS (vB (vOp sEq [none, none] (va2 (vOp sIx [none, none] (va2 (vVar 0) (vC (.int 0)))) (vC (.str [116, 101, 115, 116]))))) (vRet (vTup (vaCons (vC (.str [116, 101, 115, 116])) (vaCons (vOp sIx [none, none] (va2 (vVar 0) (vC (.int 1)))) (vaCons (vOp sIx [none, none] (va2 (vVar 0) (vC (.int 2)))) (vaCons (vOp sIx [none, none] (va2 (vVar 0) (vC (.int 3)))) (vaCons (vOp sIx [none, none] (va2 (vVar 1) (vOp sIx [none, none] (va2 (vVar 0) (vC (.int 4)))))) (vaCons (vOp sIx [none, none] (va2 (vVar 1) (vOp sIx [none, none] (va2 (vVar 0) (vC (.int 5)))))) (vaNil))))))))) (vSkip)) (vRet (vVar 0)))
def lb_graph_of0 : VTS := vSet 1 (vVar 2) (vpName 1) (vOpQ sIx (va2 (vVar 3) (vC (.int 0))))
def le_graph_of1 : VTE := vCall (sp_node_of) [none, none, none] (vaCons (vVar 0) (vaCons (vFrz 1) (vaCons (vVar 2) (vaNil))))
def t_graph_of : VTS := vSeq (vAsg 1 (vC (.dK true [] []))) (vSeq (vFor (viEnum (vaCons (vVar 0) (vaNil))) (vNames [2, 3]) (lb_graph_of0)) (vSeq (vAsg 4 (vStill (vLc [2] (viR1 (vaCons (vOp sLen [none] (vaCons (vVar 0) (vaNil))) (vaNil))) (vName 2) (vYes) (le_graph_of1)))) (vSeq (vAsg 5 (vStill (vCall (sp_finished_last) [none, none] (vaCons (vVar 4) (vaCons (vCall (sp_come_to) [none, none, none] (vaCons (vVar 0) (vaCons (vFrz 1) (vaCons (vC (.int 0)) (vaNil))))) (vaNil)))))) (vSeq (vIfS (vB (vOp oGt [none, none] (va2 (vOp sLen [none] (vaCons (vVar 5) (vaNil))) (vC (.int 40))))) (vNever) (vSkip)) (vRet (vCall (sp_renumbered) [none, none] (vaCons (vVar 4) (vaCons (vVar 5) (vaNil)))))))))
def t_Lcell : VTS := vSeq (vIfS (vB (vOp oLt [none, none] (va2 (vVar 1) (vOp sLen [none] (vaCons (vVar 0) (vaNil)))))) (vRet (vOp sIx [none, none] (va2 (vVar 0) (vVar 1)))) (vSkip)) (vRet (vC (.int 0)))
def t_Lmixed : VTS := vSeq (vAsg 2 (vOp oMod [none, none] (va2 (vOp sAdd [none, none] (va2 (vOp sAdd [none, none] (va2 (vOp sMul [none, none] (va2 (vOp oMod [none, none] (va2 (vVar 0) (vC (.int 2147483647)))) (vC (.int 48271)))) (vOp sMul [none, none] (va2 (vOp sMul [none, none] (va2 (vC (.int 7919)) (vVar 1))) (vVar 1))))) (vC (.int 104729)))) (vC (.int 2147483647))))) (vRet (vOp oMod [none, none] (va2 (vOp sMul [none, none] (va2 (vVar 2) (vVar 2))) (vC (.int 2147483629)))))
def t_Lnames : VTS := vSeq (vAsg 1 (vLst (vaCons (vLst (vaCons (vC (.str [120])) (vaCons (vC (.str [121])) (vaCons (vC (.str [122])) (vaCons (vC (.str [119])) (vaNil)))))) (vaCons (vLst (vaCons (vC (.str [97, 98])) (vaCons (vC (.str [97, 97])) (vaCons (vC (.str [98, 98])) (vaCons (vC (.str [98, 97])) (vaNil)))))) (vaCons (vLst (vaCons (vC (.str [113, 49])) (vaCons (vC (.str [113])) (vaCons (vC (.str [113, 49, 49])) (vaCons (vC (.str [113, 50])) (vaNil)))))) (vaNil)))))) (vSeq (vDrop (vMutN muAppend 1 (vaCons (vLst (vaCons (vC (.str [115, 117, 109, 49, 97, 97, 97, 97])) (vaCons (vC (.str [115, 117, 109, 49, 97, 97, 97, 98])) (vaCons (vC (.str [115, 117, 109, 50, 97, 97, 97, 97])) (vaCons (vC (.str [116, 117, 109, 49, 97, 97, 97, 97])) (vaNil)))))) (vaNil)))) (vRet (vOp sIx [none, none] (va2 (vFrz 1) (vOp oMod [none, none] (va2 (vVar 0) (vC (.int 4))))))))
def t_Loperand : VTS := vSeq (vIfS (vB (vOp sEq [none, none] (va2 (vOp oMod [none, none] (va2 (vVar 0) (vC (.int 8)))) (vC (.int 0))))) (vRet (vOp oSub [none, none] (va2 (vOp oMod [none, none] (va2 (vVar 1) (vOp sAdd [none, none] (va2 (vOp sMul [none, none] (va2 (vC (.int 2)) (vOp oPow [none, none] (va2 (vC (.int 10)) (vC (.int 18)))))) (vC (.int 1)))))) (vOp oPow [none, none] (va2 (vC (.int 10)) (vC (.int 18))))))) (vSkip)) (vSeq (vIfS (vB (vOp oLt [none, none] (va2 (vOp oMod [none, none] (va2 (vVar 0) (vC (.int 8)))) (vC (.int 3))))) (vRet (vOp oSub [none, none] (va2 (vOp oMod [none, none] (va2 (vOp oDiv [none, none] (va2 (vVar 0) (vC (.int 8)))) (vC (.int 9)))) (vC (.int 3))))) (vSkip)) (vRet (vOp sIx [none, none] (va2 (vVar 2) (vOp oMod [none, none] (va2 (vOp oDiv [none, none] (va2 (vVar 0) (vC (.int 8)))) (vC (.int 4))))))))
def tb_Lrow5 : VTS  := vSeq (vIfS (vB (vOp oLt [none, none] (va2 (vOp oMod [none, none] (va2 (vVar 4) (vC (.int 16)))) (vC (.int 12))))) (vRet (vTup (vaCons (vOp sIx [none, none] (va2 (vVar 2) (vVar 1))) (vaCons (vC (.str [116, 101, 115, 116])) (vaCons (vVar 5) (vaCons (vOp sIx [none, none] (va2 (vLst (vaCons (vC (.str [60])) (vaCons (vC (.str [61])) (vaNil)))) (vOp oMod [none, none] (va2 (vOp oDiv [none, none] (va2 (vVar 4) (vC (.int 193)))) (vC (.int 2)))))) (vaCons (vVar 6) (vaCons (vVar 7) (vaNil))))))))) (vSkip)) (vSeq (vIfS (vB (vOp oLt [none, none] (va2 (vOp oMod [none, none] (va2 (vVar 4) (vC (.int 16)))) (vC (.int 15))))) (vRet (vTup (vaCons (vOp sIx [none, none] (va2 (vVar 2) (vVar 1))) (vaCons (vC (.str [106, 117, 109, 112])) (vaCons (vVar 7) (vaNil)))))) (vSkip)) (vRet (vTup (vaCons (vOp sIx [none, none] (va2 (vVar 2) (vVar 1))) (vaCons (vC (.str [101, 110, 100])) (vaNil))))))
def tb_Lrow4 : VTS  := vSeq (vIfS (vB (vOp oLt [none, none] (va2 (vOp oMod [none, none] (va2 (vVar 4) (vC (.int 16)))) (vC (.int 7))))) (vSeq (vAsg 8 (vOp sIx [none, none] (va2 (vLst (vaCons (vC (.str [43])) (vaCons (vC (.str [45])) (vaCons (vC (.str [47])) (vaCons (vC (.str [114, 101, 115, 116])) (vaCons (vC (.str [38])) (vaCons (vC (.str [94])) (vaNil)))))))) (vOp oMod [none, none] (va2 (vOp oDiv [none, none] (va2 (vVar 4) (vC (.int 97)))) (vC (.int 6))))))) (vRet (vTup (vaCons (vOp sIx [none, none] (va2 (vVar 2) (vVar 1))) (vaCons (vC (.str [115, 117, 109])) (vaCons (vOp sIx [none, none] (va2 (vVar 3) (vOp oMod [none, none] (va2 (vOp oDiv [none, none] (va2 (vVar 4) (vC (.int 389)))) (vC (.int 4)))))) (vaCons (vVar 5) (vaCons (vVar 8) (vaCons (vVar 6) (vaNil)))))))))) (vSkip)) (tb_Lrow5)
def tb_Lrow3 : VTS  := vSeq (vAsg 7 (vOp sIx [none, none] (va2 (vVar 2) (vOp oMod [none, none] (va2 (vOp oDiv [none, none] (va2 (vVar 4) (vC (.int 65536)))) (vOp sLen [none] (vaCons (vVar 2) (vaNil)))))))) (tb_Lrow4)
def t_Lrow : VTS := vSeq (vAsg 4 (vCall (sp_Lmixed) [none, none] (vaCons (vVar 0) (vaCons (vVar 1) (vaNil))))) (vSeq (vAsg 5 (vCall (sp_Loperand) [none, none, none] (vaCons (vOp oDiv [none, none] (va2 (vVar 4) (vC (.int 16)))) (vaCons (vVar 0) (vaCons (vVar 3) (vaNil)))))) (vSeq (vAsg 6 (vCall (sp_Loperand) [none, none, none] (vaCons (vOp oDiv [none, none] (va2 (vVar 4) (vC (.int 1024)))) (vaCons (vOp oDiv [none, none] (va2 (vVar 0) (vC (.int 3)))) (vaCons (vVar 3) (vaNil)))))) (tb_Lrow3)))
def lb_Lrows0 : VTS := vDrop (vMutN muAppend 3 (vaCons (vOp sAdd [none, none] (va2 (vView (wOp sAdd (w2 (wOp sIx (w2 (wName 3) (wName 4))) (wC (.int 1))))) (vOp oMod [none, none] (va2 (vCall (sp_Lmixed) [none, none] (vaCons (vVar 1) (vaCons (vVar 4) (vaNil)))) (vOp sIx [none, none] (va2 (vLst (vaCons (vC (.int 1)) (vaCons (vC (.int 10)) (vaCons (vC (.int 97)) (vaNil))))) (vOp oMod [none, none] (va2 (vOp oDiv [none, none] (va2 (vVar 1) (vC (.int 1200)))) (vC (.int 3)))))))))) (vaNil)))
def le_Lrows1 : VTE := vCall (sp_Lrow) [none, none, none, none] (vaCons (vOp sIx [none, none] (va2 (vVar 0) (vVar 4))) (vaCons (vVar 4) (vaCons (vFrz 3) (vaCons (vVar 2) (vaNil)))))
def t_Lrows : VTS := vSeq (vAsg 2 (vCall (sp_Lnames) [none] (vaCons (vVar 1) (vaNil)))) (vSeq (vAsg 3 (vLst (vaCons (vOp oMod [none, none] (va2 (vOp oDiv [none, none] (va2 (vVar 1) (vC (.int 4)))) (vC (.int 300)))) (vaNil)))) (vSeq (vFor (viR1 (vaCons (vOp sLen [none] (vaCons (vVar 0) (vaNil))) (vaNil))) (vName 4) (lb_Lrows0)) (vSeq (vAsg 5 (vLc [4] (viR1 (vaCons (vOp sLen [none] (vaCons (vVar 0) (vaNil))) (vaNil))) (vName 4) (vYes) (le_Lrows1))) (vSeq (vIfS (vB (vOp sEq [none, none] (va2 (vOp oMod [none, none] (va2 (vOp oDiv [none, none] (va2 (vVar 1) (vC (.int 3600)))) (vC (.int 3)))) (vC (.int 0))))) (vDrop (vMutN muAppend 5 (vaCons (vTup (vaCons (vOp sIx [none, none] (va2 (vFrz 3) (vOp oNeg [none] (va1 (vC (.int 1)))))) (vaCons (vC (.str [106, 117, 109, 112])) (vaCons (vView (wOp sIx (w2 (wName 3) (wOp oMod (w2 (wOp oDiv (w2 (wName 1) (wC (.int 10800)))) (wOp sLen (wCons (wName 3) (wNil)))))))) (vaNil))))) (vaNil)))) (vDrop (vMutN muAppend 5 (vaCons (vTup (vaCons (vOp sIx [none, none] (va2 (vFrz 3) (vOp oNeg [none] (va1 (vC (.int 1)))))) (vaCons (vC (.str [101, 110, 100])) (vaNil)))) (vaNil))))) (vRet (vMov 5))))))
def lb_Lalike0 (n : Nat) : VTS := vIfS (vNot (vB (vCall ((sp_Lalike n)) [none, none] (vaCons (vOp sIx [none, none] (va2 (vVar 0) (vVar 2))) (vaCons (vOp sIx [none, none] (va2 (vVar 1) (vVar 2))) (vaNil)))))) (vRet (vC (.bl false))) (vSkip)
def t_Lalike (n : Nat) : VTS := vSeq (vIfS (vB (vOp sIsN [none, none] (va2 (vVar 1) (vC .non)))) (vRet (vOp sIsN [none, none] (va2 (vVar 0) (vC .non)))) (vSkip)) (vSeq (vIfS (vB (vOp sIsi [none, none] (vaCons (vVar 1) (vaCons (vC (.ty "bool")) (vaNil))))) (vRet (vAndV (vOp sIsi [none, none] (vaCons (vVar 0) (vaCons (vC (.ty "bool")) (vaNil)))) (vOp sEq [none, none] (va2 (vVar 0) (vVar 1))))) (vSkip)) (vSeq (vIfS (vB (vOp sIsi [none, none] (vaCons (vVar 1) (vaCons (vC (.ty "int")) (vaNil))))) (vRet (vAndV (vOp sIsi [none, none] (vaCons (vVar 0) (vaCons (vC (.ty "int")) (vaNil)))) (vAndV (vNotV (vOp sIsi [none, none] (vaCons (vVar 0) (vaCons (vC (.ty "bool")) (vaNil))))) (vOp sEq [none, none] (va2 (vVar 0) (vVar 1)))))) (vSkip)) (vSeq (vIfS (vB (vOp sIsi [none, none] (vaCons (vVar 1) (vaCons (vC (.ty "str")) (vaNil))))) (vRet (vAndV (vOp sIsi [none, none] (vaCons (vVar 0) (vaCons (vC (.ty "str")) (vaNil)))) (vOp sEq [none, none] (va2 (vVar 0) (vVar 1))))) (vSkip)) (vSeq (vIfS (vB (vOp sIsi [none, none] (vaCons (vVar 1) (vaCons (vC (.ty "tuple")) (vaNil))))) (vIfS (vNot (vB (vOp sIsi [none, none] (vaCons (vVar 0) (vaCons (vC (.ty "tuple")) (vaNil)))))) (vRet (vC (.bl false))) (vSkip)) (vIfS (vNot (vB (vOp sIsi [none, none] (vaCons (vVar 0) (vaCons (vC (.ty "list")) (vaNil)))))) (vRet (vC (.bl false))) (vSkip))) (vSeq (vIfS (vB (vOp sNe [none, none] (va2 (vOp sLen [none] (vaCons (vVar 0) (vaNil))) (vOp sLen [none] (vaCons (vVar 1) (vaNil)))))) (vRet (vC (.bl false))) (vSkip)) (vSeq (vFor (viR1 (vaCons (vOp sLen [none] (vaCons (vVar 1) (vaNil))) (vaNil))) (vName 2) ((lb_Lalike0 n))) (vRet (vC (.bl true)))))))))
def lb_Lcome0 : VTS := vSeq (vDrop (vMutN muAppend 3 (vaCons (vVar 2) (vaNil)))) (vAsg 2 (vView (wMeth "list" sIndex (wName 1) (wCons (wOp sIx (w2 (wOp sIx (w2 (wName 0) (wName 2))) (wC (.int 2)))) (wNil)))))
def t_Lcome : VTS := vSeq (vAsg 3 (vLst (vaNil))) (vSeq (vWhile (vAnd (vB (vOp sEq [none, none] (va2 (vOp sIx [none, none] (va2 (vOp sIx [none, none] (va2 (vVar 0) (vVar 2))) (vC (.int 1)))) (vC (.str [106, 117, 109, 112]))))) (vViewT (wOp (sIn true) (w2 (wName 2) (wName 3))))) (lb_Lcome0)) (vSeq (vIfS (vB (vOp sEq [none, none] (va2 (vOp sIx [none, none] (va2 (vOp sIx [none, none] (va2 (vVar 0) (vVar 2))) (vC (.int 1)))) (vC (.str [106, 117, 109, 112]))))) (vRet (vOp sMinL [none] (vaCons (vSl (none) (vFrz 3) (vPart (vView (wMeth "list" sIndex (wName 3) (wCons (wName 2) (wNil))))) (vNoPart)) (vaNil)))) (vSkip)) (vRet (vVar 2))))
def t_Ldue_ways : VTS := vSeq (vIfS (vB (vOp sEq [none, none] (va2 (vOp sIx [none, none] (va2 (vOp sIx [none, none] (va2 (vVar 0) (vVar 2))) (vC (.int 1)))) (vC (.str [115, 117, 109]))))) (vRet (vLst (vaCons (vCall (sp_Lcome) [none, none, none] (vaCons (vVar 0) (vaCons (vVar 1) (vaCons (vOp sAdd [none, none] (va2 (vVar 2) (vC (.int 1)))) (vaNil))))) (vaNil)))) (vSkip)) (vSeq (vIfS (vB (vOp sEq [none, none] (va2 (vOp sIx [none, none] (va2 (vOp sIx [none, none] (va2 (vVar 0) (vVar 2))) (vC (.int 1)))) (vC (.str [116, 101, 115, 116]))))) (vSeq (vAsg 3 (vCall (sp_Lcome) [none, none, none] (vaCons (vVar 0) (vaCons (vVar 1) (vaCons (vView (wMeth "list" sIndex (wName 1) (wCons (wOp sIx (w2 (wOp sIx (w2 (wName 0) (wName 2))) (wC (.int 5)))) (wNil)))) (vaNil)))))) (vRet (vLst (vaCons (vVar 3) (vaCons (vCall (sp_Lcome) [none, none, none] (vaCons (vVar 0) (vaCons (vVar 1) (vaCons (vOp sAdd [none, none] (va2 (vVar 2) (vC (.int 1)))) (vaNil))))) (vaNil)))))) (vSkip)) (vRet (vLst (vaNil))))
def t_Ldue_head : VTS := vSeq (vIfS (vB (vOp sEq [none, none] (va2 (vOp sIx [none, none] (va2 (vVar 0) (vC (.int 1)))) (vC (.str [115, 117, 109]))))) (vRet (vTup (vaCons (vC (.str [115, 117, 109])) (vaCons (vOp sIx [none, none] (va2 (vVar 0) (vC (.int 2)))) (vaCons (vOp sIx [none, none] (va2 (vVar 0) (vC (.int 3)))) (vaCons (vOp sIx [none, none] (va2 (vVar 0) (vC (.int 4)))) (vaCons (vOp sIx [none, none] (va2 (vVar 0) (vC (.int 5)))) (vaNil)))))))) (vSkip)) (vSeq (vIfS (vB (vOp sEq [none, none] (va2 (vOp sIx [none, none] (va2 (vVar 0) (vC (.int 1)))) (vC (.str [116, 101, 115, 116]))))) (vRet (vTup (vaCons (vC (.str [116, 101, 115, 116])) (vaCons (vOp sIx [none, none] (va2 (vVar 0) (vC (.int 2)))) (vaCons (vOp sIx [none, none] (va2 (vVar 0) (vC (.int 3)))) (vaCons (vOp sIx [none, none] (va2 (vVar 0) (vC (.int 4)))) (vaNil))))))) (vSkip)) (vSeq (vIfS (vB (vOp sEq [none, none] (va2 (vOp sIx [none, none] (va2 (vVar 0) (vC (.int 1)))) (vC (.str [101, 110, 100]))))) (vRet (vTup (vaCons (vC (.str [101, 110, 100])) (vaNil)))) (vSkip)) (vRet (vTup (vaCons (vC (.str [115, 112, 105, 110])) (vaNil))))))
def lb_Lgood_ways0 : VTS := vIfS (vOr (vNot (vB (vOp sIsi [none, none] (vaCons (vVar 4) (vaCons (vC (.ty "int")) (vaNil)))))) (vOr (vB (vOp sIsi [none, none] (vaCons (vVar 4) (vaCons (vC (.ty "bool")) (vaNil))))) (vOr (vB (vOp oLt [none, none] (va2 (vVar 4) (vC (.int 0))))) (vB (vOp oGe [none, none] (va2 (vVar 4) (vVar 3))))))) (vRet (vC (.bl false))) (vSkip)
def t_Lgood_ways : VTS := vSeq (vIfS (vOr (vNot (vB (vOp sIsi [none, none] (vaCons (vVar 0) (vaCons (vC (.ty "tuple")) (vaNil)))))) (vNot (vB (vCall ((sp_Lalike 8)) [none, none] (vaCons (vStill (vSl (none) (vVar 0) (vNoPart) (vPart (vOp sLen [none] (vaCons (vVar 1) (vaNil)))))) (vaCons (vVar 1) (vaNil))))))) (vRet (vC (.bl false))) (vSkip)) (vSeq (vIfS (vB (vOp sNe [none, none] (va2 (vOp sLen [none] (vaCons (vVar 0) (vaNil))) (vOp sAdd [none, none] (va2 (vOp sLen [none] (vaCons (vVar 1) (vaNil))) (vOp sLen [none] (vaCons (vVar 2) (vaNil)))))))) (vRet (vC (.bl false))) (vSkip)) (vSeq (vFor (viTup (vSl (none) (vVar 0) (vPart (vOp sLen [none] (vaCons (vVar 1) (vaNil)))) (vNoPart))) (vName 4) (lb_Lgood_ways0)) (vRet (vC (.bl true)))))
def le_Lside_by_side0 : VTE := vOp sIx [none, none] (va2 (vVar 3) (vC (.int 0)))
def lb_Lside_by_side0 : VTS := vSeq (vIfS (vViewT (wOp (sIn true) (w2 (wName 9) (wName 4)))) (vSeq (vSet 4 (vVar 10) (vpName 4) (vVar 9)) (vDrop (vMutN muAppend 5 (vaCons (vVar 9) (vaNil))))) (vSkip)) (vIfS (vViewT (wOp sNe (w2 (wOp sIx (w2 (wName 4) (wName 9))) (wName 10)))) (vRet (vC (.bl false))) (vSkip))
def lb_Lside_by_side1 : VTS := vSeq (vAsg 6 (vMut muPop 5 (vpName 5) vaNil)) (vSeq (vAsg 7 (vCall (sp_Ldue_head) [none] (vaCons (vOp sIx [none, none] (va2 (vVar 1) (vOp sIx [some 4, none] (va2 (vMov 4) (vVar 6))))) (vaNil)))) (vSeq (vAsg 8 (vStill (vCall (sp_Ldue_ways) [none, none, none] (vaCons (vVar 1) (vaCons (vVar 2) (vaCons (vOp sIx [some 4, none] (va2 (vMov 4) (vVar 6))) (vaNil))))))) (vSeq (vIfS (vNot (vB (vCall (sp_Lgood_ways) [none, none, none, none] (vaCons (vOp sIx [none, none] (va2 (vVar 0) (vVar 6))) (vaCons (vVar 7) (vaCons (vVar 8) (vaCons (vOp sLen [none] (vaCons (vVar 0) (vaNil))) (vaNil)))))))) (vRet (vC (.bl false))) (vSkip)) (vFor (viZipM (vaCons (vStill (vSl (none) (vOp sIx [none, none] (va2 (vVar 0) (vVar 6))) (vPart (vOp sLen [none] (vaCons (vVar 7) (vaNil)))) (vNoPart))) (vaCons (vVar 8) (vaNil)))) (vNames [9, 10]) (lb_Lside_by_side0)))))
def t_Lside_by_side : VTS := vSeq (vAsg 2 (vStill (vLc [3] (viLst (vVar 1)) (vName 3) (vYes) (le_Lside_by_side0)))) (vSeq (vAsg 4 (vDisp (vdCons (vC (.int 0)) (vCall (sp_Lcome) [none, none, none] (vaCons (vVar 1) (vaCons (vVar 2) (vaCons (vC (.int 0)) (vaNil))))) (vdNil)))) (vSeq (vAsg 5 (vLst (vaCons (vC (.int 0)) (vaNil)))) (vSeq (vWhile (vViewT (wOp sNe (w2 (wName 5) (wLst (wNil))))) (lb_Lside_by_side1)) (vRet (vAndV (vView (wOp sEq (w2 (wOp sLen (wCons (wName 4) (wNil))) (wOp sLen (wCons (wName 0) (wNil)))))) (vOp sEq [none, none] (va2 (vOp sLenSet [none] (va1 (vOp sValsL [some 4] (va1 (vMov 4))))) (vOp sLen [none] (vaCons (vVar 0) (vaNil))))))))))
def lb_Lring0 : VTS := vDrop (vMutN muAppend 5 (vaCons (vTup (vaCons (vOp sAdd [none, none] (va2 (vVar 4) (vVar 6))) (vaCons (vC (.str [106, 117, 109, 112])) (vaCons (vOp sAdd [none, none] (va2 (vVar 4) (vOp oMod [none, none] (va2 (vOp sAdd [none, none] (va2 (vVar 6) (vVar 3))) (vVar 2))))) (vaNil))))) (vaNil)))
def t_Lring : VTS := vSeq (vAsg 2 (vOp sAdd [none, none] (va2 (vC (.int 1)) (vOp oMod [none, none] (va2 (vVar 0) (vC (.int 9))))))) (vSeq (vAsg 3 (vOp oMod [none, none] (va2 (vOp oDiv [none, none] (va2 (vVar 0) (vC (.int 9)))) (vVar 2)))) (vSeq (vAsg 4 (vOp sAdd [none, none] (va2 (vC (.int 3)) (vOp oMod [none, none] (va2 (vOp oDiv [none, none] (va2 (vVar 0) (vC (.int 81)))) (vC (.int 50))))))) (vSeq (vAsg 5 (vLst (vaCons (vTup (vaCons (vC (.int 0)) (vaCons (vC (.str [116, 101, 115, 116])) (vaCons (vC (.str [120])) (vaCons (vC (.str [60])) (vaCons (vOp oMod [none, none] (va2 (vVar 0) (vOp oPow [none, none] (va2 (vC (.int 10)) (vC (.int 18)))))) (vaCons (vOp sAdd [none, none] (va2 (vVar 4) (vOp oMod [none, none] (va2 (vVar 1) (vVar 2))))) (vaNil)))))))) (vaNil)))) (vSeq (vDrop (vMutN muAppend 5 (vaCons (vTup (vaCons (vC (.int 1)) (vaCons (vC (.str [115, 117, 109])) (vaCons (vC (.str [120])) (vaCons (vC (.str [120])) (vaCons (vC (.str [43])) (vaCons (vOp oMod [none, none] (va2 (vVar 1) (vOp oPow [none, none] (va2 (vC (.int 10)) (vC (.int 18)))))) (vaNil)))))))) (vaNil)))) (vSeq (vDrop (vMutN muAppend 5 (vaCons (vTup (vaCons (vC (.int 2)) (vaCons (vC (.str [106, 117, 109, 112])) (vaCons (vOp sAdd [none, none] (va2 (vVar 4) (vOp oMod [none, none] (va2 (vOp oDiv [none, none] (va2 (vVar 1) (vC (.int 9)))) (vVar 2))))) (vaNil))))) (vaNil)))) (vSeq (vFor (viR1 (vaCons (vVar 2) (vaNil))) (vName 6) (lb_Lring0)) (vRet (vMov 5))))))))
def t_law : VTS := vSeq (vAsg 1 (vStill (vCall (sp_Lrows) [none, none] (vaCons (vStill (vSl (none) (vVar 0) (vPart (vC (.int 1))) (vPart (vC (.int 40))))) (vaCons (vOp oMod [none, none] (va2 (vCall (sp_Lcell) [none, none] (vaCons (vVar 0) (vaCons (vC (.int 0)) (vaNil)))) (vOp oPow [none, none] (va2 (vC (.int 10)) (vC (.int 12)))))) (vaNil)))))) (vSeq (vAsg 2 (vStill (vOp sList [none] (vaCons (vVar 1) (vaNil))))) (vSeq (vAsg 3 (vCall (sp_graph_of) [none] (vaCons (vVar 2) (vaNil)))) (vSeq (vIfS (vOr (vNot (vViewT (wOp sIsi (wCons (wName 3) (wCons (wC (.ty "list")) (wNil)))))) (vOr (vViewT (wOp sEq (w2 (wName 3) (wLst (wNil))))) (vB (vOp sNe [none, none] (va2 (vVar 2) (vVar 1)))))) (vRet (vC (.bl false))) (vSkip)) (vSeq (vAsg 4 (vStill (vCall (sp_Lring) [none, none] (vaCons (vCall (sp_Lcell) [none, none] (vaCons (vVar 0) (vaCons (vC (.int 0)) (vaNil)))) (vaCons (vCall (sp_Lcell) [none, none] (vaCons (vVar 0) (vaCons (vC (.int 1)) (vaNil)))) (vaNil)))))) (vSeq (vIfS (vOr (vNot (vB (vLend (sp_Lside_by_side) (wCons (wName 3) (wCons (wName 1) (wNil)))))) (vNot (vB (vCall (sp_Lside_by_side) [none, none] (vaCons (vStill (vCall (sp_graph_of) [none] (vaCons (vVar 4) (vaNil)))) (vaCons (vVar 4) (vaNil))))))) (vRet (vC (.bl false))) (vSkip)) (vSeq (vAsg 5 (vStill (vOp sList [some 3] (vaLate 3 (vaNil))))) (vSeq (vDrop (vMut muReverse 3 (vpName 3) vaNil)) (vSeq (vDrop (vMutN muAppend 3 (vaCons (vTup (vaCons (vC (.str [115, 112, 105, 110])) (vaNil))) (vaNil)))) (vSeq (vDrop (vCall (sp_graph_of) [none] (vaCons (vStill (vLst (vaCons (vTup (vaCons (vC (.int 3)) (vaCons (vC (.str [106, 117, 109, 112])) (vaCons (vC (.int 3)) (vaNil))))) (vaNil)))) (vaNil)))) (vRet (vAndV (vCall ((sp_Lalike 8)) [none, none] (vaCons (vStill (vCall (sp_graph_of) [none] (vaCons (vVar 2) (vaNil)))) (vaCons (vVar 5) (vaNil)))) (vOp sEq [some 3, none] (va2 (vMov 3) (vOp sAdd [none, none] (va2 (vOp sRev [none] (va1 (vVar 5))) (vLst (vaCons (vTup (vaCons (vC (.str [115, 112, 105, 110])) (vaNil))) (vaNil))))))))))))))))))
end Pk12
namespace Pk12
open PySem PySem.Spec PyProof.Rows L2 VL
local macro_rules
  | `(tactic| simp! only [$ls,*] $[$loc:location]?) => `(tactic| simp (maxSteps := 4000000) only [startE, List.map_cons, List.map_nil, List.length_cons, List.length_nil, List.replicate, List.cons_append, List.nil_append, Nat.reduceAdd, Nat.reduceSub, Nat.zero_add,
  vSeq, vIfS, vRet, vRetN, vAsg, vAsgT, vName, vVar, vMov, vFrz, vC, va1, va2, vaCons, vaNil, vaLate, vOp, vOpQ, vB, vAnd, vOr, vNot, vAndV, vOrV, vNotV, vIf, vTup, vLst, vStill, vSkip, vDrop, vBrk, vCnt, vCall, vFor, viR1, viR2, viLst, viTup, viStr, viEnum, viZip, viRev, vSl, vNoPart, vPart, vDGet2, vM1, vPeek, vAddL, vSetd, vLcO, vForZO, vSet, vAt, vpName, vpIx, vMutN, vMut,
  restore, List.getElem?_cons_zero, List.getElem?_cons_succ, Option.some.injEq, exists_eq_left', isFz, isFzL, frz, frzL, List.set_cons_zero, List.set_cons_succ, e_sI2, e_sI2c, e_neg, e_addI, e_addS, e_addT, e_addL, e_mulI, e_divmod, e_eq, e_ne, eqOk_i, eqOk_s, eqOk_b, eqOk_si, eqOk_is, deq_i, deq_s, deq_b, deq_si, deq_is,
  e_isN, e_notN, e_isi, e_lenS, e_lenL, e_lenT, e_lenK, e_lenDT, e_ix, ixD_l, ixD_t, e_in, e_min, e_max, e_list, e_tuple, e_dict, e_rev, e_dget2, e_eqD, e_slS, e_slL, e_slT, isDct_K, isDct_T, tyNm, D.bl.injEq, D.int.injEq, D.str.injEq, true_and, and_true, decide_eq_true_eq, finalL, Nat.reduceLT, Nat.reduceLeDiff, if_true, Bool.and_self, and_self, pmod_lit, pdiv_lit, cml_lit_r, cml_lit_l, cpow_lit, cdv_lit, Int.reduceNe, Int.reduceEq, Int.reduceToNat, Int.reducePow, Int.reduceMul, Int.reduceAdd, Int.reduceSub, Int.reduceNeg, Int.reduceLT, Int.reduceLE, Nat.reduceLT, Nat.reduceLeDiff, Nat.reducePow, Nat.reduceEqDiff, ne_eq, not_false_eq_true, eq_self, reduceCtorEq, false_and, and_false, if_false, Bool.not_true, Bool.not_false, Bool.true_eq_false, Bool.false_eq_true, List.cons.injEq, e_app, lst_inj, exists_const, ixN_lit, Option.bind_some, getP_nilE, setP_nilE, exists_and_left, exists_eq', isT_nonetype_int, isT_nonetype_bool, isT_nonetype_str, isT_nonetype_list, isT_nonetype_tuple, isT_nonetype_dict, isT_int_int, isT_int_bool, isT_int_str, isT_int_list, isT_int_tuple, isT_int_dict, isT_bool_int, isT_bool_bool, isT_bool_str, isT_bool_list, isT_bool_tuple, isT_bool_dict, isT_str_int, isT_str_bool, isT_str_str, isT_str_list, isT_str_tuple, isT_str_dict, isT_list_int, isT_list_bool, isT_list_str, isT_list_list, isT_list_tuple, isT_list_dict, isT_tuple_int, isT_tuple_bool, isT_tuple_str, isT_tuple_list, isT_tuple_tuple, isT_tuple_dict, isT_dict_int, isT_dict_bool, isT_dict_str, isT_dict_list, isT_dict_tuple, isT_dict_dict, inT_int, inT_bool, inT_str, inT_list, inT_tuple, inT_dict, wName, wC, w1, w2, wNil, wCons, wOp, wCall, wTup, wLst, vView, vViewT, wMeth, flatD, tyOk_L, e_index, e_any, e_all, vAug, vForO, e_pop, names1, names2, names3, Bool.true_and, isFzL_nds, natsD_fz, isFz_nd, frz_nd, natsD_frz, frzL_nds, opD_fz, natsD_len, cutL_take, cutL_drop, List.take_succ_cons, List.take_zero, List.drop_succ_cons, List.drop_zero, frz_op, vLc, pull, forgetE, vYes, VL.isNon, D.tup.injEq, seqD_l, seqD_t, listD_l, listD_t, frz_rows, rowsF_fz, rowsD_len, rowsF_len, deq_ll, frz_rowsF, frzL_len, List.length_map, eqOk_n0, eqOk_nn, deqL_n0, deqL_nn, vDisp1, vDisp, vdCons, vdNil, rws_fz, rws_frz, mm_fz, mm_frz, deds_fz, deds_frz, strs_fz, strs_frz, isDct_mm, plc_frz, vLend, slice_script, frz_ints, new_told, ded_frz, rwD_frz, std_fz, std_frz, std_len, ln_fz, ln_frz, lns_fz, lns_frz, tk_fz, fms_fz, fms_frz, fm_fz, fm_frz, e_strS, e_join, e_joinA, e_split, e_part, e_starts, e_inG, viRd, $ls,*] $[$loc]?)
theorem rd_ways : Rd 1 [true] 1 sp_ways t_ways := by
  rintro ds Q Ex hl ⟨x, rfl, _, q⟩
  have q : Q (.tup (natsD (waysN x))) [ndD x] := q
  unfold t_ways
  cases x <;> (unfold ndD ndL at q ⊢; simp! only [opD_fz]; exact q)
def jCome (rs : List Rw) (k0 : Nat) (m : Nat) (ε : Ep) : Prop := ∃ (seen : List Nat) (k : Nat), JInv rs k0 seen k ∧ m = rs.length + 1 - seen.length ∧ ε = [some (.lst false (rs.map rwD)), some (placesD rs), some (.int (k : Int)), some (markD true seen), none, none]
def kCome (rs : List Rw) (k0 c : Nat) (seen : List Nat) (j : Nat) (m : Nat) (ε : Ep) : Prop := ∃ (mn h i : Nat), KInv rs k0 c mn h i seen j ∧ m = seen.length + 1 - i ∧ ε = [some (.lst false (rs.map rwD)), some (placesD rs), some (.int (c : Int)), some (markD true seen), some (.int (mn : Int)), some (.int (h : Int))]
theorem isJ {rs : List Rw} {k : Nat} {r : Rw} (hr : rs[k]? = some r) : (∃ n to, r = .jump n to ∧ nxJ rs k = some ((nums rs).idxOf to)) ∨ ((∀ n to, r ≠ .jump n to) ∧ nxJ rs k = none) := by
  unfold nxJ
  rw [hr]
  cases r with
  | jump n to => exact .inl ⟨n, to, rfl, rfl⟩
  | sum n x a s b => exact .inr ⟨fun _ _ z => (by cases z), rfl⟩
  | test n a s b to => exact .inr ⟨fun _ _ z => (by cases z), rfl⟩
  | fin n => exact .inr ⟨fun _ _ z => (by cases z), rfl⟩
theorem rd_come_to : Rd 3 [true, true, false] 6 sp_come_to t_come_to := by
  rintro ds Q Ex hl ⟨⟨rs, k0⟩, rfl, ⟨R, hk0⟩, q⟩
  have R : RwOk rs := R
  have hk0 : k0 < rs.length := hk0
  have q : Q (.int (comeTo rs k0 : Nat)) [.lst false (rs.map rwD), placesD rs, .int (k0 : Int)] := q
  have few := R.few
  unfold t_come_to
  simp! only [places_fz, rws_fz, ← mark_nil]
  refine ⟨jCome rs k0, ⟨_, [], k0, JInv.start hk0, rfl, rfl⟩, ?_⟩
  rintro m ε ⟨seen, k, I, rfl, rfl⟩
  have sl := I.len
  obtain ⟨r, hr⟩ : ∃ r, rs[k]? = some r := ⟨_, List.getElem?_eq_getElem I.lt⟩
  rcases isJ hr with ⟨n, to, rfl, hx⟩ | ⟨nj, hx⟩
  · have tm := R.tos _ (List.mem_of_getElem? hr) to (by simp [Rw.tos])
    simp! only [places_fz, rws_fz, ix_rws hr, rwD_jump, mark_frz, vmem_mark]
    by_cases hs : k ∈ seen
    · rw [if_neg (by simp [hs]), if_neg (by simp)]
      simp! only [ix_places tm]
      obtain ⟨j, K⟩ := I.ring hs hx
      refine ⟨kCome rs k0 k seen j, ⟨_, k, _, j + 1, K, rfl, rfl⟩, ?_⟩
      rintro m ε ⟨mn, h, i, K, rfl, rfl⟩
      simp! only []
      by_cases hc : h = k
      · rw [if_neg (by simp; omega)]
        rw [K.stop I hc] at q
        exact q
      · rw [if_pos (by simp; omega)]
        obtain ⟨il, b, hb, K2⟩ := K.next R I hc
        have hh : h < rs.length := by
          have := K.here
          rw [List.getElem?_append_left il] at this
          exact I.rng h (List.mem_of_getElem? this)
        obtain ⟨r2, hr2⟩ : ∃ r, rs[h]? = some r := ⟨_, List.getElem?_eq_getElem hh⟩
        rcases isJ hr2 with ⟨n2, to2, rfl, hx2⟩ | ⟨_, hx2⟩
        · rw [hx2] at hb
          cases hb
          have tm2 := R.tos _ (List.mem_of_getElem? hr2) to2 (by simp [Rw.tos])
          unfold lb_come_to1
          simp! only [places_fz, rws_fz, ix_rws hr2, rwD_jump, ix_places tm2]
          have em : min (mn : Int) (h : Int) = ((min mn h : Nat) : Int) := by omega
          rw [em]
          exact ⟨seen.length + 1 - (i + 1), by omega, min mn h, _, i + 1, K2, rfl, rfl⟩
        · rw [hx2] at hb
          cases hb
    · rw [if_pos (by simp [hs])]
      obtain ⟨I2, l2⟩ := I.more R hx hs
      unfold lb_come_to0
      simp! only [places_fz, rws_fz, ix_rws hr, rwD_jump, ix_places tm, mark_putS hs (show seen.length < 1000000 by omega)]
      exact ⟨rs.length + 1 - (seen ++ [k]).length, by simp; omega, seen ++ [k], _, I2, rfl, rfl⟩
  · rw [I.end_none hx] at q
    cases r with
    | jump n to => exact absurd rfl (nj n to)
    | sum n x a s b =>
      simp! only [places_fz, rws_fz, ix_rws hr, rwD_sum, mark_frz, vmem_mark]
      exact q
    | test n a s b to =>
      simp! only [places_fz, rws_fz, ix_rws hr, rwD_test, mark_frz, vmem_mark]
      exact q
    | fin n =>
      simp! only [places_fz, rws_fz, ix_rws hr, rwD_fin, mark_frz, vmem_mark]
      exact q
theorem rd_node_of : Rd 3 [true, true, true] 5 sp_node_of t_node_of := by
  rintro ds Q Ex hl ⟨⟨rs, k⟩, rfl, ⟨R, hk⟩, q⟩
  have R : RwOk rs := R
  have hk : k < rs.length := hk
  have q : Q (ndD (nodeAt rs k)) [.lst false (rs.map rwD), placesD rs, .int (k : Int)] := q
  obtain ⟨r, hr⟩ : ∃ r, rs[k]? = some r := ⟨_, List.getElem?_eq_getElem hk⟩
  have hm := List.mem_of_getElem? hr
  have ek : (k : Int) + 1 = ((k + 1 : Nat) : Int) := by omega
  unfold nodeAt at q
  rw [hr] at q
  unfold t_node_of
  cases r with
  | sum n x a s b =>
    simp! only [places_fz, rws_fz, ix_rws hr, rwD_sum, opD_fz, ek]
    refine c_come_to ⟨R, R.last k _ hr rfl⟩ ?_
    simp! only []
    exact q
  | test n a s b to =>
    have tm := R.tos _ hm to (by simp [Rw.tos])
    simp! only [places_fz, rws_fz, ix_rws hr, rwD_test, opD_fz, ix_places tm]
    refine c_come_to ⟨R, place_lt tm⟩ ?_
    simp! only [places_fz, rws_fz, ek]
    refine c_come_to ⟨R, R.last k _ hr rfl⟩ ?_
    simp! only []
    exact q
  | jump n to =>
    simp! only [places_fz, rws_fz, ix_rws hr, rwD_jump]
    exact q
  | fin n =>
    simp! only [places_fz, rws_fz, ix_rws hr, rwD_fin]
    exact q
def tpD (p : Nat × Nat) : D := .lst true [.int (p.1 : Int), .int (p.2 : Int)]
def tfD (p : Nat × Nat) : D := .lst false [.int (p.1 : Int), .int (p.2 : Int)]
theorem tp_frz (t : List (Nat × Nat)) : frzL (t.map tpD) = t.map tfD := by
  induction t with
  | nil => rfl
  | cons p t ih => show frz (tpD p) :: frzL (t.map tpD) = _; rw [ih]; rfl
theorem tf_ok (t : List (Nat × Nat)) : okD 64 (.lst false (t.map tfD)) = true := by
  show okDL 63 (t.map tfD) = true
  rw [okDL_all, List.all_map]
  simp [tfD, okD, okDL]
theorem deqL_tf (t : List (Nat × Nat)) : deqL (t.map tfD) [] = t.isEmpty := by cases t <;> rfl
theorem deq_lst2 {m n : Bool} {xs ys : List D} : deq (.lst m xs) (.lst n ys) = deqL xs ys := rfl
theorem pin0 {v : V} {p : Nat × Nat} : ixD (.pin v (tpD p)) (.int 0) = some (.int (p.1 : Int)) := rfl
theorem tp_fr {p : Nat × Nat} : frz (tpD p) = tfD p := rfl
theorem pinf1 {v : V} {p : Nat × Nat} : ixD (.pin v (tfD p)) (.int 1) = some (.int (p.2 : Int)) := rfl
def jFin (raw : List Nd) (st : Nat) (m : Nat) (ε : Ep) : Prop := ∃ (s : Wst) (y z : Option D), WInvS (glOf raw) raw.length st s ∧ wmu (glOf raw) raw.length s ≤ m ∧ (wrun (glOf raw) m s).done.reverse = orderAt (glOf raw) raw.length st ∧
    ε = [some (.lst false (raw.map ndD)), some (.int (st : Int)), some (markD true s.begun), some (.lst true (s.trail.reverse.map tpD)), some (.lst true (natsD s.done)), none, y, z]
theorem rd_finished_last : Rd 2 [true, true] 8 sp_finished_last t_finished_last := by
  rintro ds Q Ex hl ⟨⟨raw, st⟩, rfl, ⟨few, hok, hst⟩, q⟩
  have few : raw.length < 100000 := few
  have hok : ∀ x ∈ raw, x.ok raw.length := hok
  have hst : st < raw.length := hst
  have q : Q (.lst true (natsD (orderAt (glOf raw) raw.length st))) [.lst false (raw.map ndD), .int (st : Int)] := q
  have gl_lt : ∀ x < raw.length, ∀ g ∈ glOf raw x, g < raw.length := fun x hx g hgx => by
    unfold glOf at hgx
    rw [List.getElem?_eq_getElem hx] at hgx
    exact hok _ (List.getElem_mem hx) g hgx
  unfold t_finished_last
  simp! only []
  refine ⟨jFin raw st, ⟨wfuel (glOf raw) raw.length, ⟨[st], [(st, 0)], []⟩, none, none, WInvS.start hst, wmu_start hst, rfl, rfl⟩, ?_⟩
  rintro m ε ⟨s, y, z, I, hm, hf, rfl⟩
  obtain ⟨b, t, d⟩ := s
  simp! only [tp_frz, deq_lst2, deqL_tf]
  refine ⟨.inr ⟨tf_ok _, rfl⟩, ?_⟩
  cases t with
  | nil =>
    have hd : (wrun (glOf raw) m ⟨b, [], d⟩).done = d := by cases m <;> rfl
    rw [hd] at hf
    rw [if_neg (by simp)]
    simp! only [natsD_fz, natsD_rev]
    rw [hf]
    exact q
  | cons p t =>
    obtain ⟨h, k⟩ := p
    rw [if_pos (by simp)]
    obtain ⟨m, rfl⟩ : ∃ m', m = m' + 1 := ⟨m - 1, by
      have := wmu_step gl_lt I (by simp)
      omega⟩
    have st' := wmu_step gl_lt I (by simp)
    have In := I.step gl_lt
    have hr : wrun (glOf raw) (m + 1) ⟨b, (h, k) :: t, d⟩ = wrun (glOf raw) m (wstep (glOf raw) ⟨b, (h, k) :: t, d⟩) := rfl
    rw [hr] at hf
    have hh : h < raw.length := I.rng h ((I.mem h).mpr (by simp))
    obtain ⟨x, hx⟩ : ∃ x, raw[h]? = some x := ⟨_, List.getElem?_eq_getElem hh⟩
    have gx : glOf raw h = goals x := by unfold glOf; rw [hx]
    have kle : k ≤ (goals x).length := by rw [← gx]; exact I.le (h, k) (by simp)
    have all := nodup_len I.nd (fun y hy => I.rng y ((I.mem y).mpr hy))
    simp only [List.length_append, List.length_map, List.length_cons] at all
    have fin : ∀ (s' : Wst) (y z : Option D), s' = wstep (glOf raw) ⟨b, (h, k) :: t, d⟩ → ∃ m', m' < m + 1 ∧ jFin raw st m' [some (.lst false (raw.map ndD)), some (.int (st : Int)), some (markD true s'.begun), some (.lst true (s'.trail.reverse.map tpD)), some (.lst true (natsD s'.done)), none, y, z] := fun s' y z e => by
      subst e
      exact ⟨m, by omega, _, y, z, In, by omega, hf, rfl⟩
    have et : ((h, k) :: t).reverse.map tpD = t.reverse.map tpD ++ [tpD (h, k)] := by
      rw [List.reverse_cons, List.map_append]
      rfl
    rw [et]
    generalize hys : t.reverse.map tpD = ys
    have yl : ys.length = t.length := by rw [← hys]; simp
    unfold lb_finished_last0
    simp! only []
    have hix : ixN (ys ++ [tpD (h, k)]).length (-1) = some ys.length := by
      rw [ixN_neg (by simp)]
      simp
    refine ⟨⟨_, rfl⟩, ?_⟩
    simp! only []
    refine ⟨ys.length, hix, tpD (h, k), by simp, fun v => ?_⟩
    have es : (ys ++ [tpD (h, k)]).set ys.length (.val v) = ys ++ [.val v] := by simp
    have vm : (ys ++ [D.val v])[ys.length]? = some (.val v) := by simp
    have sm : ∀ e, (ys ++ [D.val v]).set ys.length e = ys ++ [e] := fun e => by simp
    rw [es]
    have wr : (waysN x).reverse = goals x := by rw [waysN_eq, List.reverse_reverse]
    have gl2 := goals_len x
    have wl : (waysN x).length ≤ 2 := by rw [waysN_eq, List.length_reverse]; exact gl2
    simp! only [pin0, ix_nds hx, c_ways, e_revT, natsD_rev, wr, tp_fr, pinf1]
    refine ⟨by omega, ?_⟩
    cases e : (goals x)[k]? with
    | none =>
      have hk : k = (goals x).length := by
        have := List.getElem?_eq_none_iff.mp e
        omega
      subst hk
      rw [if_pos rfl]
      refine ⟨by omega, by decide, _, ys.length, v, _, rfl, rfl, vm, ?_⟩
      rw [sm]
      simp! only [natsD_app]
      subst hys
      exact fin ⟨b, t, d ++ [h]⟩ _ _ (wstep_none (by rw [gx]; exact e)).symm
    | some g =>
      have kl := (List.getElem?_eq_some_iff.mp e).1
      rw [if_neg (by omega)]
      have ws := wstep_some (gl := glOf raw) (b := b) (h := h) (t := t) (d := d) (k := k) (g := g) (by rw [gx]; exact e)
      simp! only [ix_nats e, vAugP]
      have bl : b.length ≤ raw.length := nodup_len I.nb I.rng
      refine ⟨(k : Int), rfl, .pin v (tpD (h, k + 1)), rfl, by decide, _, ys.length, v, _, rfl, rfl, vm, ?_⟩
      rw [sm]
      subst hys
      have el : ∀ (p : Nat × Nat) (zs : List (Nat × Nat)), zs.map tpD ++ [tpD p] = (zs ++ [p]).map tpD := fun p zs => by rw [List.map_append]; rfl
      rw [el, ← List.reverse_cons]
      simp! only [mark_frz, vmem_mark]
      by_cases hg : g ∈ b
      · rw [if_neg (by simp [hg])]
        rw [if_pos hg] at ws
        exact fin ⟨b, (h, k + 1) :: t, d⟩ _ _ ws.symm
      · rw [if_pos (by simp [hg])]
        rw [if_neg hg] at ws
        simp! only [mark_putS hg (show b.length < 1000000 by omega)]
        refine ⟨by first | omega | (simp <;> omega), ?_⟩
        have := el (g, 0) ((h, k + 1) :: t).reverse
        rw [show (D.lst true [D.int (g : Int), D.int 0]) = tpD (g, 0) from rfl, this, ← List.reverse_cons]
        exact fin ⟨b ++ [g], (g, 0) :: (h, k + 1) :: t, d⟩ _ _ ws.symm
def enumI (n : Nat) (ds : List D) : List D := (ds.zipIdx n).map fun p => D.tup [.int (p.2 : Nat), p.1]
theorem enumD_I (ds : List D) : enumD ds = enumI 0 ds := rfl
theorem natk_putS {ks : List Nat} {vs : List D} {k : Nat} {y : D} (h : k ∉ ks) (hl : vs.length < 1000000) {P : D → Prop} : (∃ c, putD (.dK true (natK ks) vs) (.int (k : Int)) y = some c ∧ P c) ↔ P (.dK true (natK (ks ++ [k])) (vs ++ [y])) := by
  have e : putD (.dK true (natK ks) vs) (.int (k : Int)) y = some (.dK true (natK (ks ++ [k])) (vs ++ [y])) := by
    show (if vs.length < 1000000 then (some (Sum.inl (k : Int) : Kc)).map (fun z => match kIx (natK ks) z with | some j => D.dK true (natK ks) (vs.set j y) | none => .dK true (natK ks ++ [z]) (vs ++ [y])) else none) = _
    rw [if_pos hl]
    show some (match kIx (natK ks) (Sum.inl (k : Int)) with | some j => D.dK true (natK ks) (vs.set j y) | none => .dK true (natK ks ++ [Sum.inl (k : Int)]) (vs ++ [y])) = _
    rw [kIx_nat, if_neg h, natK_app]
  rw [e]
  exact ⟨fun ⟨_, e, p⟩ => by cases e; exact p, fun p => ⟨_, rfl, p⟩⟩
theorem for_renumbered {R O : D} {N : VEnds} : ∀ (todo dn : List Nat) (u v : Option D), (dn ++ todo).Nodup → dn.length + todo.length < 1000000 →
    (∀ u v, N.nx [some R, some O, some (.dK true (natK (dn ++ todo)) (natsD (List.range (dn ++ todo).length))), u, v]) →
    vForL (vNames [3, 4]) lb_renumbered0 (enumI dn.length (natsD todo)) N [some R, some O, some (.dK true (natK dn) (natsD (List.range dn.length))), u, v]
  | [], dn, u, v, _, _, q => by
    rw [List.append_nil] at q
    exact q u v
  | o :: todo, dn, u, v, nd, hl, q => by
    show vForL (vNames [3, 4]) lb_renumbered0 (.tup [.int (dn.length : Int), .int (o : Int)] :: enumI (dn.length + 1) (natsD todo)) N _
    rw [e_forU lb_renumbered0.eq_1]
    have hl : dn.length + (todo.length + 1) < 1000000 := hl
    have ho : o ∉ dn := fun z => (List.nodup_append.mp nd).2.2 o z o (by simp) rfl
    simp! only [natk_putS ho (show (natsD (List.range dn.length)).length < 1000000 by rw [natsD_len]; simp; omega)]
    have er : natsD (List.range dn.length) ++ [D.int (dn.length : Int)] = natsD (List.range (dn ++ [o]).length) := by
      rw [List.length_append, List.length_singleton, List.range_succ]
      unfold natsD
      simp
    rw [er]
    have el : dn.length + 1 = (dn ++ [o]).length := by simp
    rw [el]
    refine for_renumbered todo (dn ++ [o]) _ _ (by simpa using nd) (by simp; omega) fun u v => ?_
    rw [List.append_assoc]
    exact q u v
theorem lc_renumbered {raw : List Nd} {os : List Nat} (A : RnA raw os) {k : Option D} {Q : List D → Ep → Prop} : ∀ (m : Bool) (todo : List Nat) (acc : List Nd), (∀ o ∈ todo, o ∈ os) → acc.length + todo.length < 1000000 →
    (∀ m, Q ((acc ++ todo.map fun o => ((raw[o]?).getD .fin).ren fun x => os.idxOf x).map ndD) [some (.lst false (raw.map ndD)), some (.lst false (natsD os)), some (.dK m (natK os) (natsD (List.range os.length))), k, none]) →
    vLcL [4] (vName 4) vYes le_renumbered1 (natsD todo) (acc.map ndD) [some (.lst false (raw.map ndD)), some (.lst false (natsD os)), some (.dK m (natK os) (natsD (List.range os.length))), k, none] Q
  | m, [], acc, _, _, q => by
    have q := q m
    rw [List.map_nil, List.append_nil] at q
    exact q
  | m, o :: todo, acc, ho, hl, q => by
    show vLcL [4] (vName 4) vYes le_renumbered1 (D.int (o : Int) :: natsD todo) _ _ _
    rw [e_lcU le_renumbered1.eq_1]
    have hl : acc.length + (todo.length + 1) < 1000000 := hl
    have h1 := ho o List.mem_cons_self
    have hlt := A.rng o h1
    obtain ⟨x, hx⟩ : ∃ x, raw[o]? = some x := ⟨_, List.getElem?_eq_getElem hlt⟩
    simp! only [ix_nds hx, natsD_frz]
    refine c_moved (os := os) (fun g hg => A.clo o h1 x hx g hg) ?_
    simp! only []
    refine ⟨by omega, ?_⟩
    have e : acc.map ndD ++ [ndD (x.ren fun x => os.idxOf x)] = (acc ++ [((raw[o]?).getD .fin).ren fun x => os.idxOf x]).map ndD := by rw [hx, List.map_append]; rfl
    rw [e]
    refine lc_renumbered A false todo _ (fun y hy => ho y (List.mem_cons_of_mem _ hy)) (by first | omega | (simp <;> omega)) ?_
    rw [List.append_assoc]
    exact q
theorem rd_renumbered : Rd 2 [true, true] 5 sp_renumbered t_renumbered := by
  rintro ds Q Ex hl ⟨⟨raw, os⟩, rfl, A, q⟩
  have A : RnA raw os := A
  have few := A.few
  have q : Q (.lst true ((os.map fun o => ((raw[o]?).getD .fin).ren fun x => os.idxOf x).map ndD)) [.lst false (raw.map ndD), .lst false (natsD os)] := q
  have ol := nodup_len A.nd A.rng
  unfold t_renumbered
  simp! only [enumD_I]
  refine for_renumbered os [] _ _ (by simpa using A.nd) (by simp; omega) fun u v => ?_
  have hn : D.dK true (natK ([] ++ os)) (natsD (List.range ([] ++ os).length)) = D.dK true (natK os) (natsD (List.range os.length)) := rfl
  rw [hn]
  cases v with
  | none =>
    simp! only []
    refine lc_renumbered A true os [] (fun o ho => ho) (by simp; omega) fun m => ?_
    simp! only []
    exact q
  | some d =>
    simp! only []
    refine lc_renumbered A true os [] (fun o ho => ho) (by simp; omega) fun m => ?_
    simp! only []
    exact q
theorem rd_moved : Rd 2 [true, true] 2 sp_moved t_moved := by
  rintro ds Q Ex hl ⟨⟨x, os⟩, rfl, h, q⟩
  have q : Q (ndD (x.ren fun x => os.idxOf x)) [ndD x, newD os] := q
  have h : ∀ g ∈ goals x, g ∈ os := h
  unfold t_moved
  cases x with
  | sum x a s b to =>
    have h1 := ix_new (h to (by simp [goals]))
    simp! only [ndD_sum, newD_fz, opD_fz, h1]
    exact q
  | test a s b y n =>
    have h1 := ix_new (h y (by simp [goals]))
    have h2 := ix_new (h n (by simp [goals]))
    simp! only [ndD_test, newD_fz, opD_fz, h1, h2]
    exact q
  | fin =>
    simp! only [ndD_fin, newD_fz]
    exact q
  | spin =>
    simp! only [ndD_spin, newD_fz]
    exact q
theorem for_graph_of {rs : List Rw} {N : VEnds} : ∀ (todo dn : List Rw) (u v : Option D), (nums (dn ++ todo)).Nodup → dn.length + todo.length < 1000000 →
    (∀ u v, N.nx [some (.lst false (rs.map rwD)), some (.dK true (natK (nums (dn ++ todo))) (natsD (List.range (dn ++ todo).length))), u, v, none, none]) →
    vForL (vNames [2, 3]) lb_graph_of0 (enumI dn.length (todo.map rwD)) N [some (.lst false (rs.map rwD)), some (.dK true (natK (nums dn)) (natsD (List.range dn.length))), u, v, none, none]
  | [], dn, u, v, _, _, q => by
    rw [List.append_nil] at q
    exact q u v
  | r :: todo, dn, u, v, nd, hl, q => by
    show vForL (vNames [2, 3]) lb_graph_of0 (.tup [.int (dn.length : Int), rwD r] :: enumI (dn.length + 1) (todo.map rwD)) N _
    rw [e_forU lb_graph_of0.eq_1]
    have hl : dn.length + (todo.length + 1) < 1000000 := hl
    have ho : r.num ∉ nums dn := fun z => by
      have nd2 : (nums dn ++ (r.num :: nums todo)).Nodup := by
        have : nums (dn ++ r :: todo) = nums dn ++ (r.num :: nums todo) := by simp [nums]
        rwa [this] at nd
      exact (List.nodup_append.mp nd2).2.2 _ z _ (by simp) rfl
    have i0 : ixD (rwD r) (.int 0) = some (.int (r.num : Int)) := by cases r <;> rfl
    simp! only [rwD_fz, i0, natk_putS ho (show (natsD (List.range dn.length)).length < 1000000 by rw [natsD_len]; simp; omega)]
    have er : natsD (List.range dn.length) ++ [D.int (dn.length : Int)] = natsD (List.range (dn ++ [r]).length) := by
      rw [List.length_append, List.length_singleton, List.range_succ]
      unfold natsD
      simp
    have el : dn.length + 1 = (dn ++ [r]).length := by simp
    have en : nums dn ++ [r.num] = nums (dn ++ [r]) := by simp [nums]
    rw [er, el, en]
    refine for_graph_of todo (dn ++ [r]) _ _ (by simpa using nd) (by simp; omega) fun u v => ?_
    rw [List.append_assoc]
    exact q u v
theorem lc_graph_of {rs : List Rw} (R : RwOk rs) {Q : List D → Ep → Prop} {a b c : Option D} : ∀ (m : Bool) (ks : List Nat) (acc : List Nd), (∀ k ∈ ks, k < rs.length) → acc.length + ks.length < 1000000 →
    (∀ m, Q ((acc ++ ks.map (nodeAt rs)).map ndD) [some (.lst false (rs.map rwD)), some (.dK m (natK (nums rs)) (natsD (List.range rs.length))), none, a, b, c]) →
    vLcL [2] (vName 2) vYes le_graph_of1 (natsD ks) (acc.map ndD) [some (.lst false (rs.map rwD)), some (.dK m (natK (nums rs)) (natsD (List.range rs.length))), none, a, b, c] Q
  | m, [], acc, _, _, q => by
    have q := q m
    rw [List.map_nil, List.append_nil] at q
    exact q
  | m, k :: ks, acc, hk, hl, q => by
    show vLcL [2] (vName 2) vYes le_graph_of1 (D.int (k : Int) :: natsD ks) _ _ _
    rw [e_lcU le_graph_of1.eq_1]
    have hl : acc.length + (ks.length + 1) < 1000000 := hl
    simp! only [rws_fz, natsD_frz]
    refine c_node_of ⟨R, hk k List.mem_cons_self⟩ ?_
    simp! only []
    refine ⟨by omega, ?_⟩
    have e : acc.map ndD ++ [ndD (nodeAt rs k)] = (acc ++ [nodeAt rs k]).map ndD := by rw [List.map_append]; rfl
    rw [e]
    refine lc_graph_of R false ks _ (fun j hj => hk j (List.mem_cons_of_mem _ hj)) (by first | omega | (simp <;> omega)) fun m => ?_
    rw [List.append_assoc]
    exact q m
theorem rd_graph_of : Rd 1 [true] 6 sp_graph_of t_graph_of := by
  rintro ds Q Ex hl ⟨rs, rfl, ⟨R, g40⟩, q⟩
  have R : RwOk rs := R
  have g40 : (graphR rs).length ≤ 40 := g40
  have few := R.few
  have q : Q (.lst true ((graphR rs).map ndD)) [.lst false (rs.map rwD)] := q
  unfold t_graph_of
  simp! only [enumD_I, rws_fz]
  refine for_graph_of rs [] _ _ (by simpa using R.nd) (by simp; omega) fun u v => ?_
  have hn : D.dK true (natK (nums ([] ++ rs))) (natsD (List.range ([] ++ rs).length)) = D.dK true (natK (nums rs)) (natsD (List.range rs.length)) := rfl
  rw [hn]
  have ro := raw_ok R
  have rl := rawOf_len rs
  have cl := come_lt R R.pos
  have fo : (rawOf rs).length < 100000 ∧ (∀ x ∈ rawOf rs, x.ok (rawOf rs).length) ∧ comeTo rs 0 < (rawOf rs).length := ⟨by omega, ro.1, by omega⟩
  have gl_lt : ∀ x < (rawOf rs).length, ∀ g ∈ glOf (rawOf rs) x, g < (rawOf rs).length := fun x hx g hgx => by
    unfold glOf at hgx
    rw [List.getElem?_eq_getElem hx] at hgx
    exact ro.1 _ (List.getElem_mem hx) g hgx
  have O := order_ok (gl := glOf (rawOf rs)) fo.2.2 gl_lt
  have ol : (orderAt (glOf (rawOf rs)) (rawOf rs).length (comeTo rs 0)).length ≤ 40 := by
    have : (graphR rs).length = (orderAt (glOf (rawOf rs)) (rawOf rs).length (comeTo rs 0)).length := by unfold graphR graphAt; simp
    omega
  have A : RnA (rawOf rs) (orderAt (glOf (rawOf rs)) (rawOf rs).length (comeTo rs 0)) := ⟨by omega, O.nd, O.rng, fun o ho x hx g hg => O.closed o ho g (by unfold glOf; rw [hx]; exact hg)⟩
  cases u with
  | none =>
    simp! only [rngN, Int.toNat_natCast, rws_fz]
    refine ⟨by omega, by omega, ?_⟩
    refine lc_graph_of R true (List.range rs.length) [] (fun k hk => List.mem_range.mp hk) (by simp; omega) fun m => ?_
    have er : ([] ++ (List.range rs.length).map (nodeAt rs)) = rawOf rs := rfl
    rw [er]
    simp! only [rws_fz, natsD_frz]
    refine c_come_to (k := 0) ⟨R, R.pos⟩ ?_
    simp! only []
    refine c_finished_last fo ?_
    simp! only [natsD_frz, natsD_fz, natsD_len]
    rw [if_neg (by omega)]
    refine c_renumbered A ?_
    simp! only []
    exact q
  | some d =>
    simp! only [rngN, Int.toNat_natCast, rws_fz]
    refine ⟨by omega, by omega, ?_⟩
    refine lc_graph_of R true (List.range rs.length) [] (fun k hk => List.mem_range.mp hk) (by simp; omega) fun m => ?_
    have er : ([] ++ (List.range rs.length).map (nodeAt rs)) = rawOf rs := rfl
    rw [er]
    simp! only [rws_fz, natsD_frz]
    refine c_come_to (k := 0) ⟨R, R.pos⟩ ?_
    simp! only []
    refine c_finished_last fo ?_
    simp! only [natsD_frz, natsD_fz, natsD_len]
    rw [if_neg (by omega)]
    refine c_renumbered A ?_
    simp! only []
    exact q
theorem rd_Lcell : Rd 2 [true, true] 2 sp_Lcell t_Lcell := by
  rintro ds Q Ex hl ⟨⟨ns, k⟩, rfl, h0, q⟩
  have q : Q (.int (cellI ns k)) [scriptD ns, .int k] := q
  have h0 : 0 ≤ k := h0
  unfold t_Lcell
  simp! only [script_fz, script_len]
  unfold cellI at q
  by_cases h : k < ns.length
  · rw [if_pos h]
    unfold scriptD
    simp! only [List.length_map]
    have hk : k.toNat < ns.length := by omega
    rw [ixN_pos h0 h]
    refine ⟨.int ns[k.toNat], by simp [hk], rfl, ?_⟩
    rw [List.getElem?_eq_getElem hk] at q
    exact q
  · rw [if_neg h]
    rw [List.getElem?_eq_none (by omega)] at q
    exact q
theorem rd_Lmixed : Rd 2 [true, true] 3 sp_Lmixed t_Lmixed := by
  rintro ds Q Ex hl ⟨⟨c, k⟩, rfl, hk, q⟩
  unfold t_Lmixed
  simp! only []
  have hk : k.natAbs < 1125899906842624 := hk
  refine ⟨.inl (.inr (by omega)), ?_, q⟩
  have h1 := Int.emod_nonneg (c % 2147483647 * 48271 + 7919 * k * k + 104729) (show (2147483647 : Int) ≠ 0 by decide)
  have h2 := Int.emod_lt_of_pos (c % 2147483647 * 48271 + 7919 * k * k + 104729) (show (0 : Int) < 2147483647 by decide)
  exact .inl (.inl (by omega))
theorem rd_Lnames : Rd 1 [true] 2 sp_Lnames t_Lnames := by
  rintro ds Q Ex hl ⟨n, rfl, _, q⟩
  have q : ∀ nm, NmsOk nm → Q (.lst false (strsD nm)) [.int n] := fun nm h => q _ ⟨nm, rfl, h⟩
  have h0 := Int.emod_nonneg n (show (4 : Int) ≠ 0 by decide)
  have h1 := Int.emod_lt_of_pos n (show (0 : Int) < 4 by decide)
  unfold t_Lnames
  simp! only []
  obtain ⟨i, hi⟩ := Int.eq_ofNat_of_zero_le h0
  rw [hi] at h1 ⊢
  have : i = 0 ∨ i = 1 ∨ i = 2 ∨ i = 3 := by omega
  rcases this with rfl | rfl | rfl | rfl
  · exact ⟨_, rfl, rfl, q [[120], [121], [122], [119]] ⟨rfl, by decide⟩⟩
  · exact ⟨_, rfl, rfl, q [[97, 98], [97, 97], [98, 98], [98, 97]] ⟨rfl, by decide⟩⟩
  · exact ⟨_, rfl, rfl, q [[113, 49], [113], [113, 49, 49], [113, 50]] ⟨rfl, by decide⟩⟩
  · exact ⟨_, rfl, rfl, q [[115, 117, 109, 49, 97, 97, 97, 97], [115, 117, 109, 49, 97, 97, 97, 98], [115, 117, 109, 50, 97, 97, 97, 97], [116, 117, 109, 49, 97, 97, 97, 97]] ⟨rfl, by decide⟩⟩
theorem rd_Loperand : Rd 3 [true, true, true] 3 sp_Loperand t_Loperand := by
  rintro ds Q Ex hl ⟨⟨n, z, nm⟩, rfl, h, q⟩
  have h : NmsOk nm := h
  have q : ∀ o : Opd, o.good = true → Q (opD o) [.int n, .int z, .lst false (strsD nm)] := fun o g => q _ ⟨o, rfl, g⟩
  have h0 := Int.emod_nonneg (n / 8) (show (4 : Int) ≠ 0 by decide)
  have h1 := Int.emod_lt_of_pos (n / 8) (show (0 : Int) < 4 by decide)
  unfold t_Loperand
  simp! only []
  split
  · exact q (.inl _) rfl
  · split
    · exact q (.inl _) rfl
    · obtain ⟨i, hi⟩ := Int.eq_ofNat_of_zero_le h0
      rw [hi] at h1 ⊢
      obtain ⟨s, hs, e⟩ := ix_strs (m := false) h.1 (show i < 4 by omega)
      first | exact ⟨strs_fz nm, _, e, rfl, q (.inr s) (h.2 s hs)⟩ | exact ⟨_, e, rfl, q (.inr s) (h.2 s hs)⟩
theorem nm_at {nm : List Cs} (h : NmsOk nm) {z : Int} {P : D → Prop} (q : ∀ s ∈ nm, P (.str s)) : ∃ d, ((ixN (strsD nm).length (z % 4)).bind fun j => (strsD nm)[j]?) = some d ∧ isFz d = true ∧ P d := by
  have h0 := Int.emod_nonneg z (show (4 : Int) ≠ 0 by decide)
  have h1 := Int.emod_lt_of_pos z (show (0 : Int) < 4 by decide)
  obtain ⟨i, hi⟩ := Int.eq_ofNat_of_zero_le h0
  rw [hi] at h1 ⊢
  obtain ⟨s, hs, e⟩ := ix_strs (m := false) h.1 (show i < 4 by omega)
  exact ⟨_, e, rfl, q s hs⟩
theorem ix_small {ss : List Cs} (h : ss ≠ []) {z : Int} {P : D → Prop} (q : ∀ s ∈ ss, P (.str s)) : ∃ d, ((ixN ss.length (z % (ss.length : Int))).bind fun j => (ss.map D.str)[j]?) = some d ∧ isFz d = true ∧ P d := by
  have lp : 0 < ss.length := List.length_pos_iff.mpr h
  have h0 := Int.emod_nonneg z (show (ss.length : Int) ≠ 0 by omega)
  have h1 := Int.emod_lt_of_pos z (show (0 : Int) < ss.length by omega)
  obtain ⟨i, hi⟩ := Int.eq_ofNat_of_zero_le h0
  rw [hi] at h1 ⊢
  have hl : i < ss.length := by omega
  refine ⟨.str ss[i], ?_, rfl, q _ (List.getElem_mem hl)⟩
  rw [ixN_nat hl]
  show (ss.map D.str)[i]? = _
  rw [List.getElem?_map, List.getElem?_eq_getElem hl]
  rfl
theorem nat_at {ns : List Nat} (h : 0 < ns.length) {z : Int} {P : D → Prop} (q : ∀ t ∈ ns, P (.int (t : Int))) : ∃ d, ((ixN ns.length (pmod z (ns.length : Int))).bind fun j => (natsD ns)[j]?) = some d ∧ isFz d = true ∧ P d := by
  rw [pmod_pos (by omega)]
  have h0 := Int.emod_nonneg z (show (ns.length : Int) ≠ 0 by omega)
  have h1 := Int.emod_lt_of_pos z (show (0 : Int) < ns.length by omega)
  obtain ⟨i, hi⟩ := Int.eq_ofNat_of_zero_le h0
  rw [hi] at h1 ⊢
  have hl : i < ns.length := by omega
  exact (ix_nats (List.getElem?_eq_getElem hl)).mpr (q _ (List.getElem_mem hl))
theorem rd_Lrow : Rd 4 [true, true, true, true] 9 sp_Lrow t_Lrow := by
  rintro ds Q Ex hl ⟨⟨c, k, ns, nm⟩, rfl, ⟨hn, hk, hl2⟩, q⟩
  have hn : NmsOk nm := hn
  have hk : k < ns.length := hk
  have hl2 : ns.length ≤ 1000 := hl2
  have q : ∀ x : Rw, RowOk ns ns[k] x → Q (rwD x) [.int c, .int (k : Int), .lst false (natsD ns), .lst false (strsD nm)] := fun x h => q _ ⟨x, rfl, ns[k], List.getElem?_eq_getElem hk, h⟩
  have hx : ns[k]? = some ns[k] := List.getElem?_eq_getElem hk
  unfold t_Lrow
  simp! only [c_Lmixed, strs_fz]
  refine ⟨by omega, ?_⟩
  generalize mixed c (k : Int) = m
  refine c_Loperand hn fun o1 g1 => ?_
  simp! only [strs_fz]
  refine c_Loperand hn fun o2 g2 => ?_
  unfold tb_Lrow3
  simp! only [natsD_fz, natsD_len]
  refine ⟨by omega, nat_at (by omega) fun to hto => ?_⟩
  unfold tb_Lrow4
  simp! only [strs_fz]
  split
  · refine ix_small (ss := [[43], [45], [47], [114, 101, 115, 116], [38], [94]]) (by simp) fun sg hsg => ?_
    have gs : Cs.good sg = true := (by decide : ∀ s ∈ [[43], [45], [47], [114, 101, 115, 116], [38], [94]], Cs.good s = true) sg hsg
    simp! only [ix_nats hx, strs_fz, opD_fz]
    refine nm_at hn fun s hs => ?_
    exact q (.sum ns[k] s o1 sg o2) ⟨rfl, fun t ht => (nomatch ht), by show (Cs.good s && (o1.good && (Cs.good sg && o2.good))) = true; rw [hn.2 s hs, g1, gs, g2]; rfl⟩
  · unfold tb_Lrow5
    simp! only [ix_nats hx, natsD_fz]
    split
    · refine ix_small (ss := [[60], [61]]) (by simp) fun sg hsg => ?_
      have gs : Cs.good sg = true := (by decide : ∀ s ∈ [[60], [61]], Cs.good s = true) sg hsg
      exact q (.test ns[k] o1 sg o2 to) ⟨rfl, fun t ht => by rw [List.mem_singleton.mp ht]; exact hto, by show (o1.good && (Cs.good sg && o2.good)) = true; rw [g1, gs, g2]; rfl⟩
    · split
      · exact q (.jump ns[k] to) ⟨rfl, fun t ht => by rw [List.mem_singleton.mp ht]; exact hto, rfl⟩
      · exact q (.fin ns[k]) ⟨rfl, fun t ht => (nomatch ht), rfl⟩
theorem step_Lrows (head : Int) (k : Nat) : ∃ d : Nat, ∀ {P : D → Prop}, (∃ e, ((ixN 3 (head / 1200 % 3)).bind fun j => [D.int 1, D.int 10, D.int 97][j]?) = some e ∧ isFz e = true ∧ P e) ↔ P (.int (d + 1 : Nat)) := by
  have h0 := Int.emod_nonneg (head / 1200) (show (3 : Int) ≠ 0 by decide)
  have h1 := Int.emod_lt_of_pos (head / 1200) (show (0 : Int) < 3 by decide)
  obtain ⟨i, hi⟩ := Int.eq_ofNat_of_zero_le h0
  rw [hi] at h1 ⊢
  have : i = 0 ∨ i = 1 ∨ i = 2 := by omega
  rcases this with rfl | rfl | rfl
  · exact ⟨0, fun {P} => ⟨fun ⟨_, e, _, p⟩ => by cases e; exact p, fun p => ⟨_, rfl, rfl, p⟩⟩⟩
  · exact ⟨9, fun {P} => ⟨fun ⟨_, e, _, p⟩ => by cases e; exact p, fun p => ⟨_, rfl, rfl, p⟩⟩⟩
  · exact ⟨96, fun {P} => ⟨fun ⟨_, e, _, p⟩ => by cases e; exact p, fun p => ⟨_, rfl, rfl, p⟩⟩⟩
theorem for_Lrows {C : D} {head : Int} {a e : Option D} {N : VEnds} {st : Nat} (hst : ∀ {P : D → Prop}, (∃ e, ((ixN 3 (head / 1200 % 3)).bind fun j => [D.int 1, D.int 10, D.int 97][j]?) = some e ∧ isFz e = true ∧ P e) ↔ P (.int (st + 1 : Nat))) : ∀ (n i : Nat) (ns : List Nat) (u : Option D), ns.length = i + 1 → i + n ≤ 1000 → ns.Pairwise (· < ·) →
    (∀ ns u, ns.length = i + n + 1 → ns.Pairwise (· < ·) → N.nx [some C, some (.int head), a, some (.lst true (natsD ns)), u, e]) →
    vForL (vName 4) lb_Lrows0 (natsD (List.range' i n)) N [some C, some (.int head), a, some (.lst true (natsD ns)), u, e]
  | 0, i, ns, u, hl, _, pw, q => q ns u hl pw
  | n + 1, i, ns, u, hl, hb, pw, q => by
    show vForL (vName 4) lb_Lrows0 (D.int (i : Int) :: natsD (List.range' (i + 1) n)) N _
    rw [e_forU lb_Lrows0.eq_1]
    have hx : ns[i]? = some ns[i] := List.getElem?_eq_getElem (by omega)
    simp! only [c_Lmixed, natsD_frz, ix_nats hx, hst]
    obtain ⟨w, hw⟩ := Int.eq_ofNat_of_zero_le (show 0 ≤ pmod (mixed head (i : Int)) ((st + 1 : Nat) : Int) by rw [pmod_pos (by omega)]; exact Int.emod_nonneg _ (by omega))
    rw [hw]
    refine ⟨by omega, by omega, by omega, ?_⟩
    have e1 : natsD ns ++ [D.int ((ns[i] : Int) + 1 + (w : Int))] = natsD (ns ++ [ns[i] + 1 + w]) := by
      unfold natsD
      rw [List.map_append]
      show _ = _ ++ [D.int ((ns[i] + 1 + w : Nat) : Int)]
      congr 2
    rw [e1]
    have pw2 : (ns ++ [ns[i] + 1 + w]).Pairwise (· < ·) := by
      refine List.pairwise_append.mpr ⟨pw, List.pairwise_singleton _ _, fun x hx y hy => ?_⟩
      rw [List.mem_singleton.mp hy]
      obtain ⟨j, hj, rfl⟩ := List.mem_iff_getElem.mp hx
      by_cases e : j = i
      · subst e; omega
      · have := List.pairwise_iff_getElem.mp pw j i hj (by omega) (by omega)
        omega
    exact for_Lrows hst n (i + 1) _ _ (by simp; omega) (by omega) pw2 fun ns u h1 h2 => q ns u (by omega) h2
theorem lc_Lrows {cs : List Int} {hd : Int} {nm : List Cs} (hnm : NmsOk nm) {ns : List Nat} (hl : ns.length = cs.length + 1) (hb : cs.length ≤ 100) {Q : List D → Ep → Prop} {e : Option D} : ∀ (n i : Nat) (m : Bool) (acc : List Rw), acc.length = i → i + n = cs.length → (∀ (k : Nat) r, acc[k]? = some r → ∃ z, ns[k]? = some z ∧ RowOk ns z r) →
    (∀ m (rs : List Rw), rs.length = cs.length → (∀ (k : Nat) r, rs[k]? = some r → ∃ z, ns[k]? = some z ∧ RowOk ns z r) → Q (rs.map rwD) [some (scriptD cs), some (.int hd), some (.lst false (strsD nm)), some (.lst m (natsD ns)), none, e]) →
    vLcL [4] (vName 4) vYes le_Lrows1 (natsD (List.range' i n)) (acc.map rwD) [some (scriptD cs), some (.int hd), some (.lst false (strsD nm)), some (.lst m (natsD ns)), none, e] Q
  | 0, i, m, acc, ha, hi, hr, q => q m acc (by omega) hr
  | n + 1, i, m, acc, ha, hi, hr, q => by
    show vLcL [4] (vName 4) vYes le_Lrows1 (D.int (i : Int) :: natsD (List.range' (i + 1) n)) _ _ _
    rw [e_lcU le_Lrows1.eq_1]
    have hx : cs[i]? = some cs[i] := List.getElem?_eq_getElem (by omega)
    have ec : ∀ {P : D → Prop}, (∃ d, ixD (scriptD cs) (.int (i : Int)) = some d ∧ isFz d = true ∧ P d) ↔ P (.int cs[i]) := ix_at (by rw [List.getElem?_map, hx]; rfl) rfl (by simp)
    have hz : ns[i]? = some ns[i] := List.getElem?_eq_getElem (by omega)
    simp! only [script_fz, ec, natsD_frz, strs_fz]
    refine c_Lrow ⟨hnm, by omega⟩ hz fun x hx => ?_
    simp! only []
    refine ⟨by omega, ?_⟩
    have e1 : acc.map rwD ++ [rwD x] = (acc ++ [x]).map rwD := by rw [List.map_append]; rfl
    rw [e1]
    refine lc_Lrows hnm hl hb n (i + 1) false (acc ++ [x]) (by simp; omega) (by omega) (fun k r hk => ?_) q
    by_cases h : k < acc.length
    · rw [List.getElem?_append_left h] at hk; exact hr k r hk
    · rw [List.getElem?_append_right (by omega)] at hk
      have : k - acc.length = 0 := by
        have := (List.getElem?_eq_some_iff.mp hk).1
        simp at this
        omega
      rw [this] at hk
      cases hk
      have : k = i := by omega
      subst this
      exact ⟨_, hz, hx⟩
theorem rows_ok {ns : List Nat} {rs : List Rw} {x : Rw} (pw : ns.Pairwise (· < ·)) (hl : ns.length = rs.length + 1) (few : rs.length < 9000) (h : ∀ (k : Nat) r, rs[k]? = some r → ∃ z, ns[k]? = some z ∧ RowOk ns z r) {z : Nat} (hz : ns[rs.length]? = some z) (hx : RowOk ns z x) (hf : x.falls = false) : RwOk (rs ++ [x]) := by
  have all : ∀ (k : Nat) r, (rs ++ [x])[k]? = some r → ∃ z, ns[k]? = some z ∧ RowOk ns z r := fun k r hk => by
    by_cases q : k < rs.length
    · rw [List.getElem?_append_left q] at hk; exact h k r hk
    · rw [List.getElem?_append_right (by omega)] at hk
      have : k - rs.length = 0 := by
        have := (List.getElem?_eq_some_iff.mp hk).1
        simp at this
        omega
      rw [this] at hk
      cases hk
      have : k = rs.length := by omega
      subst this
      exact ⟨z, hz, hx⟩
  have en : nums (rs ++ [x]) = ns := by
    apply List.ext_getElem?
    intro k
    unfold nums
    rw [List.getElem?_map]
    by_cases q : k < (rs ++ [x]).length
    · obtain ⟨z, h1, h2⟩ := all k _ (List.getElem?_eq_getElem q)
      rw [List.getElem?_eq_getElem q, h1]
      show some _ = some _
      rw [h2.1]
    · rw [List.getElem?_eq_none (by omega), List.getElem?_eq_none (by simp at q; omega)]
      rfl
  have mem : ∀ r ∈ rs ++ [x], ∃ z, RowOk ns z r := fun r hr => by
    obtain ⟨k, hk⟩ := List.mem_iff_getElem?.mp hr
    obtain ⟨z, _, h2⟩ := all k r hk
    exact ⟨z, h2⟩
  refine ⟨by simp, by simp; omega, ?_, fun r hr t ht => ?_, fun r hr => ?_, fun k r hk hfl => ?_⟩
  · rw [en]
    exact pw.imp fun h => Nat.ne_of_lt h
  · rw [en]
    obtain ⟨z, h2⟩ := mem r hr
    exact h2.2.1 t ht
  · obtain ⟨z, h2⟩ := mem r hr
    exact h2.2.2
  · by_cases q : k < rs.length
    · simp; omega
    · rw [List.getElem?_append_right (by omega)] at hk
      have : k - rs.length = 0 := by
        have := (List.getElem?_eq_some_iff.mp hk).1
        simp at this
        omega
      rw [this] at hk
      cases hk
      rw [hf] at hfl
      cases hfl
theorem last_nats {ns : List Nat} {z : Nat} (lp : 0 < ns.length) (h : ns[ns.length - 1]? = some z) {P : D → Prop} : (∃ d, ((ixN ns.length (-1)).bind fun j => (natsD ns)[j]?) = some d ∧ isFz d = true ∧ P d) ↔ P (.int (z : Int)) := by
  rw [ixN_neg lp]
  show (∃ d, (natsD ns)[ns.length - 1]? = some d ∧ _) ↔ _
  have : (natsD ns)[ns.length - 1]? = some (.int (z : Int)) := by unfold natsD; rw [List.getElem?_map, h]; rfl
  rw [this]
  exact ⟨fun ⟨_, e, _, p⟩ => by cases e; exact p, fun p => ⟨_, rfl, rfl, p⟩⟩
theorem rd_Lrows : Rd 2 [true, true] 6 sp_Lrows t_Lrows := by
  rintro ds Q Ex hl ⟨⟨cs, head⟩, rfl, ⟨hc, h0, h1⟩, q⟩
  have hc : cs.length ≤ 39 := hc
  have h0 : 0 ≤ head := h0
  have h1 : head < 1000000000000 := h1
  have q : ∀ rs : List Rw, RwOk rs → rs.length ≤ 40 → Q (.lst true (rs.map rwD)) [scriptD cs, .int head] := fun rs a b => q _ ⟨rs, rfl, a, b⟩
  unfold t_Lrows
  simp! only []
  refine c_Lnames fun nm hnm => ?_
  simp! only [script_fz, script_len, rngN, Int.toNat_natCast]
  refine ⟨by omega, by omega, ?_⟩
  obtain ⟨st, hst⟩ := step_Lrows head 0
  obtain ⟨n0, hn0⟩ := Int.eq_ofNat_of_zero_le (Int.emod_nonneg (head / 4) (show (300 : Int) ≠ 0 by decide))
  rw [hn0, List.range_eq_range']
  refine for_Lrows hst cs.length 0 [n0] _ rfl (by omega) (List.pairwise_singleton _ _) fun ns u hl pw => ?_
  have hl : ns.length = cs.length + 1 := by omega
  cases u with
  | none =>
    simp! only [script_fz, script_len, rngN, Int.toNat_natCast]
    refine ⟨by omega, by omega, ?_⟩
    rw [List.range_eq_range']
    refine lc_Lrows hnm hl (by omega) cs.length 0 true [] rfl (by omega) (fun k r h => (by simp at h)) fun m rs hrl hr => ?_
    have hz : ns[rs.length]? = some ns[rs.length] := List.getElem?_eq_getElem (by omega)
    have hz2 : ns[ns.length - 1]? = some ns[rs.length] := by rw [← hz]; congr 1; omega
    simp! only []
    split
    · refine (last_nats (by omega) hz2).mpr ⟨by omega, nat_at (by omega) fun t ht => ⟨rfl, by omega, ?_⟩⟩
      have e1 : rs.map rwD ++ [D.tup [D.int (ns[rs.length] : Int), D.str [106, 117, 109, 112], frz (D.int (t : Int))]] = (rs ++ [Rw.jump ns[rs.length] t]).map rwD := by rw [List.map_append]; rfl
      rw [e1]
      exact q _ (rows_ok pw (by omega) (by omega) hr hz ⟨rfl, fun u hu => by rw [List.mem_singleton.mp hu]; exact ht, rfl⟩ rfl) (by simp; omega)
    · refine (last_nats (by omega) hz2).mpr ⟨by omega, ?_⟩
      have e1 : rs.map rwD ++ [D.tup [D.int (ns[rs.length] : Int), D.str [101, 110, 100]]] = (rs ++ [Rw.fin ns[rs.length]]).map rwD := by rw [List.map_append]; rfl
      rw [e1]
      exact q _ (rows_ok pw (by omega) (by omega) hr hz ⟨rfl, fun u hu => (nomatch hu), rfl⟩ rfl) (by simp; omega)
  | some d =>
    simp! only [script_fz, script_len, rngN, Int.toNat_natCast]
    refine ⟨by omega, by omega, ?_⟩
    rw [List.range_eq_range']
    refine lc_Lrows hnm hl (by omega) cs.length 0 true [] rfl (by omega) (fun k r h => (by simp at h)) fun m rs hrl hr => ?_
    have hz : ns[rs.length]? = some ns[rs.length] := List.getElem?_eq_getElem (by omega)
    have hz2 : ns[ns.length - 1]? = some ns[rs.length] := by rw [← hz]; congr 1; omega
    simp! only []
    split
    · refine (last_nats (by omega) hz2).mpr ⟨by omega, nat_at (by omega) fun t ht => ⟨rfl, by omega, ?_⟩⟩
      have e1 : rs.map rwD ++ [D.tup [D.int (ns[rs.length] : Int), D.str [106, 117, 109, 112], frz (D.int (t : Int))]] = (rs ++ [Rw.jump ns[rs.length] t]).map rwD := by rw [List.map_append]; rfl
      rw [e1]
      exact q _ (rows_ok pw (by omega) (by omega) hr hz ⟨rfl, fun u hu => by rw [List.mem_singleton.mp hu]; exact ht, rfl⟩ rfl) (by simp; omega)
    · refine (last_nats (by omega) hz2).mpr ⟨by omega, ?_⟩
      have e1 : rs.map rwD ++ [D.tup [D.int (ns[rs.length] : Int), D.str [101, 110, 100]]] = (rs ++ [Rw.fin ns[rs.length]]).map rwD := by rw [List.map_append]; rfl
      rw [e1]
      exact q _ (rows_ok pw (by omega) (by omega) hr hz ⟨rfl, fun u hu => (nomatch hu), rfl⟩ rfl) (by simp; omega)
theorem loop_Lalike {n : Nat} {a : D} {xs : List D} (ha : ∀ k : Nat, k < xs.length → ixD a (.int (k : Int)) = xs[k]?) (hk : plDL n xs = true) (az : isFz a = true) {N : VEnds} : ∀ (ks : List Nat) (u : Option D), (∀ k ∈ ks, k < xs.length) →
    (∀ u, N.nx [some a, some a, u]) → vForL (vName 2) (lb_Lalike0 (n + 1)) (natsD ks) N [some a, some a, u]
  | [], u, _, q => q u
  | k :: ks, u, h, q => by
    show vForL (vName 2) (lb_Lalike0 (n + 1)) (D.int (k : Int) :: natsD ks) N _
    rw [e_forU (lb_Lalike0.eq_1 (n + 1))]
    have hl := h k List.mem_cons_self
    have hk2 := hk
    rw [plDL_all] at hk2
    have z := List.all_eq_true.mp hk2 _ (List.getElem_mem hl)
    have zf := plD_fz n _ z
    simp! only [az, e_ix, ha k hl, List.getElem?_eq_getElem hl, zf]
    refine c_Lalike rfl z ?_
    simp! only []
    exact loop_Lalike ha hk az ks _ (fun i hi => h i (List.mem_cons_of_mem _ hi)) q
theorem rd_Lalike (n : Nat) : Rd 2 [true, true] 3 (sp_Lalike (n + 1)) (t_Lalike n) := by
  rintro ds Q Ex hl ⟨a, rfl, hk, q⟩
  have q : Q (.bl true) [a, a] := q
  have hk : plD n a = true := hk
  have seq : ∀ (a : D) (xs : List D), (∀ k : Nat, k < xs.length → ixD a (.int (k : Int)) = xs[k]?) → xs.length < 1000000 → plDL n.pred xs = true → n ≠ 0 → isFz a = true → Q (.bl true) [a, a] → ∀ (N : VEnds), N.nx = vRet (vC (D.bl true)) { nx := fun ε => 2 ≤ List.length ε ∧ Q D.non (finalL [true, true] [a, a] ε), rt := fun r ε => 2 ≤ List.length ε ∧ Q r (finalL [true, true] [a, a] ε), rx := fun cls row ε => 2 ≤ List.length ε ∧ Ex cls row (finalL [true, true] [a, a] ε) } →
      vForL (vName 2) (lb_Lalike0 n) (rng 0 ((xs.length : Int)).toNat) N [some a, some a, none] := fun a xs ha hl hp hn az q N hN => by
    obtain ⟨m, rfl⟩ : ∃ m, n = m + 1 := ⟨n - 1, by omega⟩
    rw [Int.toNat_natCast, rngN]
    refine loop_Lalike ha hp az _ _ (fun k hk => List.mem_range.mp hk) fun u => ?_
    rw [hN]
    simp! only []
    exact q
  unfold t_Lalike
  cases a with
  | non => simp! only []; exact q
  | bl b => simp! only []; exact q
  | int i => simp! only []; exact q
  | str s => simp! only []; exact q
  | tup xs =>
    cases n with
    | zero => simp [plD] at hk
    | succ n =>
      have hk : (decide (xs.length < 1000000) && plDL n xs) = true := hk
      obtain ⟨h1, h2⟩ := Bool.and_eq_true_iff.mp hk
      have h1 := of_decide_eq_true h1
      have hz2 := plDL_fz h2
      simp! only [hz2, decide_true, Bool.not_true]
      refine ⟨by omega, by omega, seq (.tup xs) xs (fun k h => ?_) h1 h2 (by simp) hz2 q _ rfl⟩
      rw [ixD_t, ixN_nat h]
      rfl
  | lst m xs =>
    cases m with
    | true => cases n <;> simp [plD] at hk
    | false =>
      cases n with
      | zero => simp [plD] at hk
      | succ n =>
        have hk : (!false && (decide (xs.length < 1000000) && plDL n xs)) = true := hk
        rw [Bool.not_false, Bool.true_and] at hk
        obtain ⟨h1, h2⟩ := Bool.and_eq_true_iff.mp hk
        have h1 := of_decide_eq_true h1
        have hz2 := plDL_fz h2
        simp! only [hz2, decide_true, Bool.not_true]
        refine ⟨by omega, by omega, seq (.lst false xs) xs (fun k h => ?_) h1 h2 (by simp) (by show (!false && isFzL xs) = true; rw [hz2]; rfl) q _ rfl⟩
        rw [ixD_l, ixN_nat h]
        rfl
  | _ => cases n <;> simp [plD] at hk
theorem idx_nats {os : List Nat} {y : Nat} (h : y ∈ os) : (natsD os).findIdx? (fun z => deq z (.int (y : Int))) = some (os.idxOf y) := by
  induction os with
  | nil => cases h
  | cons a os ih =>
    show (D.int (a : Int) :: natsD os).findIdx? _ = _
    rw [List.findIdx?_cons, deq_i, List.idxOf_cons]
    by_cases e : a = y
    · subst e
      simp
    · have h2 : ((a : Int) = (y : Int)) = False := by
        apply eq_false
        omega
      have h3 : (a == y) = false := by rw [beq_eq_false_iff_ne]; exact e
      rw [h3]
      simp only [h2, decide_false, cond_false]
      rw [ih (by rcases List.mem_cons.mp h with h | h; exact absurd h.symm e; exact h)]
      rfl
theorem idxAt_nats {os : List Nat} {y : Nat} (h : y ∈ os) : idxAt (natsD os) (.int (y : Int)) = some (os.idxOf y) := idx_nats h
theorem idxOk_nats {os : List Nat} {y : Nat} {m : Bool} : idxOk m (natsD os) (.int (y : Int)) ↔ True := ⟨fun _ => trivial, fun _ => .inl (by rw [natsD_flat]; rfl)⟩
theorem cutL_dropN {α : Type} (xs : List α) (k : Nat) : cutL xs (some (k : Int)) none = xs.drop k := by
  show (xs.drop (HT.sIx xs.length 0 (some ((k : Nat) : Int)))).take (xs.length - HT.sIx xs.length 0 (some ((k : Nat) : Int))) = _
  rw [HT.sIx_nat]
  by_cases h : k ≤ xs.length
  · rw [Nat.min_eq_left h, List.take_of_length_le (by simp)]
  · rw [Nat.min_eq_right (by omega), List.drop_length, List.drop_of_length_le (by omega)]
    simp
theorem cutL_takeN {α : Type} (xs : List α) (k : Nat) : cutL xs none (some (k : Int)) = xs.take k := by
  show (xs.drop 0).take (HT.sIx xs.length xs.length (some ((k : Nat) : Int)) - 0) = _
  rw [HT.sIx_nat, List.drop_zero, Nat.sub_zero]
  by_cases h : k ≤ xs.length
  · rw [Nat.min_eq_left h]
  · rw [Nat.min_eq_right (by omega), List.take_length, List.take_of_length_le (by omega)]
def jC (rs : List Rw) (k0 : Nat) (m : Nat) (ε : Ep) : Prop := ∃ (seen : List Nat) (k : Nat), JInv rs k0 seen k ∧ m = rs.length + 1 - seen.length ∧ ε = [some (.lst false (rs.map rwD)), some (.lst false (natsD (nums rs))), some (.int (k : Int)), some (.lst true (natsD seen))]
theorem rd_Lcome : Rd 3 [true, true, false] 4 sp_Lcome t_Lcome := by
  rintro ds Q Ex hl ⟨⟨rs, k0⟩, rfl, ⟨R, hk0⟩, q⟩
  have R : RwOk rs := R
  have hk0 : k0 < rs.length := hk0
  have q : Q (.int (comeTo rs k0 : Nat)) [.lst false (rs.map rwD), .lst false (natsD (nums rs)), .int (k0 : Int)] := q
  have few := R.few
  unfold t_Lcome
  simp! only [rws_fz]
  refine ⟨jC rs k0, ⟨_, [], k0, JInv.start hk0, rfl, rfl⟩, ?_⟩
  rintro m ε ⟨seen, k, I, rfl, rfl⟩
  have sl := I.len
  obtain ⟨r, hr⟩ : ∃ r, rs[k]? = some r := ⟨_, List.getElem?_eq_getElem I.lt⟩
  rcases isJ hr with ⟨n, to, rfl, hx⟩ | ⟨nj, hx⟩
  · have tm := R.tos _ (List.mem_of_getElem? hr) to (by simp [Rw.tos])
    simp! only [rws_fz, ix_rws hr, rwD_jump, natsD_frz]
    refine vmem_nats.mpr ?_
    by_cases hs : k ∈ seen
    · rw [if_neg (by simp [hs])]
      obtain ⟨m1, m2⟩ := come_least R I hs hx
      refine ⟨idxOk_nats.mpr trivial, _, idxAt_nats hs, ?_⟩
      have e : cutL (natsD seen) (some ((seen.idxOf k : Nat) : Int)) none = natsD (seen.drop (seen.idxOf k)) := by
        rw [cutL_dropN]
        unfold natsD
        rw [List.map_drop]
      rw [e]
      exact q_minL m1 m2 q
    · rw [if_pos (by simp [hs])]
      obtain ⟨I2, l2⟩ := I.more R hx hs
      unfold lb_Lcome0
      simp! only [rws_fz, ix_rws hr, rwD_jump, natsD_frz, natsD_len, natsD_app]
      exact ⟨by omega, idxOk_nats.mpr trivial, _, idxAt_nats tm, rs.length + 1 - (seen ++ [k]).length, by simp; omega, seen ++ [k], _, I2, rfl, rfl⟩
  · rw [I.end_none hx] at q
    cases r with
    | jump n to => exact absurd rfl (nj n to)
    | sum n x a s b =>
      simp! only [rws_fz, ix_rws hr, rwD_sum]
      exact q
    | test n a s b to =>
      simp! only [rws_fz, ix_rws hr, rwD_test]
      exact q
    | fin n =>
      simp! only [rws_fz, ix_rws hr, rwD_fin]
      exact q
theorem rd_Ldue_ways : Rd 3 [true, true, true] 4 sp_Ldue_ways t_Ldue_ways := by
  rintro ds Q Ex hl ⟨⟨rs, k⟩, rfl, ⟨R, hk⟩, q⟩
  have R : RwOk rs := R
  have hk : k < rs.length := hk
  have q : Q (.lst true (natsD (waysN (nodeAt rs k)))) [.lst false (rs.map rwD), .lst false (natsD (nums rs)), .int (k : Int)] := q
  obtain ⟨r, hr⟩ : ∃ r, rs[k]? = some r := ⟨_, List.getElem?_eq_getElem hk⟩
  have hm := List.mem_of_getElem? hr
  have ek : (k : Int) + 1 = ((k + 1 : Nat) : Int) := by omega
  unfold nodeAt at q
  rw [hr] at q
  unfold t_Ldue_ways
  cases r with
  | sum n x a s b =>
    simp! only [rws_fz, ix_rws hr, rwD_sum, opD_fz, ek]
    refine c_Lcome ⟨R, R.last k _ hr rfl⟩ ?_
    simp! only [rws_fz]
    exact q
  | test n a s b to =>
    have tm := R.tos _ hm to (by simp [Rw.tos])
    simp! only [rws_fz, ix_rws hr, rwD_test, opD_fz]
    refine ⟨idxOk_nats.mpr trivial, _, idxAt_nats tm, c_Lcome ⟨R, place_lt tm⟩ ?_⟩
    simp! only [rws_fz, ek]
    refine c_Lcome ⟨R, R.last k _ hr rfl⟩ ?_
    simp! only [rws_fz]
    exact q
  | jump n to =>
    simp! only [rws_fz, ix_rws hr, rwD_jump]
    exact q
  | fin n =>
    simp! only [rws_fz, ix_rws hr, rwD_fin]
    exact q
theorem rd_Ldue_head : Rd 1 [true] 1 sp_Ldue_head t_Ldue_head := by
  rintro ds Q Ex hl ⟨r, rfl, _, q⟩
  have q : Q (.tup (hdRw r)) [rwD r] := q
  unfold t_Ldue_head
  cases r with
  | sum n x a s b =>
    simp! only [rwD_sum, opD_fz]
    exact q
  | test n a s b to =>
    simp! only [rwD_test, opD_fz]
    exact q
  | jump n to =>
    simp! only [rwD_jump]
    exact q
  | fin n =>
    simp! only [rwD_fin]
    exact q
theorem hdRw_fz (r : Rw) : isFzL (hdRw r) = true := by cases r <;> simp [hdRw, isFzL, isFz, opD_fz]
theorem hdRw_pl (r : Rw) : plD 7 (.tup (hdRw r)) = true := by
  show (decide ((hdRw r).length < 1000000) && plDL 6 (hdRw r)) = true
  have h : plDL 6 (hdRw r) = true := by
    rw [plDL_all]
    cases r <;> simp only [hdRw, List.all_cons, List.all_nil, Bool.and_true, Bool.and_eq_true, pl_op, and_true, true_and] <;> first | rfl | exact ⟨rfl, rfl, rfl⟩ | exact ⟨rfl, rfl⟩
  rw [h]
  cases r <;> rfl
theorem for_Lgood {a b c : Option D} {n : Nat} {N : VEnds} : ∀ (ws : List Nat) (u : Option D), (∀ w ∈ ws, w < n) → (∀ u, N.nx [a, b, c, some (.int (n : Int)), u]) → vForL (vName 4) lb_Lgood_ways0 (natsD ws) N [a, b, c, some (.int (n : Int)), u]
  | [], u, _, q => q u
  | w :: ws, u, h, q => by
    show vForL (vName 4) lb_Lgood_ways0 (D.int (w : Int) :: natsD ws) N _
    rw [e_forU lb_Lgood_ways0.eq_1]
    have hw := h w List.mem_cons_self
    simp! only []
    rw [if_neg (by omega), if_neg (by omega)]
    exact for_Lgood ws _ (fun x hx => h x (List.mem_cons_of_mem _ hx)) q
theorem rd_Lgood_ways : Rd 4 [true, true, true, true] 5 sp_Lgood_ways t_Lgood_ways := by
  rintro ds Q Ex hl ⟨⟨r, ws, due, n⟩, rfl, ⟨h1, h2, h3⟩, q⟩
  have h1 : due.length = ws.length := h1
  have h2 : ws.length ≤ 2 := h2
  have h3 : ∀ w ∈ ws, w < n := h3
  have q : Q (.bl true) [.tup (hdRw r ++ natsD ws), .tup (hdRw r), .lst false (natsD due), .int (n : Int)] := q
  have f1 := hdRw_fz r
  have f2 : isFzL (hdRw r ++ natsD ws) = true := by rw [isFzL_all, List.all_append, ← isFzL_all, ← isFzL_all, f1, natsD_fz]; rfl
  unfold GwA.args t_Lgood_ways
  simp! only [f1, f2]
  have e1 : frzL (cutL (hdRw r ++ natsD ws) none (some ((hdRw r).length : Int))) = hdRw r := by
    rw [cutL_takeN, List.take_left]
    exact frzL_id f1
  have e2 : cutL (hdRw r ++ natsD ws) (some ((hdRw r).length : Int)) none = natsD ws := by rw [cutL_dropN, List.drop_left]
  rw [e1]
  refine c_Lalike rfl (hdRw_pl r) ?_
  simp! only [f1, f2, natsD_len, List.length_append, h1]
  rw [if_neg (by rw [decide_eq_true (by omega)]; exact fun z => nomatch z)]
  rw [e2]
  refine ⟨natsD_fz ws, for_Lgood ws none h3 fun u => ?_⟩
  simp! only [f1, f2]
  exact q
theorem nd_parts {rs : List Rw} {o : Nat} {r : Rw} {f : Nat → Nat} (hr : rs[o]? = some r) : ndD ((nodeAt rs o).ren f) = .tup (hdRw r ++ natsD ((waysN (nodeAt rs o)).map f)) := by
  unfold nodeAt
  rw [hr]
  cases r <;> rfl
theorem ways2 (x : Nd) : (waysN x).length ≤ 2 := by cases x <;> simp [waysN]
def prsD (rs : List Rw) (ks : List Nat) : D := .dK true (natK ks) (natsD (ks.map (plc rs)))
theorem ix_natK {m : Bool} {ks : List Nat} {f : Nat → Nat} {k : Nat} (h : k ∈ ks) : ixD (.dK m (natK ks) (natsD (ks.map f))) (.int (k : Int)) = some (.int (f k : Nat)) := by
  show ((kIx (natK ks) (.inl (k : Int))).bind fun j => (natsD (ks.map f))[j]?) = _
  rw [kIx_nat, if_pos h]
  show (natsD (ks.map f))[ks.idxOf k]? = _
  unfold natsD
  rw [List.map_map, List.getElem?_map, List.getElem?_eq_getElem (List.idxOf_lt_length_iff.mpr h), List.getElem_idxOf]
  rfl
theorem pop_nats (op : List Nat) (k : Nat) : muPop (natsD (op ++ [k])) [] = some (natsD op, .int (k : Int)) := by
  have e : natsD (op ++ [k]) = natsD op ++ [.int (k : Int)] := (natsD_app op k).symm
  rw [e]
  unfold muPop
  simp
def iS (rs : List Rw) (m : Nat) (ε : Ep) : Prop := ∃ (ks op : List Nat) (a b c d e : Option D), SbS rs ks op ∧ (m = 2 * ((osR rs).length - ks.length) + op.length ∧ m ≤ 100) ∧ ε = [some (.lst false ((graphR rs).map ndD)), some (.lst false (rs.map rwD)), some (.lst false (natsD (nums rs))), none, some (prsD rs ks), some (.lst true (natsD op)), a, b, c, d, e]
theorem SbS.start {rs : List Rw} (R : RwOk rs) : SbS rs [0] [0] :=
  ⟨by simp, List.mem_cons_self, fun k hk => by rw [List.mem_singleton.mp hk]; exact (plc_0 R).1, fun k hk => hk, fun k hk h => absurd hk h⟩
/-- what the ways of one node add -/
structure More (rs : List Rw) (ts ks op ks' op' : List Nat) : Prop where
  nd : ks'.Nodup
  lt : ∀ k ∈ ks', k < (osR rs).length
  sub : ∀ k ∈ op', k ∈ ks'
  old : ∀ k ∈ ks, k ∈ ks'
  new : ∀ k ∈ ks', k ∉ ks → k ∈ op'
  opn : ∀ k ∈ op, k ∈ op'
  got : ∀ t ∈ ts, (osR rs).idxOf t ∈ ks'
  few : 2 * ((osR rs).length - ks'.length) + op'.length ≤ 2 * ((osR rs).length - ks.length) + op.length
theorem for_Lside {rs : List Rw} (R : RwOk rs) (small : (osR rs).length ≤ 40) {g w n : D} {a b c d : Option D} {N : VEnds} (fg : isFz g = true) : ∀ (ts ks op : List Nat) (u v : Option D), (∀ t ∈ ts, t ∈ osR rs) → ks.Nodup → (∀ k ∈ ks, k < (osR rs).length) → (∀ k ∈ op, k ∈ ks) → 2 * ((osR rs).length - ks.length) + op.length ≤ 100 →
    (∀ ks' op' u v, More rs ts ks op ks' op' → N.nx [some g, some w, some n, a, some (.dK true (natK ks') (natsD (ks'.map (plc rs)))), some (.lst true (natsD op')), b, c, d, u, v]) →
    vForL (vNames [9, 10]) lb_Lside_by_side0 (zipD (natsD (ts.map fun x => (osR rs).idxOf x)) (natsD ts)) N [some g, some w, some n, a, some (.dK true (natK ks) (natsD (ks.map (plc rs)))), some (.lst true (natsD op)), b, c, d, u, v]
  | [], ks, op, u, v, ht, nd, lt, sub, ol, q => q ks op u v ⟨nd, lt, sub, fun _ h => h, fun _ h n => absurd h n, fun _ h => h, (fun _ h => nomatch h), Nat.le_refl _⟩
  | t :: ts, ks, op, u, v, ht, nd, lt, sub, ol, q => by
    show vForL (vNames [9, 10]) lb_Lside_by_side0 (D.tup [.int ((osR rs).idxOf t : Nat), .int (t : Int)] :: zipD (natsD (ts.map fun x => (osR rs).idxOf x)) (natsD ts)) N _
    rw [e_forU lb_Lside_by_side0.eq_1]
    have fp : ∀ ks : List Nat, isFzL (natsD (ks.map (plc rs))) = true := fun ks => natsD_fz _
    have hto := ht t List.mem_cons_self
    have hlt : (osR rs).idxOf t < (osR rs).length := List.idxOf_lt_length_iff.mpr hto
    have ep : plc rs ((osR rs).idxOf t) = t := plc_idx hto
    have lk : ks.length ≤ (osR rs).length := nodup_len nd lt
    have go : ∀ (ks2 op2 : List Nat) (u v : Option D), ks2.Nodup → (∀ k ∈ ks2, k < (osR rs).length) → (∀ k ∈ op2, k ∈ ks2) → (∀ k ∈ ks, k ∈ ks2) → (∀ k ∈ ks2, k ∉ ks → k ∈ op2) → (∀ k ∈ op, k ∈ op2) → (osR rs).idxOf t ∈ ks2 →
        2 * ((osR rs).length - ks2.length) + op2.length ≤ 2 * ((osR rs).length - ks.length) + op.length →
        vForL (vNames [9, 10]) lb_Lside_by_side0 (zipD (natsD (ts.map fun x => (osR rs).idxOf x)) (natsD ts)) N [some g, some w, some n, a, some (.dK true (natK ks2) (natsD (ks2.map (plc rs)))), some (.lst true (natsD op2)), b, c, d, u, v] :=
      fun ks2 op2 u v nd2 lt2 sub2 h1 h2 h3 h4 h5 => for_Lside R small fg ts ks2 op2 u v (fun x hx => ht x (List.mem_cons_of_mem _ hx)) nd2 lt2 sub2 (Nat.le_trans h5 ol) fun ks3 op3 u v M =>
        q ks3 op3 u v ⟨M.nd, M.lt, M.sub, fun k hk => M.old k (h1 k hk), fun k hk n => by
          by_cases h : k ∈ ks2
          · exact M.opn k (h2 k h n)
          · exact M.new k hk h, fun k hk => M.opn k (h3 k hk), fun x hx => by
          rcases List.mem_cons.mp hx with rfl | hx
          · exact M.old _ h4
          · exact M.got x hx, Nat.le_trans M.few h5⟩
    simp! only [natsD_frz, fp]
    refine vmem_natK.mpr ?_
    by_cases hin : (osR rs).idxOf t ∈ ks
    · rw [if_neg (by simp [hin])]
      refine ⟨.int (t : Int), by rw [ix_natK hin, ep], rfl, ?_⟩
      simp! only []
      refine ite_no (by simp) ?_
      exact go ks op _ _ nd lt sub (fun _ h => h) (fun _ h n => absurd h n) (fun _ h => h) hin (Nat.le_refl _)
    · rw [if_pos (by simp [hin])]
      have nd2 : (ks ++ [(osR rs).idxOf t]).Nodup := List.nodup_append.mpr ⟨nd, by simp, fun x hx y hy e => by rw [List.mem_singleton.mp hy] at e; exact hin (e ▸ hx)⟩
      have lt2 : ∀ k ∈ ks ++ [(osR rs).idxOf t], k < (osR rs).length := fun k hk => by
        rcases List.mem_append.mp hk with hk | hk
        · exact lt k hk
        · rw [List.mem_singleton.mp hk]; exact hlt
      have l2 := nodup_len nd2 lt2
      rw [List.length_append, List.length_singleton] at l2
      have el : natsD (ks.map (plc rs)) ++ [.int (t : Int)] = natsD ((ks ++ [(osR rs).idxOf t]).map (plc rs)) := by rw [natsD_app, List.map_append, List.map_singleton, ep]
      refine (plc_put1 hin (by rw [natsD_len, List.length_map]; omega)).mpr ?_
      rw [el]
      refine ⟨by omega, ?_⟩
      have hin2 : (osR rs).idxOf t ∈ ks ++ [(osR rs).idxOf t] := List.mem_append_right _ List.mem_cons_self
      have e9 : frz (.dK true (natK (ks ++ [(osR rs).idxOf t])) (natsD ((ks ++ [(osR rs).idxOf t]).map (plc rs)))) = .dK false (natK (ks ++ [(osR rs).idxOf t])) (natsD ((ks ++ [(osR rs).idxOf t]).map (plc rs))) := by
        show D.dK false _ (frzL _) = _
        rw [natsD_frz]
      refine ⟨.int (t : Int), by rw [e9, ix_natK hin2, ep], rfl, ?_⟩
      simp! only [natsD_app]
      refine ite_no (by simp) ?_
      refine go _ _ _ _ nd2 lt2 (fun k hk => ?_) (fun k hk => List.mem_append_left _ hk) (fun k hk n => ?_) (fun k hk => List.mem_append_left _ hk) hin2 ?_
      · rcases List.mem_append.mp hk with hk | hk
        · exact List.mem_append_left _ (sub k hk)
        · exact List.mem_append_right _ hk
      · rcases List.mem_append.mp hk with hk | hk
        · exact absurd hk n
        · exact List.mem_append_right _ hk
      · rw [List.length_append, List.length_append, List.length_singleton]
        omega
theorem rd_Lside_by_side : Rd 2 [true, true] 11 sp_Lside_by_side t_Lside_by_side := by
  rintro ds Q Ex hl ⟨rs, rfl, ⟨R, few⟩, q⟩
  have R : RwOk rs := R
  have few : rs.length ≤ 40 := few
  have q : Q (.bl true) [.lst false ((graphR rs).map ndD), .lst false (rs.map rwD)] := q
  have fg : isFzL ((graphR rs).map ndD) = true := isFzL_nds _
  unfold t_Lside_by_side
  simp! only [rws_fz, fg]
  have en : (rs.map fun r => D.int (r.num : Int)) = natsD (nums rs) := by unfold natsD nums; rw [List.map_map]; rfl
  refine lc_map (f := fun r : Rw => D.int (r.num : Int)) (g := rwD) le_Lside_by_side0.eq_1 rs [] (fun r _ P hP => ?_) rfl (by simp; omega) ?_
  · have f0 : isFz (rwD r) = true := rwD_fz r
    cases r <;> (simp! only [rwD_sum, rwD_test, rwD_jump, rwD_fin, opD_fz]; exact hP)
  rw [List.nil_append, en]
  simp! only [natsD_frz, rws_fz, fg]
  refine c_Lcome (k := 0) ⟨R, R.pos⟩ ?_
  simp! only [natsD_frz, rws_fz, fg]
  have e00 : prsD rs [0] = .dK true (natK [0]) [.int (comeTo rs 0 : Nat)] := by
    unfold prsD
    rw [show natsD ([0].map (plc rs)) = [D.int ((plc rs 0 : Nat) : Int)] from rfl, (plc_0 R).2]
  refine ⟨natK [0], rfl, by decide, ?_⟩
  refine ⟨iS rs, ⟨_, [0], [0], none, none, none, none, none, SbS.start R, ⟨rfl, ?_⟩, ?_⟩, ?_⟩
  · have := (graphR_ok R).2
    have := osR_len (rs := rs)
    show 2 * ((osR rs).length - 1) + 1 ≤ 100
    omega
  · rw [e00]; rfl
  rintro m ε ⟨ks, op, u6, u7, u8, u9, u10, I, ⟨rfl, m100⟩, rfl⟩
  have lk := I.len
  have lg := (graphR_ok R).2
  have eg := osR_len (rs := rs)
  have fp : isFzL (natsD (ks.map (plc rs))) = true := natsD_fz _
  unfold prsD
  simp! only [natsD_frz, rws_fz, fg]
  rcases List.eq_nil_or_concat op with rfl | ⟨op, k, rfl⟩
  · rw [if_neg (by simp)]
    have la := I.all R
    rw [if_pos (by omega)]
    refine ⟨_, _, rfl, fp, ?_⟩
    have nd : (ks.map (plc rs)).Nodup := List.pairwise_map.mpr (I.nd.imp_of_mem fun {a b} ha hb n e => n (by rw [← idx_plc R (I.lt a ha), ← idx_plc R (I.lt b hb), e]))
    refine e_lenSet.mpr ⟨nd, by rw [List.length_map]; omega, ?_⟩
    have e : ((ks.map (plc rs)).length : Int) = ((graphR rs).length : Int) := by rw [List.length_map]; omega
    rw [e]
    simp! only []
    exact q
  · rw [if_pos (by simp)]
    rw [List.concat_eq_append] at I m100 ⊢
    have hk : k ∈ ks := I.sub k (List.mem_append_right _ List.mem_cons_self)
    have lk2 := I.lt k hk
    have lp := plc_lt R lk2
    obtain ⟨r, hr⟩ : ∃ r, rs[plc rs k]? = some r := ⟨_, List.getElem?_eq_getElem lp⟩
    unfold lb_Lside_by_side1
    simp! only [natsD_frz, rws_fz, fg, fp]
    refine ⟨_, _, pop_nats op k, ?_⟩
    simp! only [ix_natK hk, ix_rws hr, rwD_fz, natsD_frz, rws_fz, fg, fp]
    refine c_Ldue_head ?_
    have fh := hdRw_fz r
    simp! only [ix_natK hk, ix_rws hr, rwD_fz, natsD_frz, rws_fz, fg, fp, fh]
    refine c_Ldue_ways ⟨R, lp⟩ ?_
    have hn := node_plc R lk2
    have en2 := nd_parts (f := fun x => (osR rs).idxOf x) hr
    have fw : isFzL (hdRw r ++ natsD ((waysN (nodeAt rs (plc rs k))).map fun x => (osR rs).idxOf x)) = true := by rw [isFzL_all, List.all_append, ← isFzL_all, ← isFzL_all, fh, natsD_fz]; rfl
    simp! only [natsD_frz, rws_fz, fg, fp, fh, ix_nds hn, en2, fw]
    refine c_Lgood_ways ⟨by rw [List.length_map], by rw [List.length_map]; exact ways2 _, fun w hw => ?_⟩ ?_
    · obtain ⟨t, ht, rfl⟩ := List.mem_map.mp hw
      rw [eg]
      exact List.idxOf_lt_length_iff.mpr (way_in R lk2 ht)
    unfold viZipM
    simp! only [natsD_frz, rws_fz, fg, fp, fh, ix_nds hn, en2, fw]
    have e3 : frzL (cutL (hdRw r ++ natsD ((waysN (nodeAt rs (plc rs k))).map fun x => (osR rs).idxOf x)) (some ((hdRw r).length : Int)) none) = natsD ((waysN (nodeAt rs (plc rs k))).map fun x => (osR rs).idxOf x) := by
      rw [cutL_dropN, List.drop_left, natsD_frz]
    refine ⟨_, _, ⟨e3, rfl⟩, natsD_fz _, Nat.le_of_eq (by rw [natsD_len, natsD_len, List.length_map]), ?_⟩
    rw [List.length_append, List.length_singleton] at m100
    refine for_Lside R (by omega) (by first | exact fg | rfl) (waysN (nodeAt rs (plc rs k))) ks op u9 u10 (fun t ht => way_in R lk2 ht) I.nd I.lt (fun x hx => I.sub x (List.mem_append_left _ hx)) (by omega) fun ks2 op2 a9 a10 M => ?_
    have mf := M.few
    refine ⟨2 * ((osR rs).length - ks2.length) + op2.length, by rw [List.length_append, List.length_singleton]; omega, ks2, op2, _, _, _, _, _, ⟨M.nd, M.old 0 I.z, M.lt, M.sub, fun x hx nx t ht => ?_⟩, ⟨rfl, by omega⟩, rfl⟩
    by_cases xk : x = k
    · subst xk
      exact M.got t ht
    · have xo : x ∈ ks := by
        by_cases h : x ∈ ks
        · exact h
        · exact absurd (M.new x hx h) nx
      refine M.old _ (I.cl x xo (fun h => ?_) t ht)
      rcases List.mem_append.mp h with h | h
      · exact nx (M.opn x h)
      · exact xk (List.mem_singleton.mp h)
def ringR (n bg st : Nat) (a b : Int) (t1 t2 : Nat) : List Rw :=
  .test 0 (.inr [120]) [60] (.inl a) (bg + t1) :: .sum 1 [120] (.inr [120]) [43] (.inl b) :: .jump 2 (bg + t2) :: (List.range n).map fun k => .jump (bg + k) (bg + (k + st) % n)
theorem ring_nums (n bg st : Nat) (a b : Int) (t1 t2 : Nat) : nums (ringR n bg st a b t1 t2) = 0 :: 1 :: 2 :: (List.range n).map fun k => bg + k := by
  unfold nums ringR
  simp only [List.map_cons, List.map_map]
  rfl
theorem ring_ok {n bg st : Nat} {a b : Int} {t1 t2 : Nat} (h0 : 0 < n) (h1 : n ≤ 9) (h2 : 3 ≤ bg) (h3 : t1 < n) (h4 : t2 < n) : RwOk (ringR n bg st a b t1 t2) := by
  have ln : (ringR n bg st a b t1 t2).length = n + 3 := by unfold ringR; simp
  have inn : ∀ t, t < n → bg + t ∈ nums (ringR n bg st a b t1 t2) := fun t ht => by
    rw [ring_nums]
    exact List.mem_cons_of_mem _ (List.mem_cons_of_mem _ (List.mem_cons_of_mem _ (List.mem_map.mpr ⟨t, List.mem_range.mpr ht, rfl⟩)))
  refine ⟨by omega, by omega, ?_, fun r hr t ht => ?_, fun r hr => ?_, fun k r hr hf => ?_⟩
  · rw [ring_nums]
    have nd : ((List.range n).map fun k => bg + k).Nodup := List.pairwise_map.mpr (List.nodup_range.imp fun {x y} h e => h (by omega))
    have lo : ∀ c, c < 3 → c ∉ (List.range n).map fun k => bg + k := fun c hc h => by
      obtain ⟨k, _, e⟩ := List.mem_map.mp h
      omega
    refine List.nodup_cons.mpr ⟨?_, List.nodup_cons.mpr ⟨?_, List.nodup_cons.mpr ⟨lo 2 (by omega), nd⟩⟩⟩
    · simp only [List.mem_cons, not_or]; exact ⟨by decide, by decide, lo 0 (by omega)⟩
    · simp only [List.mem_cons, not_or]; exact ⟨by decide, lo 1 (by omega)⟩
  · unfold ringR at hr
    simp only [List.mem_cons] at hr
    rcases hr with rfl | rfl | rfl | hr
    · rw [List.mem_singleton.mp (show t ∈ [bg + t1] from ht)]; exact inn t1 h3
    · exact nomatch (show t ∈ [] from ht)
    · rw [List.mem_singleton.mp (show t ∈ [bg + t2] from ht)]; exact inn t2 h4
    · obtain ⟨k, _, rfl⟩ := List.mem_map.mp hr
      rw [List.mem_singleton.mp (show t ∈ [bg + (k + st) % n] from ht)]
      exact inn _ (Nat.mod_lt _ h0)
  · unfold ringR at hr
    simp only [List.mem_cons] at hr
    rcases hr with rfl | rfl | rfl | hr
    · rfl
    · rfl
    · rfl
    · obtain ⟨k, _, rfl⟩ := List.mem_map.mp hr
      rfl
  · match k, hr with
    | 0, _ => omega
    | 1, _ => omega
    | 2, hr => cases hr; cases hf
    | k + 3, hr =>
      have hr : ((List.range n).map fun k => Rw.jump (bg + k) (bg + (k + st) % n))[k]? = some r := hr
      have := List.mem_of_getElem? hr
      obtain ⟨j, _, rfl⟩ := List.mem_map.mp this
      cases hf
theorem for_Lring {x y : D} {n bg st : Nat} (hn : 0 < n) {N : VEnds} {H : List Rw} (q : ∀ u, N.nx [some x, some y, some (.int (n : Int)), some (.int (st : Int)), some (.int (bg : Int)), some (.lst true ((H ++ (List.range n).map fun k => Rw.jump (bg + k) (bg + (k + st) % n)).map rwD)), u]) (hl : H.length + n < 1000) :
    ∀ (m i : Nat) (u : Option D), i + m = n → vForL (vName 6) lb_Lring0 (natsD (List.range' i m)) N [some x, some y, some (.int (n : Int)), some (.int (st : Int)), some (.int (bg : Int)), some (.lst true ((H ++ (List.range i).map fun k => Rw.jump (bg + k) (bg + (k + st) % n)).map rwD)), u]
  | 0, i, u, e => by
    obtain rfl : i = n := by omega
    exact q u
  | m + 1, i, u, e => by
    show vForL (vName 6) lb_Lring0 (D.int (i : Int) :: natsD (List.range' (i + 1) m)) N _
    rw [e_forU lb_Lring0.eq_1]
    have pm : pmod ((i : Int) + (st : Int)) (n : Int) = (((i + st) % n : Nat) : Int) := by
      rw [pmod_pos (by omega)]
      simp
    simp! only [pm]
    refine ⟨by omega, by simp; omega, ?_⟩
    have ea : ((H ++ (List.range i).map fun k => Rw.jump (bg + k) (bg + (k + st) % n)).map rwD) ++ [D.tup [.int ((bg : Int) + (i : Int)), .str [106, 117, 109, 112], .int ((bg : Int) + (((i + st) % n : Nat) : Int))]] = (H ++ (List.range (i + 1)).map fun k => Rw.jump (bg + k) (bg + (k + st) % n)).map rwD := by
      rw [List.range_succ, List.map_append, List.map_append, List.map_append, List.map_append, List.append_assoc]
      congr 2
    rw [ea]
    exact for_Lring hn q hl m (i + 1) _ (by omega)
theorem rd_Lring : Rd 2 [true, true] 7 sp_Lring t_Lring := by
  rintro ds Q Ex hl ⟨⟨x, y⟩, rfl, ⟨hx, hy⟩, q⟩
  have q : ∀ rs : List Rw, RwOk rs → rs.length ≤ 40 → Q (.lst true (rs.map rwD)) [.int x, .int y] := fun rs h l => q _ ⟨rs, rfl, h, l⟩
  unfold t_Lring
  simp! only []
  have h9 : 0 ≤ x % 9 ∧ x % 9 < 9 := by omega
  obtain ⟨n, hn⟩ := Int.eq_ofNat_of_zero_le (show 0 ≤ 1 + x % 9 by omega)
  have np : (0 : Int) < (n : Int) := by omega
  rw [hn, pmod_pos np, pmod_pos np, pmod_pos np]
  have m1 : ∀ z : Int, 0 ≤ z % (n : Int) ∧ z % (n : Int) < (n : Int) := fun z => ⟨Int.emod_nonneg z (by omega), Int.emod_lt_of_pos z np⟩
  obtain ⟨st, hs⟩ := Int.eq_ofNat_of_zero_le (m1 (x / 9)).1
  obtain ⟨t1, h1⟩ := Int.eq_ofNat_of_zero_le (m1 y).1
  obtain ⟨t2, h2⟩ := Int.eq_ofNat_of_zero_le (m1 (y / 9)).1
  obtain ⟨bg, hb⟩ := Int.eq_ofNat_of_zero_le (show 0 ≤ 3 + x / 81 % 50 by omega)
  have l1 := (m1 y).2
  have l2 := (m1 (y / 9)).2
  rw [hs, h1, h2, hb]
  rw [h1] at l1
  rw [h2] at l2
  refine ⟨by omega, by omega, by omega, by omega, by omega, ?_⟩
  rw [show ((n : Int)).toNat = n from rfl, rngN, List.range_eq_range']
  refine for_Lring (H := [.test 0 (.inr [120]) [60] (.inl (x % 1000000000000000000)) (bg + t1), .sum 1 [120] (.inr [120]) [43] (.inl (y % 1000000000000000000)), .jump 2 (bg + t2)]) (by omega) (fun u => ?_) (by simp; omega) n 0 none (Nat.zero_add n)
  simp! only []
  exact q (ringR n bg st (x % 1000000000000000000) (y % 1000000000000000000) t1 t2) (ring_ok (by omega) (by omega) (by omega) (by omega) (by omega)) (by unfold ringR; simp; omega)
theorem cutL_map {α β : Type} (f : α → β) (xs : List α) (lo hi : Option Int) : cutL (xs.map f) lo hi = (cutL xs lo hi).map f := by
  unfold cutL
  rw [List.length_map, List.map_take, List.map_drop]
theorem cut40 (ns : List Int) : (cutL ns (some 1) (some 40)).length ≤ 39 := by
  unfold cutL
  have e1 : HT.sIx ns.length 0 (some 1) = min 1 ns.length := rfl
  have e2 : HT.sIx ns.length ns.length (some 40) = min 40 ns.length := rfl
  rw [e1, e2, List.length_take]
  omega
theorem one_ok : RwOk [.jump 3 3] := ⟨by decide, by decide, by decide, by decide, by decide, fun k r hr hf => by
  match k, hr with
  | 0, hr => cases hr; cases hf
  | k + 1, hr => simp at hr⟩
theorem rd_law : Rd 1 [true] 6 sp_law t_law := by
  rintro ds Q Ex hl ⟨ns, rfl, ⟨hn, hb⟩, q⟩
  have hn : ns.length ≤ 63 := hn
  have q : Q (.bl true) [scriptD ns] := q
  have h0 := Int.emod_nonneg (cellI ns 0) (show (1000000000000 : Int) ≠ 0 by decide)
  have h1 := Int.emod_lt_of_pos (cellI ns 0) (show (0 : Int) < 1000000000000 by decide)
  have ef : isFzL (ns.map D.int) = true := script_fz ns
  have es : sliceD (scriptD ns) (some 1) (some 40) = some (.lst true ((cutL ns (some 1) (some 40)).map D.int)) := by
    show (if isFzL (ns.map D.int) = true then some (D.lst true (cutL (ns.map D.int) (some 1) (some 40))) else none) = _
    rw [if_pos ef, cutL_map]
  have ez : frzL ((cutL ns (some 1) (some 40)).map D.int) = (cutL ns (some 1) (some 40)).map D.int := frzL_id (script_fz _)
  unfold t_law
  simp! only [script_fz, c_Lcell, es, ez]
  refine c_Lrows (ns := cutL ns (some 1) (some 40)) ⟨cut40 ns, h0, h1⟩ fun rs R l40 => ?_
  have G := graphR_ok R
  have fg : isFzL ((graphR rs).map ndD) = true := isFzL_nds _
  have frg : frzL ((graphR rs).map ndD) = (graphR rs).map ndD := frzL_id fg
  simp! only [rws_frz, rws_fz]
  refine c_graph_of ⟨R, by omega⟩ ?_
  simp! only [rws_frz, rws_fz, script_fz, fg, frg, c_Lcell]
  have okg : ∀ m, okD 64 (.lst m ((graphR rs).map ndD)) = true := okD_lnds G.1.good
  have okr : okD 64 (.lst false (rs.map rwD)) = true := okD_lrws R.good false
  have dg : deqL ((graphR rs).map ndD) [] = false := by
    have := G.1.pos
    cases e : graphR rs with
    | nil => rw [e] at this; exact absurd this (by decide)
    | cons x l => rfl
  have dr : deqL (rs.map rwD) (rs.map rwD) = true := deq_self (d := .lst false (rs.map rwD)) okr
  refine ⟨.inr ⟨okg false, rfl⟩, ?_⟩
  refine ite_no (by rw [dg]; exact fun z => nomatch z) ?_
  refine ⟨.inr ⟨okr, okr⟩, ?_⟩
  refine ite_no (by rw [dr]; exact fun z => nomatch z) ?_
  refine c_Lring ⟨cellI_bits hb 0, cellI_bits hb 1⟩ fun rc Rc lc40 => ?_
  have Gc := graphR_ok Rc
  have fgc : isFzL ((graphR rc).map ndD) = true := isFzL_nds _
  have frgc : frzL ((graphR rc).map ndD) = (graphR rc).map ndD := frzL_id fgc
  simp! only [rws_frz, rws_fz, script_fz, fg, frg]
  refine c_Lside_by_side ⟨R, l40⟩ ?_
  simp! only [rws_frz, rws_fz, script_fz, fg, frg]
  refine ⟨rfl, ?_⟩
  refine c_graph_of ⟨Rc, by omega⟩ ?_
  simp! only [rws_frz, rws_fz, script_fz, fgc, frgc]
  refine c_Lside_by_side ⟨Rc, lc40⟩ ?_
  simp! only [rws_frz, rws_fz, script_fz, fg, frg]
  refine ⟨_, _, rfl, by rw [List.length_reverse, List.length_map]; omega, ?_⟩
  have one := (graphR_ok one_ok).2
  show sp_graph_of [.lst false ([Rw.jump 3 3].map rwD)] _ _
  refine c_graph_of ⟨one_ok, Nat.le_trans one (by decide)⟩ ?_
  simp! only [rws_frz, rws_fz, script_fz, fg, frg]
  refine c_graph_of ⟨R, by omega⟩ ?_
  simp! only [rws_frz, rws_fz, script_fz, fg, frg]
  refine c_Lalike rfl (pl_nds 5 (g := graphR rs) (by omega)) ?_
  have eS : ((graphR rs).map ndD).reverse ++ [D.tup [.str [115, 112, 105, 110]]] = ((graphR rs).reverse ++ [Nd.spin]).map ndD := by
    rw [List.map_append, List.map_reverse]
    rfl
  have gS : ∀ x ∈ (graphR rs).reverse ++ [Nd.spin], x.good = true := fun x hx => by
    rcases List.mem_append.mp hx with hx | hx
    · exact G.1.good x (List.mem_reverse.mp hx)
    · rw [List.mem_singleton.mp hx]; rfl
  rw [eS]
  have okS := okD_lnds gS
  have dS : deqL (((graphR rs).reverse ++ [Nd.spin]).map ndD) (((graphR rs).reverse ++ [Nd.spin]).map ndD) = true := deq_self (d := .lst false (((graphR rs).reverse ++ [Nd.spin]).map ndD)) (okS false)
  have fS : isFzL (((graphR rs).reverse ++ [Nd.spin]).map ndD) = true := isFzL_nds _
  simp! only [rws_frz, rws_fz, script_fz, fg, frg, fS]
  rw [eS, dS]
  refine ⟨⟨?_, by rw [List.length_reverse, List.length_map]; omega⟩, .inr ⟨okS true, okS true⟩, q⟩
  rw [← List.map_reverse]
  exact isFzL_nds _
theorem law_true (ns : List Int) (hl : ns.length ≤ 63) (hb : ∀ z ∈ ns, Builtin.Int.intBits z ≤ 1048576) : sp_law [scriptD ns] (fun r _ => r = .bl true) (fun _ _ _ => False) := ⟨ns, rfl, ⟨hl, hb⟩, rfl⟩
end Pk12
namespace Pk12
open PySem PySem.Spec PyProof.Rows L2 VL
structure Hd (K : PySem.W.Frag) (mg : Str → Option Value) : Prop where
  f_ways : FnAt K mg "ways" s_ways
  f_come_to : FnAt K mg "come_to" s_come_to
  f_node_of : FnAt K mg "node_of" s_node_of
  f_finished_last : FnAt K mg "finished_last" s_finished_last
  f_renumbered : FnAt K mg "renumbered" s_renumbered
  f_moved : FnAt K mg "moved" s_moved
  f_graph_of : FnAt K mg "graph_of" s_graph_of
  f_Lcell : FnAt K mg "_law_cell" s_Lcell
  f_Lmixed : FnAt K mg "_law_mixed" s_Lmixed
  f_Lnames : FnAt K mg "_law_names" s_Lnames
  f_Loperand : FnAt K mg "_law_operand" s_Loperand
  f_Lrow : FnAt K mg "_law_row" s_Lrow
  f_Lrows : FnAt K mg "_law_rows" s_Lrows
  f_Lalike : FnAt K mg "_law_alike" s_Lalike
  f_Lcome : FnAt K mg "_law_come" s_Lcome
  f_Ldue_ways : FnAt K mg "_law_due_ways" s_Ldue_ways
  f_Ldue_head : FnAt K mg "_law_due_head" s_Ldue_head
  f_Lgood_ways : FnAt K mg "_law_good_ways" s_Lgood_ways
  f_Lside_by_side : FnAt K mg "_law_side_by_side" s_Lside_by_side
  f_Lring : FnAt K mg "_law_ring" s_Lring
  f_law : FnAt K mg "law" s_law
  b_min : mg "min" = none
  b_list : mg "list" = none
  b_reversed : mg "reversed" = none
  b_len : mg "len" = none
  b_enumerate : mg "enumerate" = none
  b_range : mg "range" = none
  b_isinstance : mg "isinstance" = none
  b_bool : mg "bool" = none
  b_int : mg "int" = none
  b_str : mg "str" = none
  b_tuple : mg "tuple" = none
  b_zip : mg "zip" = none
  b_set : mg "set" = none
  g_MOST_NODES : ∃ t, mg "MOST_NODES" = some (.int 40 t)
theorem sc_ways : FnScope ["node"] ["node"] (defScope s_ways) := ⟨rfl, rfl, rfl, by decide +kernel, rfl, by decide +kernel, by decide +kernel⟩
theorem F_ways {P : Program} {w : World} {K : PySem.W.Frag} {mg : Str → Option Value} {base : Heap} (c : Hd K mg) : Fv P w K mg base "ways" 1 1 sp_ways :=
  Fv.mk2 (κ := [true]) (t := t_ways) c.f_ways sc_ways (fun F => F.bindsN fun _ _ _ _ _ _ us hl => match us, hl with | [_], _ => rfl) rfl (by decide)
    (fun f cdv A outer s H E hr => let sc := sc_ways; (vss_cons (vs_if (vt_cmp (opr_eq hr) opn_eq (vg_val (ve_ix hr (vg_val (nv 0)) (vg_val (ve_int)) (fun _ _ => rfl))) (vg_val ((ve_str rfl))) rfl) (vss_one (vs_ret (ve_tup (va_cons (vg_val (ve_ix hr (vg_val (nv 0)) (vg_val (ve_int)) (fun _ _ => rfl))) (va_nil))))) (vss_nil)) (vss_cons (vs_if (vt_cmp (opr_eq hr) opn_eq (vg_val (ve_ix hr (vg_val (nv 0)) (vg_val (ve_int)) (fun _ _ => rfl))) (vg_val ((ve_str rfl))) rfl) (vss_one (vs_ret (ve_tup (va_cons (vg_val (ve_ix hr (vg_val (nv 0)) (vg_val (ve_int)) (fun _ _ => rfl))) (va_cons (vg_val (ve_ix hr (vg_val (nv 0)) (vg_val (ve_int)) (fun _ _ => rfl))) (va_nil)))))) (vss_nil)) (vss_one (vs_ret (ve_tup (va_nil))))))) mono_ways rd_ways
theorem sc_come_to : FnScope ["rows", "places", "at", "seen", "first", "here"] ["rows", "places", "at"] (defScope s_come_to) := ⟨rfl, rfl, rfl, by decide +kernel, rfl, by decide +kernel, by decide +kernel⟩
theorem F_come_to {P : Program} {w : World} {K : PySem.W.Frag} {mg : Str → Option Value} {base : Heap} (c : Hd K mg) : Fv P w K mg base "come_to" 1 3 sp_come_to :=
  Fv.mk2 (κ := [true, true, false]) (t := t_come_to) c.f_come_to sc_come_to (fun F => F.bindsN fun _ _ _ _ _ _ us hl => match us, hl with | [_, _, _], _ => rfl) rfl (by decide)
    (fun f cdv A outer s H E hr => let sc := sc_come_to; (vss_cons (sa 3 sc.nd (ve_dK)) (vss_cons (vs_while (passes_of rfl) (vt_w (vw_and (vt_cmp (opr_eq hr) opn_eq (vg_val (ve_ix hr (vg_val (ve_ix hr (vg_val (nv 0)) (vg_val (nv 2)) (fun _ _ => rfl))) (vg_val (ve_int)) (fun _ _ => rfl))) (vg_val ((ve_str rfl))) rfl) (vw_and1 (vt_cmpW (opr_notIn hr) opn_in (wv_name 2) (wv_name 3) rfl)))) (vss_cons (vs_set hr (ve_bl) (np 3) (nq 2)) (vss_one (sa 2 sc.nd (ve_ix hr (vg_val (nv 1)) (vg_val (ve_ix hr (vg_val (ve_ix hr (vg_val (nv 0)) (vg_val (nv 2)) (fun _ _ => rfl))) (vg_val (ve_int)) (fun _ _ => rfl))) (fun _ _ => rfl)))))) (vss_cons (vs_if (vt_cmp (opr_ne hr) opn_ne (vg_val (ve_ix hr (vg_val (ve_ix hr (vg_val (nv 0)) (vg_val (nv 2)) (fun _ _ => rfl))) (vg_val (ve_int)) (fun _ _ => rfl))) (vg_val ((ve_str rfl))) rfl) (vss_one (vs_ret (nv 2))) (vss_nil)) (vss_cons (sa 4 sc.nd (nv 2)) (vss_cons (sa 5 sc.nd (ve_ix hr (vg_val (nv 1)) (vg_val (ve_ix hr (vg_val (ve_ix hr (vg_val (nv 0)) (vg_val (nv 2)) (fun _ _ => rfl))) (vg_val (ve_int)) (fun _ _ => rfl))) (fun _ _ => rfl))) (vss_cons (vs_while (passes_of rfl) (vt_cmp (opr_ne hr) opn_ne (vg_val (nv 5)) (vg_val (nv 2)) rfl) (vss_cons (sa 4 sc.nd (ve_callB (call_min2 rfl) opn_min rfl c.b_min rfl (va_cons (vg_val (nv 4)) (va_cons (vg_val (nv 5)) (va_nil))))) (vss_one (sa 5 sc.nd (ve_ix hr (vg_val (nv 1)) (vg_val (ve_ix hr (vg_val (ve_ix hr (vg_val (nv 0)) (vg_val (nv 5)) (fun _ _ => rfl))) (vg_val (ve_int)) (fun _ _ => rfl))) (fun _ _ => rfl)))))) (vss_one (vs_ret (nv 4)))))))))) mono_come_to rd_come_to
theorem sc_moved : FnScope ["node", "place"] ["node", "place"] (defScope s_moved) := ⟨rfl, rfl, rfl, by decide +kernel, rfl, by decide +kernel, by decide +kernel⟩
theorem F_moved {P : Program} {w : World} {K : PySem.W.Frag} {mg : Str → Option Value} {base : Heap} (c : Hd K mg) : Fv P w K mg base "moved" 1 2 sp_moved :=
  Fv.mk2 (κ := [true, true]) (t := t_moved) c.f_moved sc_moved (fun F => F.bindsN fun _ _ _ _ _ _ us hl => match us, hl with | [_, _], _ => rfl) rfl (by decide)
    (fun f cdv A outer s H E hr => let sc := sc_moved; (vss_cons (vs_if (vt_cmp (opr_eq hr) opn_eq (vg_val (ve_ix hr (vg_val (nv 0)) (vg_val (ve_int)) (fun _ _ => rfl))) (vg_val ((ve_str rfl))) rfl) (vss_one (vs_ret (ve_tup (va_cons (vg_val ((ve_str rfl))) (va_cons (vg_val (ve_ix hr (vg_val (nv 0)) (vg_val (ve_int)) (fun _ _ => rfl))) (va_cons (vg_val (ve_ix hr (vg_val (nv 0)) (vg_val (ve_int)) (fun _ _ => rfl))) (va_cons (vg_val (ve_ix hr (vg_val (nv 0)) (vg_val (ve_int)) (fun _ _ => rfl))) (va_cons (vg_val (ve_ix hr (vg_val (nv 0)) (vg_val (ve_int)) (fun _ _ => rfl))) (va_cons (vg_val (ve_ix hr (vg_val (nv 1)) (vg_val (ve_ix hr (vg_val (nv 0)) (vg_val (ve_int)) (fun _ _ => rfl))) (fun _ _ => rfl))) (va_nil)))))))))) (vss_nil)) (vss_cons (vs_if (vt_cmp (opr_eq hr) opn_eq (vg_val (ve_ix hr (vg_val (nv 0)) (vg_val (ve_int)) (fun _ _ => rfl))) (vg_val ((ve_str rfl))) rfl) (vss_one (vs_ret (ve_tup (va_cons (vg_val ((ve_str rfl))) (va_cons (vg_val (ve_ix hr (vg_val (nv 0)) (vg_val (ve_int)) (fun _ _ => rfl))) (va_cons (vg_val (ve_ix hr (vg_val (nv 0)) (vg_val (ve_int)) (fun _ _ => rfl))) (va_cons (vg_val (ve_ix hr (vg_val (nv 0)) (vg_val (ve_int)) (fun _ _ => rfl))) (va_cons (vg_val (ve_ix hr (vg_val (nv 1)) (vg_val (ve_ix hr (vg_val (nv 0)) (vg_val (ve_int)) (fun _ _ => rfl))) (fun _ _ => rfl))) (va_cons (vg_val (ve_ix hr (vg_val (nv 1)) (vg_val (ve_ix hr (vg_val (nv 0)) (vg_val (ve_int)) (fun _ _ => rfl))) (fun _ _ => rfl))) (va_nil)))))))))) (vss_nil)) (vss_one (vs_ret (nv 0)))))) mono_moved rd_moved
theorem sc_Lcell : FnScope ["_law_script", "_law_k"] ["_law_script", "_law_k"] (defScope s_Lcell) := ⟨rfl, rfl, rfl, by decide +kernel, rfl, by decide +kernel, by decide +kernel⟩
theorem F_Lcell {P : Program} {w : World} {K : PySem.W.Frag} {mg : Str → Option Value} {base : Heap} (c : Hd K mg) : Fv P w K mg base "_law_cell" 1 2 sp_Lcell :=
  Fv.mk2 (κ := [true, true]) (t := t_Lcell) c.f_Lcell sc_Lcell (fun F => F.bindsN fun _ _ _ _ _ _ us hl => match us, hl with | [_, _], _ => rfl) rfl (by decide)
    (fun f cdv A outer s H E hr => let sc := sc_Lcell; (vss_cons (vs_if (vt_cmp op_lt opn_lt (vg_val (nv 1)) (vg_val (ve_callB call_lenA opn_len rfl c.b_len rfl (va_cons (vg_val (nv 0)) (va_nil)))) rfl) (vss_one (vs_ret (ve_ix hr (vg_val (nv 0)) (vg_val (nv 1)) (fun _ _ => rfl)))) (vss_nil)) (vss_one (vs_ret (ve_int))))) mono_Lcell rd_Lcell
theorem sc_Lmixed : FnScope ["_law_cell_here", "_law_k", "_law_number"] ["_law_cell_here", "_law_k"] (defScope s_Lmixed) := ⟨rfl, rfl, rfl, by decide +kernel, rfl, by decide +kernel, by decide +kernel⟩
theorem F_Lmixed {P : Program} {w : World} {K : PySem.W.Frag} {mg : Str → Option Value} {base : Heap} (c : Hd K mg) : Fv P w K mg base "_law_mixed" 1 2 sp_Lmixed :=
  Fv.mk2 (κ := [true, true]) (t := t_Lmixed) c.f_Lmixed sc_Lmixed (fun F => F.bindsN fun _ _ _ _ _ _ us hl => match us, hl with | [_, _], _ => rfl) rfl (by decide)
    (fun f cdv A outer s H E hr => let sc := sc_Lmixed; (vss_cons (sa 2 sc.nd (ve_bin op_modN opn_mod (vg_val (ve_bin opr_add opn_add (vg_val (ve_bin opr_add opn_add (vg_val (ve_bin opr_mulA opn_mul (vg_val (ve_bin op_modN opn_mod (vg_val (nv 0)) (vg_val (ve_int)))) (vg_val (ve_int)))) (vg_val (ve_bin opr_mulA opn_mul (vg_val (ve_bin opr_mulA opn_mul (vg_val (ve_int)) (vg_val (nv 1)))) (vg_val (nv 1)))))) (vg_val (ve_int)))) (vg_val (ve_int)))) (vss_one (vs_ret (ve_bin op_modN opn_mod (vg_val (ve_bin opr_mulA opn_mul (vg_val (nv 2)) (vg_val (nv 2)))) (vg_val (ve_int))))))) mono_Lmixed rd_Lmixed
theorem sc_Lnames : FnScope ["_law_cell_here", "_law_some"] ["_law_cell_here"] (defScope s_Lnames) := ⟨rfl, rfl, rfl, by decide +kernel, rfl, by decide +kernel, by decide +kernel⟩
theorem F_Lnames {P : Program} {w : World} {K : PySem.W.Frag} {mg : Str → Option Value} {base : Heap} (c : Hd K mg) : Fv P w K mg base "_law_names" 1 1 sp_Lnames :=
  Fv.mk2 (κ := [true]) (t := t_Lnames) c.f_Lnames sc_Lnames (fun F => F.bindsN fun _ _ _ _ _ _ us hl => match us, hl with | [_], _ => rfl) rfl (by decide)
    (fun f cdv A outer s H E hr => let sc := sc_Lnames; (vss_cons (sa 1 sc.nd (ve_lst (va_cons (vg_val (ve_lst (va_cons (vg_val ((ve_str rfl))) (va_cons (vg_val ((ve_str rfl))) (va_cons (vg_val ((ve_str rfl))) (va_cons (vg_val ((ve_str rfl))) (va_nil))))))) (va_cons (vg_val (ve_lst (va_cons (vg_val ((ve_str rfl))) (va_cons (vg_val ((ve_str rfl))) (va_cons (vg_val ((ve_str rfl))) (va_cons (vg_val ((ve_str rfl))) (va_nil))))))) (va_cons (vg_val (ve_lst (va_cons (vg_val ((ve_str rfl))) (va_cons (vg_val ((ve_str rfl))) (va_cons (vg_val ((ve_str rfl))) (va_cons (vg_val ((ve_str rfl))) (va_nil))))))) (va_nil)))))) (vss_cons (vs_expr (m_app 1 (va_cons (vg_val (ve_lst (va_cons (vg_val ((ve_str rfl))) (va_cons (vg_val ((ve_str rfl))) (va_cons (vg_val ((ve_str rfl))) (va_cons (vg_val ((ve_str rfl))) (va_nil))))))) (va_nil)))) (vss_one (vs_ret (ve_ix hr (vg_val (nf 1)) (vg_val (ve_bin op_modN opn_mod (vg_val (nv 0)) (vg_val (ve_int)))) (fun _ _ => rfl))))))) mono_Lnames rd_Lnames
theorem sc_Loperand : FnScope ["_law_number", "_law_cell_here", "_law_names_here"] ["_law_number", "_law_cell_here", "_law_names_here"] (defScope s_Loperand) := ⟨rfl, rfl, rfl, by decide +kernel, rfl, by decide +kernel, by decide +kernel⟩
theorem F_Loperand {P : Program} {w : World} {K : PySem.W.Frag} {mg : Str → Option Value} {base : Heap} (c : Hd K mg) : Fv P w K mg base "_law_operand" 1 3 sp_Loperand :=
  Fv.mk2 (κ := [true, true, true]) (t := t_Loperand) c.f_Loperand sc_Loperand (fun F => F.bindsN fun _ _ _ _ _ _ us hl => match us, hl with | [_, _, _], _ => rfl) rfl (by decide)
    (fun f cdv A outer s H E hr => let sc := sc_Loperand; (vss_cons (vs_if (vt_cmp (opr_eq hr) opn_eq (vg_val (ve_bin op_modN opn_mod (vg_val (nv 0)) (vg_val (ve_int)))) (vg_val (ve_int)) rfl) (vss_one (vs_ret (ve_bin op_sub opn_sub (vg_val (ve_bin op_modN opn_mod (vg_val (nv 1)) (vg_val (ve_bin opr_add opn_add (vg_val (ve_bin opr_mulA opn_mul (vg_val (ve_int)) (vg_val (ve_bin op_pow opn_pow (vg_val (ve_int)) (vg_val (ve_int)))))) (vg_val (ve_int)))))) (vg_val (ve_bin op_pow opn_pow (vg_val (ve_int)) (vg_val (ve_int))))))) (vss_nil)) (vss_cons (vs_if (vt_cmp op_lt opn_lt (vg_val (ve_bin op_modN opn_mod (vg_val (nv 0)) (vg_val (ve_int)))) (vg_val (ve_int)) rfl) (vss_one (vs_ret (ve_bin op_sub opn_sub (vg_val (ve_bin op_modN opn_mod (vg_val (ve_bin opr_div opn_div (vg_val (nv 0)) (vg_val (ve_int)))) (vg_val (ve_int)))) (vg_val (ve_int))))) (vss_nil)) (vss_one (vs_ret (ve_ix hr (vg_val (nv 2)) (vg_val (ve_bin op_modN opn_mod (vg_val (ve_bin opr_div opn_div (vg_val (nv 0)) (vg_val (ve_int)))) (vg_val (ve_int)))) (fun _ _ => rfl))))))) mono_Loperand rd_Loperand
theorem sc_Lcome : FnScope ["_law_rows_here", "_law_numbers", "_law_at", "_law_seen"] ["_law_rows_here", "_law_numbers", "_law_at"] (defScope s_Lcome) := ⟨rfl, rfl, rfl, by decide +kernel, rfl, by decide +kernel, by decide +kernel⟩
theorem F_Lcome {P : Program} {w : World} {K : PySem.W.Frag} {mg : Str → Option Value} {base : Heap} (c : Hd K mg) : Fv P w K mg base "_law_come" 1 3 sp_Lcome :=
  Fv.mk2 (κ := [true, true, false]) (t := t_Lcome) c.f_Lcome sc_Lcome (fun F => F.bindsN fun _ _ _ _ _ _ us hl => match us, hl with | [_, _, _], _ => rfl) rfl (by decide)
    (fun f cdv A outer s H E hr => let sc := sc_Lcome; (vss_cons (sa 3 sc.nd (ve_lst (va_nil))) (vss_cons (vs_while (passes_of rfl) (vt_w (vw_and (vt_cmp (opr_eq hr) opn_eq (vg_val (ve_ix hr (vg_val (ve_ix hr (vg_val (nv 0)) (vg_val (nv 2)) (fun _ _ => rfl))) (vg_val (ve_int)) (fun _ _ => rfl))) (vg_val ((ve_str rfl))) rfl) (vw_and1 (vt_cmpW (opr_notIn hr) opn_in (wv_name 2) (wv_name 3) rfl)))) (vss_cons (vs_expr (m_app 3 (va_cons (vg_val (nv 2)) (va_nil)))) (vss_one (sa 2 sc.nd (ve_view (wv_meth PySem.F.plainAttrs_list PySem.F.slot_list_index PySem.F.type_list_index (mt_indexA hr) opn_index (wv_name 1) (wvs_cons (wv_ix hr (wv_ix hr (wv_name 0) (wv_name 2) (fun _ _ => rfl)) (wv_int) (fun _ _ => rfl)) (wvs_nil)))))))) (vss_cons (vs_if (vt_cmp (opr_eq hr) opn_eq (vg_val (ve_ix hr (vg_val (ve_ix hr (vg_val (nv 0)) (vg_val (nv 2)) (fun _ _ => rfl))) (vg_val (ve_int)) (fun _ _ => rfl))) (vg_val ((ve_str rfl))) rfl) (vss_one (vs_ret (ve_callB (cr_min rfl) opn_minL rfl c.b_min rfl (va_cons (vg_val (ve_slice (vg_val (nf 3)) (vo_some (ve_view (wv_meth PySem.F.plainAttrs_list PySem.F.slot_list_index PySem.F.type_list_index (mt_indexA hr) opn_index (wv_name 3) (wvs_cons (wv_name 2) (wvs_nil))))) (vo_none))) (va_nil))))) (vss_nil)) (vss_one (vs_ret (nv 2))))))) mono_Lcome rd_Lcome
theorem sc_Ldue_head : FnScope ["_law_row_here"] ["_law_row_here"] (defScope s_Ldue_head) := ⟨rfl, rfl, rfl, by decide +kernel, rfl, by decide +kernel, by decide +kernel⟩
theorem F_Ldue_head {P : Program} {w : World} {K : PySem.W.Frag} {mg : Str → Option Value} {base : Heap} (c : Hd K mg) : Fv P w K mg base "_law_due_head" 1 1 sp_Ldue_head :=
  Fv.mk2 (κ := [true]) (t := t_Ldue_head) c.f_Ldue_head sc_Ldue_head (fun F => F.bindsN fun _ _ _ _ _ _ us hl => match us, hl with | [_], _ => rfl) rfl (by decide)
    (fun f cdv A outer s H E hr => let sc := sc_Ldue_head; (vss_cons (vs_if (vt_cmp (opr_eq hr) opn_eq (vg_val (ve_ix hr (vg_val (nv 0)) (vg_val (ve_int)) (fun _ _ => rfl))) (vg_val ((ve_str rfl))) rfl) (vss_one (vs_ret (ve_tup (va_cons (vg_val ((ve_str rfl))) (va_cons (vg_val (ve_ix hr (vg_val (nv 0)) (vg_val (ve_int)) (fun _ _ => rfl))) (va_cons (vg_val (ve_ix hr (vg_val (nv 0)) (vg_val (ve_int)) (fun _ _ => rfl))) (va_cons (vg_val (ve_ix hr (vg_val (nv 0)) (vg_val (ve_int)) (fun _ _ => rfl))) (va_cons (vg_val (ve_ix hr (vg_val (nv 0)) (vg_val (ve_int)) (fun _ _ => rfl))) (va_nil))))))))) (vss_nil)) (vss_cons (vs_if (vt_cmp (opr_eq hr) opn_eq (vg_val (ve_ix hr (vg_val (nv 0)) (vg_val (ve_int)) (fun _ _ => rfl))) (vg_val ((ve_str rfl))) rfl) (vss_one (vs_ret (ve_tup (va_cons (vg_val ((ve_str rfl))) (va_cons (vg_val (ve_ix hr (vg_val (nv 0)) (vg_val (ve_int)) (fun _ _ => rfl))) (va_cons (vg_val (ve_ix hr (vg_val (nv 0)) (vg_val (ve_int)) (fun _ _ => rfl))) (va_cons (vg_val (ve_ix hr (vg_val (nv 0)) (vg_val (ve_int)) (fun _ _ => rfl))) (va_nil)))))))) (vss_nil)) (vss_cons (vs_if (vt_cmp (opr_eq hr) opn_eq (vg_val (ve_ix hr (vg_val (nv 0)) (vg_val (ve_int)) (fun _ _ => rfl))) (vg_val ((ve_str rfl))) rfl) (vss_one (vs_ret (ve_tup (va_cons (vg_val ((ve_str rfl))) (va_nil))))) (vss_nil)) (vss_one (vs_ret (ve_tup (va_cons (vg_val ((ve_str rfl))) (va_nil))))))))) mono_Ldue_head rd_Ldue_head
theorem sc_Lring : FnScope ["_law_first", "_law_second", "_law_many", "_law_step", "_law_begin", "_law_rows_here", "_law_k"] ["_law_first", "_law_second"] (defScope s_Lring) := ⟨rfl, rfl, rfl, by decide +kernel, rfl, by decide +kernel, by decide +kernel⟩
theorem F_Lring {P : Program} {w : World} {K : PySem.W.Frag} {mg : Str → Option Value} {base : Heap} (c : Hd K mg) : Fv P w K mg base "_law_ring" 1 2 sp_Lring :=
  Fv.mk2 (κ := [true, true]) (t := t_Lring) c.f_Lring sc_Lring (fun F => F.bindsN fun _ _ _ _ _ _ us hl => match us, hl with | [_, _], _ => rfl) rfl (by decide)
    (fun f cdv A outer s H E hr => let sc := sc_Lring; (vss_cons (sa 2 sc.nd (ve_bin opr_add opn_add (vg_val (ve_int)) (vg_val (ve_bin op_modN opn_mod (vg_val (nv 0)) (vg_val (ve_int)))))) (vss_cons (sa 3 sc.nd (ve_bin op_modN opn_mod (vg_val (ve_bin opr_div opn_div (vg_val (nv 0)) (vg_val (ve_int)))) (vg_val (nv 2)))) (vss_cons (sa 4 sc.nd (ve_bin opr_add opn_add (vg_val (ve_int)) (vg_val (ve_bin op_modN opn_mod (vg_val (ve_bin opr_div opn_div (vg_val (nv 0)) (vg_val (ve_int)))) (vg_val (ve_int)))))) (vss_cons (sa 5 sc.nd (ve_lst (va_cons (vg_val (ve_tup (va_cons (vg_val (ve_int)) (va_cons (vg_val ((ve_str rfl))) (va_cons (vg_val ((ve_str rfl))) (va_cons (vg_val ((ve_str rfl))) (va_cons (vg_val (ve_bin op_modN opn_mod (vg_val (nv 0)) (vg_val (ve_bin op_pow opn_pow (vg_val (ve_int)) (vg_val (ve_int)))))) (va_cons (vg_val (ve_bin opr_add opn_add (vg_val (nv 4)) (vg_val (ve_bin op_modN opn_mod (vg_val (nv 1)) (vg_val (nv 2)))))) (va_nil))))))))) (va_nil)))) (vss_cons (vs_expr (m_app 5 (va_cons (vg_val (ve_tup (va_cons (vg_val (ve_int)) (va_cons (vg_val ((ve_str rfl))) (va_cons (vg_val ((ve_str rfl))) (va_cons (vg_val ((ve_str rfl))) (va_cons (vg_val ((ve_str rfl))) (va_cons (vg_val (ve_bin op_modN opn_mod (vg_val (nv 1)) (vg_val (ve_bin op_pow opn_pow (vg_val (ve_int)) (vg_val (ve_int)))))) (va_nil))))))))) (va_nil)))) (vss_cons (vs_expr (m_app 5 (va_cons (vg_val (ve_tup (va_cons (vg_val (ve_int)) (va_cons (vg_val ((ve_str rfl))) (va_cons (vg_val (ve_bin opr_add opn_add (vg_val (nv 4)) (vg_val (ve_bin op_modN opn_mod (vg_val (ve_bin opr_div opn_div (vg_val (nv 1)) (vg_val (ve_int)))) (vg_val (nv 2)))))) (va_nil)))))) (va_nil)))) (vss_cons (vs_for (passes_of rfl) rfl (vi_range1 rfl c.b_range (va_cons (vg_val (nv 2)) (va_nil))) (tn 6 sc.nd) (vss_one (vs_expr (m_app 5 (va_cons (vg_val (ve_tup (va_cons (vg_val (ve_bin opr_add opn_add (vg_val (nv 4)) (vg_val (nv 6)))) (va_cons (vg_val ((ve_str rfl))) (va_cons (vg_val (ve_bin opr_add opn_add (vg_val (nv 4)) (vg_val (ve_bin op_modN opn_mod (vg_val (ve_bin opr_add opn_add (vg_val (nv 6)) (vg_val (nv 3)))) (vg_val (nv 2)))))) (va_nil)))))) (va_nil)))))) (vss_one (vs_ret (nm 5))))))))))) mono_Lring rd_Lring
theorem sc_node_of : FnScope ["rows", "places", "at", "row", "yes"] ["rows", "places", "at"] (defScope s_node_of) := ⟨rfl, rfl, rfl, by decide +kernel, rfl, by decide +kernel, by decide +kernel⟩
theorem F_node_of {P : Program} {w : World} {K : PySem.W.Frag} {mg : Str → Option Value} {base : Heap} (c : Hd K mg) : Fv P w K mg base "node_of" 2 3 sp_node_of :=
  Fv.mk2 (κ := [true, true, true]) (t := t_node_of) c.f_node_of sc_node_of (fun F => F.bindsN fun _ _ _ _ _ _ us hl => match us, hl with | [_, _, _], _ => rfl) rfl (by decide)
    (fun f cdv A outer s H E hr => let sc := sc_node_of; (vss_cons (sa 3 sc.nd (ve_ix hr (vg_val (nv 0)) (vg_val (nv 2)) (fun _ _ => rfl))) (vss_cons (vs_if (vt_cmp (opr_eq hr) opn_eq (vg_val (ve_ix hr (vg_val (nv 3)) (vg_val (ve_int)) (fun _ _ => rfl))) (vg_val ((ve_str rfl))) rfl) (vss_one (vs_ret (ve_tup (va_cons (vg_val ((ve_str rfl))) (va_cons (vg_val (ve_ix hr (vg_val (nv 3)) (vg_val (ve_int)) (fun _ _ => rfl))) (va_cons (vg_val (ve_ix hr (vg_val (nv 3)) (vg_val (ve_int)) (fun _ _ => rfl))) (va_cons (vg_val (ve_ix hr (vg_val (nv 3)) (vg_val (ve_int)) (fun _ _ => rfl))) (va_cons (vg_val (ve_ix hr (vg_val (nv 3)) (vg_val (ve_int)) (fun _ _ => rfl))) (va_cons (vg_val (ve_call (F_come_to c) mono_come_to (hr.mono (by omega)) rfl rfl (va_cons (vg_val (nv 0)) (va_cons (vg_val (nv 1)) (va_cons (vg_val (ve_bin opr_add opn_add (vg_val (nv 2)) (vg_val (ve_int)))) (va_nil)))))) (va_nil)))))))))) (vss_nil)) (vss_cons (vs_if (vt_cmp (opr_eq hr) opn_eq (vg_val (ve_ix hr (vg_val (nv 3)) (vg_val (ve_int)) (fun _ _ => rfl))) (vg_val ((ve_str rfl))) rfl) (vss_cons (sa 4 sc.nd (ve_call (F_come_to c) mono_come_to (hr.mono (by omega)) rfl rfl (va_cons (vg_val (nv 0)) (va_cons (vg_val (nv 1)) (va_cons (vg_val (ve_ix hr (vg_val (nv 1)) (vg_val (ve_ix hr (vg_val (nv 3)) (vg_val (ve_int)) (fun _ _ => rfl))) (fun _ _ => rfl))) (va_nil)))))) (vss_one (vs_ret (ve_tup (va_cons (vg_val ((ve_str rfl))) (va_cons (vg_val (ve_ix hr (vg_val (nv 3)) (vg_val (ve_int)) (fun _ _ => rfl))) (va_cons (vg_val (ve_ix hr (vg_val (nv 3)) (vg_val (ve_int)) (fun _ _ => rfl))) (va_cons (vg_val (ve_ix hr (vg_val (nv 3)) (vg_val (ve_int)) (fun _ _ => rfl))) (va_cons (vg_val (nv 4)) (va_cons (vg_val (ve_call (F_come_to c) mono_come_to (hr.mono (by omega)) rfl rfl (va_cons (vg_val (nv 0)) (va_cons (vg_val (nv 1)) (va_cons (vg_val (ve_bin opr_add opn_add (vg_val (nv 2)) (vg_val (ve_int)))) (va_nil)))))) (va_nil))))))))))) (vss_nil)) (vss_cons (vs_if (vt_cmp (opr_eq hr) opn_eq (vg_val (ve_ix hr (vg_val (nv 3)) (vg_val (ve_int)) (fun _ _ => rfl))) (vg_val ((ve_str rfl))) rfl) (vss_one (vs_ret (ve_tup (va_cons (vg_val ((ve_str rfl))) (va_nil))))) (vss_nil)) (vss_one (vs_ret (ve_tup (va_cons (vg_val ((ve_str rfl))) (va_nil)))))))))) mono_node_of rd_node_of
theorem sc_finished_last : FnScope ["raw", "start", "begun", "trail", "done", "top", "goals", "goal"] ["raw", "start"] (defScope s_finished_last) := ⟨rfl, rfl, rfl, by decide +kernel, rfl, by decide +kernel, by decide +kernel⟩
theorem F_finished_last {P : Program} {w : World} {K : PySem.W.Frag} {mg : Str → Option Value} {base : Heap} (c : Hd K mg) : Fv P w K mg base "finished_last" 2 2 sp_finished_last :=
  Fv.mk2 (κ := [true, true]) (t := t_finished_last) c.f_finished_last sc_finished_last (fun F => F.bindsN fun _ _ _ _ _ _ us hl => match us, hl with | [_, _], _ => rfl) rfl (by decide)
    (fun f cdv A outer s H E hr => let sc := sc_finished_last; (vss_cons (sa 2 sc.nd (ve_disp1 (i := 1) rfl (by first | exact Or.inl rfl | exact Or.inr (Or.inl rfl) | exact Or.inr (Or.inr rfl)) pe_bl (fun _ _ => ⟨rfl, rfl⟩))) (vss_cons (sa 3 sc.nd (ve_lst (va_cons (vg_val (ve_lst (va_cons (vg_val (nv 1)) (va_cons (vg_val (ve_int)) (va_nil))))) (va_nil)))) (vss_cons (sa 4 sc.nd (ve_lst (va_nil))) (vss_cons (vs_while (passes_of rfl) (vt_cmpW (opr_ne hr) opn_ne (wv_name 3) (wv_lst (wvs_nil)) rfl) (vss_cons (sa 5 sc.nd (ve_bor (i := 3) (vq_un un_neg opn_neg (vq_int)) (fun _ _ => rfl))) (vss_cons (sa 6 sc.nd (ve_listRevT rfl rfl c.b_list rfl c.b_reversed (vg_val (ve_call (F_ways c) mono_ways (hr.mono (by omega)) rfl rfl (va_cons (vg_val (ve_ix hr (vg_val (nv 0)) (vg_val (ve_ix hr (ng 5) (vg_val (ve_int)) (fun _ _ => rfl))) (fun _ _ => rfl))) (va_nil)))))) (vss_cons (vs_if (vt_cmpW (opr_eq hr) opn_eq (wv_ix hr (wv_name 5) (wv_int) (fun _ _ => rfl)) (wv_callB call_lenA opn_len rfl c.b_len rfl (wvs_cons (wv_name 6) (wvs_nil))) rfl) (vss_cons (vs_expr (m_app 4 (va_cons (vg_val (ve_ix hr (ng 5) (vg_val (ve_int)) (fun _ _ => rfl))) (va_nil)))) (vss_give (i := 3) (j := 5) (vss_cons (vs_expr (mp_pop (np 3))) (vss_one (vs_cnt))))) (vss_nil)) (vss_cons (sa 7 sc.nd (ve_view (wv_ix hr (wv_name 6) (wv_ix hr (wv_name 5) (wv_int) (fun _ _ => rfl)) (fun _ _ => rfl)))) (vss_cons (vs_augP hr iop_add (np 5) (vq_int) (vq_int)) (vss_give (i := 3) (j := 5) (vss_one (vs_if (vt_cmpW (opr_notIn hr) opn_in (wv_name 7) (wv_name 2) rfl) (vss_cons (vs_set hr (ve_bl) (np 2) (nq 7)) (vss_one (vs_expr (m_app 3 (va_cons (vg_val (ve_lst (va_cons (vg_val (nv 7)) (va_cons (vg_val (ve_int)) (va_nil))))) (va_nil)))))) (vss_nil)))))))))) (vss_one (vs_ret (ve_listRev rfl rfl c.b_list rfl c.b_reversed (ng 4))))))))) mono_finished_last rd_finished_last
theorem sc_renumbered : FnScope ["raw", "order", "place", "k", "old"] ["raw", "order"] (defScope s_renumbered) := ⟨rfl, rfl, rfl, by decide +kernel, rfl, by decide +kernel, by decide +kernel⟩
theorem F_renumbered {P : Program} {w : World} {K : PySem.W.Frag} {mg : Str → Option Value} {base : Heap} (c : Hd K mg) : Fv P w K mg base "renumbered" 2 2 sp_renumbered :=
  Fv.mk2 (κ := [true, true]) (t := t_renumbered) c.f_renumbered sc_renumbered (fun F => F.bindsN fun _ _ _ _ _ _ us hl => match us, hl with | [_, _], _ => rfl) rfl (by decide)
    (fun f cdv A outer s H E hr => let sc := sc_renumbered; (vss_cons (sa 2 sc.nd (ve_dK)) (vss_cons (vs_for (passes_of rfl) rfl (vi_enum rfl c.b_enumerate (va_cons (vg_val (nv 1)) (va_nil))) (vt_names (n := 0) rfl (vns_cons (i := 3) sc.nd rfl (by first | exact Or.inl rfl | exact Or.inr rfl) (ne_of_beq_false rfl) (vns_cons (i := 4) sc.nd rfl (by first | exact Or.inl rfl | exact Or.inr rfl) (ne_of_beq_false rfl) (vns_nil)))) (vss_one (vs_set hr (nv 3) (np 2) (nq 4)))) (vss_one (vs_ret (ve_lc (own := [("old", 4)]) rfl sc.nd (blkOk_by (by first | rfl | decide +kernel)) (kap_of rfl) (vi_lst (nv 1)) (fun bi => vto_name (by decide) sc.nd rfl (by first | exact Or.inl rfl | exact Or.inr rfl) (ne_of_beq_false rfl)) (fun bi => vts_nil) (fun bi => ve_call (F_moved c) mono_moved (hr.mono (by omega)) rfl rfl (va_cons (vg_val (ve_ix hr (vg_val (nv 0)) (vg_val (nv 4)) (fun _ _ => rfl))) (va_cons (vg_val (nf 2)) (va_nil)))))))))) mono_renumbered rd_renumbered
theorem sc_Lrow : FnScope ["_law_cell_here", "_law_k", "_law_numbers", "_law_names_here", "_law_number", "_law_one", "_law_other", "_law_to", "_law_sign"] ["_law_cell_here", "_law_k", "_law_numbers", "_law_names_here"] (defScope s_Lrow) := ⟨rfl, rfl, rfl, by decide +kernel, rfl, by decide +kernel, by decide +kernel⟩
theorem F_Lrow {P : Program} {w : World} {K : PySem.W.Frag} {mg : Str → Option Value} {base : Heap} (c : Hd K mg) : Fv P w K mg base "_law_row" 2 4 sp_Lrow :=
  Fv.mk2 (κ := [true, true, true, true]) (t := t_Lrow) c.f_Lrow sc_Lrow (fun F => F.bindsN fun _ _ _ _ _ _ us hl => match us, hl with | [_, _, _, _], _ => rfl) rfl (by decide)
    (fun f cdv A outer s H E hr => let sc := sc_Lrow; (vss_cons (sa 4 sc.nd (ve_call (F_Lmixed c) mono_Lmixed (hr.mono (by omega)) rfl rfl (va_cons (vg_val (nv 0)) (va_cons (vg_val (nv 1)) (va_nil))))) (vss_cons (sa 5 sc.nd (ve_call (F_Loperand c) mono_Loperand (hr.mono (by omega)) rfl rfl (va_cons (vg_val (ve_bin opr_div opn_div (vg_val (nv 4)) (vg_val (ve_int)))) (va_cons (vg_val (nv 0)) (va_cons (vg_val (nv 3)) (va_nil)))))) (vss_cons (sa 6 sc.nd (ve_call (F_Loperand c) mono_Loperand (hr.mono (by omega)) rfl rfl (va_cons (vg_val (ve_bin opr_div opn_div (vg_val (nv 4)) (vg_val (ve_int)))) (va_cons (vg_val (ve_bin opr_div opn_div (vg_val (nv 0)) (vg_val (ve_int)))) (va_cons (vg_val (nv 3)) (va_nil)))))) (vss_cons (sa 7 sc.nd (ve_ix hr (vg_val (nv 2)) (vg_val (ve_bin op_modN opn_mod (vg_val (ve_bin opr_div opn_div (vg_val (nv 4)) (vg_val (ve_int)))) (vg_val (ve_callB call_lenA opn_len rfl c.b_len rfl (va_cons (vg_val (nv 2)) (va_nil)))))) (fun _ _ => rfl))) (vss_cons (vs_if (vt_cmp op_lt opn_lt (vg_val (ve_bin op_modN opn_mod (vg_val (nv 4)) (vg_val (ve_int)))) (vg_val (ve_int)) rfl) (vss_cons (sa 8 sc.nd (ve_ix hr (vg_val (ve_lst (va_cons (vg_val ((ve_str rfl))) (va_cons (vg_val ((ve_str rfl))) (va_cons (vg_val ((ve_str rfl))) (va_cons (vg_val ((ve_str rfl))) (va_cons (vg_val ((ve_str rfl))) (va_cons (vg_val ((ve_str rfl))) (va_nil))))))))) (vg_val (ve_bin op_modN opn_mod (vg_val (ve_bin opr_div opn_div (vg_val (nv 4)) (vg_val (ve_int)))) (vg_val (ve_int)))) (fun _ _ => rfl))) (vss_one (vs_ret (ve_tup (va_cons (vg_val (ve_ix hr (vg_val (nv 2)) (vg_val (nv 1)) (fun _ _ => rfl))) (va_cons (vg_val ((ve_str rfl))) (va_cons (vg_val (ve_ix hr (vg_val (nv 3)) (vg_val (ve_bin op_modN opn_mod (vg_val (ve_bin opr_div opn_div (vg_val (nv 4)) (vg_val (ve_int)))) (vg_val (ve_int)))) (fun _ _ => rfl))) (va_cons (vg_val (nv 5)) (va_cons (vg_val (nv 8)) (va_cons (vg_val (nv 6)) (va_nil))))))))))) (vss_nil)) (vss_cons (vs_if (vt_cmp op_lt opn_lt (vg_val (ve_bin op_modN opn_mod (vg_val (nv 4)) (vg_val (ve_int)))) (vg_val (ve_int)) rfl) (vss_one (vs_ret (ve_tup (va_cons (vg_val (ve_ix hr (vg_val (nv 2)) (vg_val (nv 1)) (fun _ _ => rfl))) (va_cons (vg_val ((ve_str rfl))) (va_cons (vg_val (nv 5)) (va_cons (vg_val (ve_ix hr (vg_val (ve_lst (va_cons (vg_val ((ve_str rfl))) (va_cons (vg_val ((ve_str rfl))) (va_nil))))) (vg_val (ve_bin op_modN opn_mod (vg_val (ve_bin opr_div opn_div (vg_val (nv 4)) (vg_val (ve_int)))) (vg_val (ve_int)))) (fun _ _ => rfl))) (va_cons (vg_val (nv 6)) (va_cons (vg_val (nv 7)) (va_nil)))))))))) (vss_nil)) (vss_cons (vs_if (vt_cmp op_lt opn_lt (vg_val (ve_bin op_modN opn_mod (vg_val (nv 4)) (vg_val (ve_int)))) (vg_val (ve_int)) rfl) (vss_one (vs_ret (ve_tup (va_cons (vg_val (ve_ix hr (vg_val (nv 2)) (vg_val (nv 1)) (fun _ _ => rfl))) (va_cons (vg_val ((ve_str rfl))) (va_cons (vg_val (nv 7)) (va_nil))))))) (vss_nil)) (vss_one (vs_ret (ve_tup (va_cons (vg_val (ve_ix hr (vg_val (nv 2)) (vg_val (nv 1)) (fun _ _ => rfl))) (va_cons (vg_val ((ve_str rfl))) (va_nil)))))))))))))) mono_Lrow rd_Lrow
theorem sc_Ldue_ways : FnScope ["_law_rows_here", "_law_numbers", "_law_at", "_law_yes"] ["_law_rows_here", "_law_numbers", "_law_at"] (defScope s_Ldue_ways) := ⟨rfl, rfl, rfl, by decide +kernel, rfl, by decide +kernel, by decide +kernel⟩
theorem F_Ldue_ways {P : Program} {w : World} {K : PySem.W.Frag} {mg : Str → Option Value} {base : Heap} (c : Hd K mg) : Fv P w K mg base "_law_due_ways" 2 3 sp_Ldue_ways :=
  Fv.mk2 (κ := [true, true, true]) (t := t_Ldue_ways) c.f_Ldue_ways sc_Ldue_ways (fun F => F.bindsN fun _ _ _ _ _ _ us hl => match us, hl with | [_, _, _], _ => rfl) rfl (by decide)
    (fun f cdv A outer s H E hr => let sc := sc_Ldue_ways; (vss_cons (vs_if (vt_cmp (opr_eq hr) opn_eq (vg_val (ve_ix hr (vg_val (ve_ix hr (vg_val (nv 0)) (vg_val (nv 2)) (fun _ _ => rfl))) (vg_val (ve_int)) (fun _ _ => rfl))) (vg_val ((ve_str rfl))) rfl) (vss_one (vs_ret (ve_lst (va_cons (vg_val (ve_call (F_Lcome c) mono_Lcome (hr.mono (by omega)) rfl rfl (va_cons (vg_val (nv 0)) (va_cons (vg_val (nv 1)) (va_cons (vg_val (ve_bin opr_add opn_add (vg_val (nv 2)) (vg_val (ve_int)))) (va_nil)))))) (va_nil))))) (vss_nil)) (vss_cons (vs_if (vt_cmp (opr_eq hr) opn_eq (vg_val (ve_ix hr (vg_val (ve_ix hr (vg_val (nv 0)) (vg_val (nv 2)) (fun _ _ => rfl))) (vg_val (ve_int)) (fun _ _ => rfl))) (vg_val ((ve_str rfl))) rfl) (vss_cons (sa 3 sc.nd (ve_call (F_Lcome c) mono_Lcome (hr.mono (by omega)) rfl rfl (va_cons (vg_val (nv 0)) (va_cons (vg_val (nv 1)) (va_cons (vg_val (ve_view (wv_meth PySem.F.plainAttrs_list PySem.F.slot_list_index PySem.F.type_list_index (mt_indexA hr) opn_index (wv_name 1) (wvs_cons (wv_ix hr (wv_ix hr (wv_name 0) (wv_name 2) (fun _ _ => rfl)) (wv_int) (fun _ _ => rfl)) (wvs_nil))))) (va_nil)))))) (vss_one (vs_ret (ve_lst (va_cons (vg_val (nv 3)) (va_cons (vg_val (ve_call (F_Lcome c) mono_Lcome (hr.mono (by omega)) rfl rfl (va_cons (vg_val (nv 0)) (va_cons (vg_val (nv 1)) (va_cons (vg_val (ve_bin opr_add opn_add (vg_val (nv 2)) (vg_val (ve_int)))) (va_nil)))))) (va_nil))))))) (vss_nil)) (vss_one (vs_ret (ve_lst (va_nil))))))) mono_Ldue_ways rd_Ldue_ways
theorem sc_graph_of : FnScope ["rows", "places", "at", "row", "raw", "order"] ["rows"] (defScope s_graph_of) := ⟨rfl, rfl, rfl, by decide +kernel, rfl, by decide +kernel, by decide +kernel⟩
theorem F_graph_of {P : Program} {w : World} {K : PySem.W.Frag} {mg : Str → Option Value} {base : Heap} (c : Hd K mg) : Fv P w K mg base "graph_of" 3 1 sp_graph_of :=
  Fv.mk2 (κ := [true]) (t := t_graph_of) c.f_graph_of sc_graph_of (fun F => F.bindsN fun _ _ _ _ _ _ us hl => match us, hl with | [_], _ => rfl) rfl (by decide)
    (fun f cdv A outer s H E hr => let sc := sc_graph_of; (vss_cons (sa 1 sc.nd (ve_dK)) (vss_cons (vs_for (passes_of rfl) rfl (vi_enum rfl c.b_enumerate (va_cons (vg_val (nv 0)) (va_nil))) (vt_names (n := 0) rfl (vns_cons (i := 2) sc.nd rfl (by first | exact Or.inl rfl | exact Or.inr rfl) (ne_of_beq_false rfl) (vns_cons (i := 3) sc.nd rfl (by first | exact Or.inl rfl | exact Or.inr rfl) (ne_of_beq_false rfl) (vns_nil)))) (vss_one (vs_set hr (nv 2) (np 1) (vq_ix hr (nq 3) (vq_int) (fun _ _ => rfl))))) (vss_cons (vs_setLcF (own := [("at", 2)]) (i := 4) rfl sc.nd (blkOk_by (by first | rfl | decide +kernel)) (kap_of rfl) (vi_range1 rfl c.b_range (va_cons (vg_val (ve_callB call_lenA opn_len rfl c.b_len rfl (va_cons (vg_val (nv 0)) (va_nil)))) (va_nil))) (fun bi => vto_name (by decide) sc.nd rfl (by first | exact Or.inl rfl | exact Or.inr rfl) (ne_of_beq_false rfl)) (fun bi => vts_nil) (fun bi => ve_call (F_node_of c) mono_node_of (hr.mono (by omega)) rfl rfl (va_cons (vg_val (nv 0)) (va_cons (vg_val (nf 1)) (va_cons (vg_val (nv 2)) (va_nil))))) rfl rfl (ne_of_beq_false rfl) (sw_true rfl rfl rfl (by decide +kernel))) (vss_cons (sa 5 sc.nd (ve_still (ve_call (F_finished_last c) mono_finished_last (hr.mono (by omega)) rfl rfl (va_cons (vg_val (nv 4)) (va_cons (vg_val (ve_call (F_come_to c) mono_come_to (hr.mono (by omega)) rfl rfl (va_cons (vg_val (nv 0)) (va_cons (vg_val (nf 1)) (va_cons (vg_val (ve_int)) (va_nil)))))) (va_nil)))))) (vss_cons (vs_if (vt_cmp op_gt opn_gt (vg_val (ve_callB call_lenA opn_len rfl c.b_len rfl (va_cons (vg_val (nv 5)) (va_nil)))) (vg_val ((ve_globI rfl c.g_MOST_NODES))) rfl) (vss_one (vs_never)) (vss_nil)) (vss_one (vs_ret (ve_call (F_renumbered c) mono_renumbered (hr.mono (by omega)) rfl rfl (va_cons (vg_val (nv 4)) (va_cons (vg_val (nv 5)) (va_nil)))))))))))) mono_graph_of rd_graph_of
theorem sc_Lrows : FnScope ["_law_cells", "_law_head", "_law_names_here", "_law_numbers", "_law_k", "_law_rows_here"] ["_law_cells", "_law_head"] (defScope s_Lrows) := ⟨rfl, rfl, rfl, by decide +kernel, rfl, by decide +kernel, by decide +kernel⟩
theorem F_Lrows {P : Program} {w : World} {K : PySem.W.Frag} {mg : Str → Option Value} {base : Heap} (c : Hd K mg) : Fv P w K mg base "_law_rows" 3 2 sp_Lrows :=
  Fv.mk2 (κ := [true, true]) (t := t_Lrows) c.f_Lrows sc_Lrows (fun F => F.bindsN fun _ _ _ _ _ _ us hl => match us, hl with | [_, _], _ => rfl) rfl (by decide)
    (fun f cdv A outer s H E hr => let sc := sc_Lrows; (vss_cons (sa 2 sc.nd (ve_call (F_Lnames c) mono_Lnames (hr.mono (by omega)) rfl rfl (va_cons (vg_val (nv 1)) (va_nil)))) (vss_cons (sa 3 sc.nd (ve_lst (va_cons (vg_val (ve_bin op_modN opn_mod (vg_val (ve_bin opr_div opn_div (vg_val (nv 1)) (vg_val (ve_int)))) (vg_val (ve_int)))) (va_nil)))) (vss_cons (vs_for (passes_of rfl) rfl (vi_range1 rfl c.b_range (va_cons (vg_val (ve_callB call_lenA opn_len rfl c.b_len rfl (va_cons (vg_val (nv 0)) (va_nil)))) (va_nil))) (tn 4 sc.nd) (vss_one (vs_expr (m_app 3 (va_cons (vg_val (ve_bin opr_add opn_add (vg_val (ve_view (wv_bin opr_add opn_add (wv_ix hr (wv_name 3) (wv_name 4) (fun _ _ => rfl)) (wv_int)))) (vg_val (ve_bin op_modN opn_mod (vg_val (ve_call (F_Lmixed c) mono_Lmixed (hr.mono (by omega)) rfl rfl (va_cons (vg_val (nv 1)) (va_cons (vg_val (nv 4)) (va_nil))))) (vg_val (ve_ix hr (vg_val (ve_lst (va_cons (vg_val (ve_int)) (va_cons (vg_val (ve_int)) (va_cons (vg_val (ve_int)) (va_nil)))))) (vg_val (ve_bin op_modN opn_mod (vg_val (ve_bin opr_div opn_div (vg_val (nv 1)) (vg_val (ve_int)))) (vg_val (ve_int)))) (fun _ _ => rfl))))))) (va_nil)))))) (vss_cons (vs_setLc (own := [("_law_k", 4)]) (i := 5) rfl sc.nd (blkOk_by (by first | rfl | decide +kernel)) (kap_of rfl) (vi_range1 rfl c.b_range (va_cons (vg_val (ve_callB call_lenA opn_len rfl c.b_len rfl (va_cons (vg_val (nv 0)) (va_nil)))) (va_nil))) (fun bi => vto_name (by decide) sc.nd rfl (by first | exact Or.inl rfl | exact Or.inr rfl) (ne_of_beq_false rfl)) (fun bi => vts_nil) (fun bi => ve_call (F_Lrow c) mono_Lrow (hr.mono (by omega)) rfl rfl (va_cons (vg_val (ve_ix hr (vg_val (nv 0)) (vg_val (nv 4)) (fun _ _ => rfl))) (va_cons (vg_val (nv 4)) (va_cons (vg_val (nf 3)) (va_cons (vg_val (nv 2)) (va_nil)))))) rfl rfl (ne_of_beq_false rfl) (sw_true rfl rfl rfl (by decide +kernel))) (vss_cons (vs_if (vt_cmp (opr_eq hr) opn_eq (vg_val (ve_bin op_modN opn_mod (vg_val (ve_bin opr_div opn_div (vg_val (nv 1)) (vg_val (ve_int)))) (vg_val (ve_int)))) (vg_val (ve_int)) rfl) (vss_one (vs_expr (m_app 5 (va_cons (vg_val (ve_tup (va_cons (vg_val (ve_ix hr (vg_val (nf 3)) (vg_val (ve_un un_neg opn_neg (vg_val (ve_int)))) (fun _ _ => rfl))) (va_cons (vg_val ((ve_str rfl))) (va_cons (vg_val (ve_view (wv_ix hr (wv_name 3) (wv_bin op_modN opn_mod (wv_bin opr_div opn_div (wv_name 1) (wv_int)) (wv_callB call_lenA opn_len rfl c.b_len rfl (wvs_cons (wv_name 3) (wvs_nil)))) (fun _ _ => rfl)))) (va_nil)))))) (va_nil))))) (vss_one (vs_expr (m_app 5 (va_cons (vg_val (ve_tup (va_cons (vg_val (ve_ix hr (vg_val (nf 3)) (vg_val (ve_un un_neg opn_neg (vg_val (ve_int)))) (fun _ _ => rfl))) (va_cons (vg_val ((ve_str rfl))) (va_nil))))) (va_nil)))))) (vss_one (vs_ret (nm 5))))))))) mono_Lrows rd_Lrows
theorem sc_Lalike : FnScope ["_law_found", "_law_due", "_law_k"] ["_law_found", "_law_due"] (defScope s_Lalike) := ⟨rfl, rfl, rfl, by decide +kernel, rfl, by decide +kernel, by decide +kernel⟩
theorem F_Lalike {P : Program} {w : World} {K : PySem.W.Frag} {mg : Str → Option Value} {base : Heap} (c : Hd K mg) : ∀ n, Fv P w K mg base "_law_alike" (1 + 1 * n) 2 (sp_Lalike n)
  | 0 => Fv.mk2 (k := 0) (κ := [true, true]) (t := vNever) c.f_Lalike sc_Lalike (fun F => F.bindsN fun _ _ _ _ _ _ us hl => match us, hl with | [_, _], _ => rfl) rfl (by decide) (fun f cdv A outer s H E hr => vss_never) (mono_Lalike 0) (fun _ _ _ _ h => h.elim)
  | n + 1 => Fv.mk2 (k := 1 + 1 * n) (κ := [true, true]) (t := t_Lalike n) c.f_Lalike sc_Lalike (fun F => F.bindsN fun _ _ _ _ _ _ us hl => match us, hl with | [_, _], _ => rfl) rfl (by decide)
    (fun f cdv A outer s H E hr => let sc := sc_Lalike; let ih := F_Lalike (P := P) (w := w) (base := base) c n; (vss_cons (vs_if (vt_cmp op_isN opn_isN (vg_val (nv 1)) (vg_val ve_non) rfl) (vss_one (vs_ret (ve_cmp op_isN opn_isN (vg_val (nv 0)) (vg_val ve_non) rfl))) (vss_nil)) (vss_cons (vs_if (vt_val (ve_callB call_isi opn_isi rfl c.b_isinstance rfl (va_cons (vg_val (nv 1)) (va_cons (vg_val ((ve_ty rfl c.b_bool rfl))) (va_nil))))) (vss_one (vs_ret (ve_and (ve_callB call_isi opn_isi rfl c.b_isinstance rfl (va_cons (vg_val (nv 0)) (va_cons (vg_val ((ve_ty rfl c.b_bool rfl))) (va_nil)))) (ve_one (ve_cmp (opr_eq hr) opn_eq (vg_val (nv 0)) (vg_val (nv 1)) rfl))))) (vss_nil)) (vss_cons (vs_if (vt_val (ve_callB call_isi opn_isi rfl c.b_isinstance rfl (va_cons (vg_val (nv 1)) (va_cons (vg_val ((ve_ty rfl c.b_int rfl))) (va_nil))))) (vss_one (vs_ret (ve_and (ve_callB call_isi opn_isi rfl c.b_isinstance rfl (va_cons (vg_val (nv 0)) (va_cons (vg_val ((ve_ty rfl c.b_int rfl))) (va_nil)))) (ve_and (ve_not (ve_callB call_isi opn_isi rfl c.b_isinstance rfl (va_cons (vg_val (nv 0)) (va_cons (vg_val ((ve_ty rfl c.b_bool rfl))) (va_nil))))) (ve_one (ve_cmp (opr_eq hr) opn_eq (vg_val (nv 0)) (vg_val (nv 1)) rfl)))))) (vss_nil)) (vss_cons (vs_if (vt_val (ve_callB call_isi opn_isi rfl c.b_isinstance rfl (va_cons (vg_val (nv 1)) (va_cons (vg_val ((ve_ty rfl c.b_str rfl))) (va_nil))))) (vss_one (vs_ret (ve_and (ve_callB call_isi opn_isi rfl c.b_isinstance rfl (va_cons (vg_val (nv 0)) (va_cons (vg_val ((ve_ty rfl c.b_str rfl))) (va_nil)))) (ve_one (ve_cmp (opr_eq hr) opn_eq (vg_val (nv 0)) (vg_val (nv 1)) rfl))))) (vss_nil)) (vss_cons (vs_if (vt_val (ve_callB call_isi opn_isi rfl c.b_isinstance rfl (va_cons (vg_val (nv 1)) (va_cons (vg_val ((ve_ty rfl c.b_tuple rfl))) (va_nil))))) (vss_one (vs_if (vt_not (vt_val (ve_callB call_isi opn_isi rfl c.b_isinstance rfl (va_cons (vg_val (nv 0)) (va_cons (vg_val ((ve_ty rfl c.b_tuple rfl))) (va_nil)))))) (vss_one (vs_ret (ve_bl))) (vss_nil))) (vss_one (vs_if (vt_not (vt_val (ve_callB call_isi opn_isi rfl c.b_isinstance rfl (va_cons (vg_val (nv 0)) (va_cons (vg_val ((ve_ty rfl c.b_list rfl))) (va_nil)))))) (vss_one (vs_ret (ve_bl))) (vss_nil)))) (vss_cons (vs_if (vt_cmp (opr_ne hr) opn_ne (vg_val (ve_callB call_lenA opn_len rfl c.b_len rfl (va_cons (vg_val (nv 0)) (va_nil)))) (vg_val (ve_callB call_lenA opn_len rfl c.b_len rfl (va_cons (vg_val (nv 1)) (va_nil)))) rfl) (vss_one (vs_ret (ve_bl))) (vss_nil)) (vss_cons (vs_for (passes_of rfl) rfl (vi_range1 rfl c.b_range (va_cons (vg_val (ve_callB call_lenA opn_len rfl c.b_len rfl (va_cons (vg_val (nv 1)) (va_nil)))) (va_nil))) (tn 2 sc.nd) (vss_one (vs_if (vt_not (vt_val (ve_call ih (mono_Lalike n) (hr.mono (by omega)) rfl rfl (va_cons (vg_val (ve_ix hr (vg_val (nv 0)) (vg_val (nv 2)) (fun _ _ => rfl))) (va_cons (vg_val (ve_ix hr (vg_val (nv 1)) (vg_val (nv 2)) (fun _ _ => rfl))) (va_nil)))))) (vss_one (vs_ret (ve_bl))) (vss_nil)))) (vss_one (vs_ret (ve_bl))))))))))) (mono_Lalike (n + 1)) (rd_Lalike n) |>.mono (by omega)
theorem sc_Lgood_ways : FnScope ["_law_node", "_law_head", "_law_due", "_law_many", "_law_way"] ["_law_node", "_law_head", "_law_due", "_law_many"] (defScope s_Lgood_ways) := ⟨rfl, rfl, rfl, by decide +kernel, rfl, by decide +kernel, by decide +kernel⟩
theorem F_Lgood_ways {P : Program} {w : World} {K : PySem.W.Frag} {mg : Str → Option Value} {base : Heap} (c : Hd K mg) : Fv P w K mg base "_law_good_ways" 10 4 sp_Lgood_ways :=
  Fv.mk2 (κ := [true, true, true, true]) (t := t_Lgood_ways) c.f_Lgood_ways sc_Lgood_ways (fun F => F.bindsN fun _ _ _ _ _ _ us hl => match us, hl with | [_, _, _, _], _ => rfl) rfl (by decide)
    (fun f cdv A outer s H E hr => let sc := sc_Lgood_ways; (vss_cons (vs_if (vt_w (vw_or (vt_not (vt_val (ve_callB call_isi opn_isi rfl c.b_isinstance rfl (va_cons (vg_val (nv 0)) (va_cons (vg_val ((ve_ty rfl c.b_tuple rfl))) (va_nil)))))) (vw_or1 (vt_not (vt_val (ve_call (F_Lalike c 8) (mono_Lalike 8) (hr.mono (by omega)) rfl rfl (va_cons (vg_val (ve_still (ve_slice (vg_val (nv 0)) (vo_none) (vo_some (ve_callB call_lenA opn_len rfl c.b_len rfl (va_cons (vg_val (nv 1)) (va_nil))))))) (va_cons (vg_val (nv 1)) (va_nil))))))))) (vss_one (vs_ret (ve_bl))) (vss_nil)) (vss_cons (vs_if (vt_cmp (opr_ne hr) opn_ne (vg_val (ve_callB call_lenA opn_len rfl c.b_len rfl (va_cons (vg_val (nv 0)) (va_nil)))) (vg_val (ve_bin opr_add opn_add (vg_val (ve_callB call_lenA opn_len rfl c.b_len rfl (va_cons (vg_val (nv 1)) (va_nil)))) (vg_val (ve_callB call_lenA opn_len rfl c.b_len rfl (va_cons (vg_val (nv 2)) (va_nil)))))) rfl) (vss_one (vs_ret (ve_bl))) (vss_nil)) (vss_cons (vs_for (passes_of rfl) rfl (vi_tup (ve_slice (vg_val (nv 0)) (vo_some (ve_callB call_lenA opn_len rfl c.b_len rfl (va_cons (vg_val (nv 1)) (va_nil)))) (vo_none))) (tn 4 sc.nd) (vss_one (vs_if (vt_w (vw_or (vt_not (vt_val (ve_callB call_isi opn_isi rfl c.b_isinstance rfl (va_cons (vg_val (nv 4)) (va_cons (vg_val ((ve_ty rfl c.b_int rfl))) (va_nil)))))) (vw_or (vt_val (ve_callB call_isi opn_isi rfl c.b_isinstance rfl (va_cons (vg_val (nv 4)) (va_cons (vg_val ((ve_ty rfl c.b_bool rfl))) (va_nil))))) (vw_or (vt_cmp op_lt opn_lt (vg_val (nv 4)) (vg_val (ve_int)) rfl) (vw_or1 (vt_cmp op_ge opn_ge (vg_val (nv 4)) (vg_val (nv 3)) rfl)))))) (vss_one (vs_ret (ve_bl))) (vss_nil)))) (vss_one (vs_ret (ve_bl))))))) mono_Lgood_ways rd_Lgood_ways
theorem sc_Lside_by_side : FnScope ["_law_graph", "_law_rows_here", "_law_numbers", "_law_row_here", "_law_pairs", "_law_open_ones", "_law_k", "_law_head", "_law_due", "_law_way", "_law_place"] ["_law_graph", "_law_rows_here"] (defScope s_Lside_by_side) := ⟨rfl, rfl, rfl, by decide +kernel, rfl, by decide +kernel, by decide +kernel⟩
theorem F_Lside_by_side {P : Program} {w : World} {K : PySem.W.Frag} {mg : Str → Option Value} {base : Heap} (c : Hd K mg) : Fv P w K mg base "_law_side_by_side" 11 2 sp_Lside_by_side :=
  Fv.mk2 (κ := [true, true]) (t := t_Lside_by_side) c.f_Lside_by_side sc_Lside_by_side (fun F => F.bindsN fun _ _ _ _ _ _ us hl => match us, hl with | [_, _], _ => rfl) rfl (by decide)
    (fun f cdv A outer s H E hr => let sc := sc_Lside_by_side; (vss_cons (vs_setLcF (own := [("_law_row_here", 3)]) (i := 2) rfl sc.nd (blkOk_by (by first | rfl | decide +kernel)) (kap_of rfl) (vi_lst (nv 1)) (fun bi => vto_name (by decide) sc.nd rfl (by first | exact Or.inl rfl | exact Or.inr rfl) (ne_of_beq_false rfl)) (fun bi => vts_nil) (fun bi => ve_ix hr (vg_val (nv 3)) (vg_val (ve_int)) (fun _ _ => rfl)) rfl rfl (ne_of_beq_false rfl) (sw_true rfl rfl rfl (by decide +kernel))) (vss_cons (sa 4 sc.nd (ve_disp (vpps_cons (ve_int) (ve_call (F_Lcome c) mono_Lcome (hr.mono (by omega)) rfl rfl (va_cons (vg_val (nv 1)) (va_cons (vg_val (nv 2)) (va_cons (vg_val (ve_int)) (va_nil))))) (vpps_nil)) rfl rfl (by simp) (by decide) (fun N ε Q h => by simpa [vdCons, vdNil] using h))) (vss_cons (sa 5 sc.nd (ve_lst (va_cons (vg_val (ve_int)) (va_nil)))) (vss_cons (vs_while (passes_of rfl) (vt_cmpW (opr_ne hr) opn_ne (wv_name 5) (wv_lst (wvs_nil)) rfl) (vss_cons (sa 6 sc.nd (mp_pop (np 5))) (vss_cons (sa 7 sc.nd (ve_call (F_Ldue_head c) mono_Ldue_head (hr.mono (by omega)) rfl rfl (va_cons (vg_val (ve_ix hr (vg_val (nv 1)) (vg_val (ve_ix hr (ng 4) (vg_val (nv 6)) (fun _ _ => rfl))) (fun _ _ => rfl))) (va_nil)))) (vss_cons (sa 8 sc.nd (ve_still (ve_call (F_Ldue_ways c) mono_Ldue_ways (hr.mono (by omega)) rfl rfl (va_cons (vg_val (nv 1)) (va_cons (vg_val (nv 2)) (va_cons (vg_val (ve_ix hr (ng 4) (vg_val (nv 6)) (fun _ _ => rfl))) (va_nil))))))) (vss_cons (vs_if (vt_not (vt_val (ve_call (F_Lgood_ways c) mono_Lgood_ways (hr.mono (by omega)) rfl rfl (va_cons (vg_val (ve_ix hr (vg_val (nv 0)) (vg_val (nv 6)) (fun _ _ => rfl))) (va_cons (vg_val (nv 7)) (va_cons (vg_val (nv 8)) (va_cons (vg_val (ve_callB call_lenA opn_len rfl c.b_len rfl (va_cons (vg_val (nv 0)) (va_nil)))) (va_nil)))))))) (vss_one (vs_ret (ve_bl))) (vss_nil)) (vss_one (vs_for (passes_of rfl) rfl (vi_zipM rfl c.b_zip (va_cons (vg_val (ve_still (ve_slice (vg_val (ve_ix hr (vg_val (nv 0)) (vg_val (nv 6)) (fun _ _ => rfl))) (vo_some (ve_callB call_lenA opn_len rfl c.b_len rfl (va_cons (vg_val (nv 7)) (va_nil)))) (vo_none)))) (va_cons (vg_val (nv 8)) (va_nil)))) (vt_names (n := 0) rfl (vns_cons (i := 9) sc.nd rfl (by first | exact Or.inl rfl | exact Or.inr rfl) (ne_of_beq_false rfl) (vns_cons (i := 10) sc.nd rfl (by first | exact Or.inl rfl | exact Or.inr rfl) (ne_of_beq_false rfl) (vns_nil)))) (vss_cons (vs_if (vt_cmpW (opr_notIn hr) opn_in (wv_name 9) (wv_name 4) rfl) (vss_cons (vs_set hr (nv 10) (np 4) (nq 9)) (vss_one (vs_expr (m_app 5 (va_cons (vg_val (nv 9)) (va_nil)))))) (vss_nil)) (vss_one (vs_if (vt_cmpW (opr_ne hr) opn_ne (wv_ix hr (wv_name 4) (wv_name 9) (fun _ _ => rfl)) (wv_name 10) rfl) (vss_one (vs_ret (ve_bl))) (vss_nil))))))))))) (vss_one (vs_ret (ve_and (ve_view (wv_cmp (opr_eq hr) opn_eq (wv_callB call_lenA opn_len rfl c.b_len rfl (wvs_cons (wv_name 4) (wvs_nil))) (wv_callB call_lenA opn_len rfl c.b_len rfl (wvs_cons (wv_name 0) (wvs_nil))) rfl)) (ve_one (ve_cmp (opr_eq hr) opn_eq (vg_val (ve_lenSet rfl rfl c.b_len rfl c.b_set (vg_val (ve_listVals rfl rfl c.b_list (ng 4))))) (vg_val (ve_callB call_lenA opn_len rfl c.b_len rfl (va_cons (vg_val (nv 0)) (va_nil)))) rfl)))))))))) mono_Lside_by_side rd_Lside_by_side
theorem sc_law : FnScope ["_law_script", "_law_rows_here", "_law_handed", "_law_found", "_law_circle", "_law_kept"] ["_law_script"] (defScope s_law) := ⟨rfl, rfl, rfl, by decide +kernel, rfl, by decide +kernel, by decide +kernel⟩
theorem bd_law {K : PySem.W.Frag} {f : Addr} {fd : FuncData} (F : FunD K "law" "law" (defArgs s_law) (defBody s_law) (defScope s_law) [] [] f fd) (s : Shared) (u : Value) : BindsTo s fd ⟨[u], []⟩ [("_law_script", u)] := FunD.bindsA (ps := ["_law_script"]) F (fun _ _ _ _ _ _ us hl => match us, hl with | [_], _ => rfl) s [u] rfl
theorem ok_law {P : Program} {w : World} {K : PySem.W.Frag} {mg : Str → Option Value} {base : Heap} (c : Hd K mg) {f : Addr} {fd : FuncData} (F : FunD K "law" "law" (defArgs s_law) (defBody s_law) (defScope s_law) [] [] f fd) : VL.FnOk P w K mg base (VL.CX P w) 12 f fd ["_law_script"] (Lift K 1 sp_law) :=
  fn_ok (κ := [true]) (t := t_law) F sc_law rfl (by decide)
    (fun cdv A outer s H E hr => let sc := sc_law; (vss_cons (sa 1 sc.nd (ve_still (ve_call (F_Lrows c) mono_Lrows (hr.mono (by omega)) rfl rfl (va_cons (vg_val (ve_still (ve_slice (vg_val (nv 0)) (vo_some (ve_int)) (vo_some (ve_int))))) (va_cons (vg_val (ve_bin op_modN opn_mod (vg_val (ve_call (F_Lcell c) mono_Lcell (hr.mono (by omega)) rfl rfl (va_cons (vg_val (nv 0)) (va_cons (vg_val (ve_int)) (va_nil))))) (vg_val (ve_bin op_pow opn_pow (vg_val (ve_int)) (vg_val (ve_int)))))) (va_nil)))))) (vss_cons (sa 2 sc.nd (ve_still (ve_callTy (call_listA rfl) opn_list rfl c.b_list rfl (va_cons (vg_val (nv 1)) (va_nil))))) (vss_cons (sa 3 sc.nd (ve_call (F_graph_of c) mono_graph_of (hr.mono (by omega)) rfl rfl (va_cons (vg_val (nv 2)) (va_nil)))) (vss_cons (vs_if (vt_w (vw_or (vt_not (vt_viewV (wv_callB call_isi opn_isi rfl c.b_isinstance rfl (wvs_cons (wv_name 3) (wvs_cons ((wv_ty rfl c.b_list rfl)) (wvs_nil)))))) (vw_or (vt_cmpW (opr_eq hr) opn_eq (wv_name 3) (wv_lst (wvs_nil)) rfl) (vw_or1 (vt_cmp (opr_ne hr) opn_ne (vg_val (nv 2)) (vg_val (nv 1)) rfl))))) (vss_one (vs_ret (ve_bl))) (vss_nil)) (vss_cons (sa 4 sc.nd (ve_still (ve_call (F_Lring c) mono_Lring (hr.mono (by omega)) rfl rfl (va_cons (vg_val (ve_call (F_Lcell c) mono_Lcell (hr.mono (by omega)) rfl rfl (va_cons (vg_val (nv 0)) (va_cons (vg_val (ve_int)) (va_nil))))) (va_cons (vg_val (ve_call (F_Lcell c) mono_Lcell (hr.mono (by omega)) rfl rfl (va_cons (vg_val (nv 0)) (va_cons (vg_val (ve_int)) (va_nil))))) (va_nil)))))) (vss_cons (vs_if (vt_w (vw_or (vt_not (vt_val (ve_lend (F_Lside_by_side c) mono_Lside_by_side (hr.mono (by omega)) rfl rfl (wvs_cons (wv_name 3) (wvs_cons (wv_name 1) (wvs_nil)))))) (vw_or1 (vt_not (vt_val (ve_call (F_Lside_by_side c) mono_Lside_by_side (hr.mono (by omega)) rfl rfl (va_cons (vg_val (ve_still (ve_call (F_graph_of c) mono_graph_of (hr.mono (by omega)) rfl rfl (va_cons (vg_val (nv 4)) (va_nil))))) (va_cons (vg_val (nv 4)) (va_nil))))))))) (vss_one (vs_ret (ve_bl))) (vss_nil)) (vss_cons (sa 5 sc.nd (ve_still (ve_callTy (call_listA rfl) opn_list rfl c.b_list rfl (al 3 (va_nil))))) (vss_cons (vs_expr (mp_reverse (np 3))) (vss_cons (vs_expr (m_app 3 (va_cons (vg_val (ve_tup (va_cons (vg_val ((ve_str rfl))) (va_nil)))) (va_nil)))) (vss_cons (vs_expr (ve_call (F_graph_of c) mono_graph_of (hr.mono (by omega)) rfl rfl (va_cons (vg_val (ve_still (ve_lst (va_cons (vg_val (ve_tup (va_cons (vg_val (ve_int)) (va_cons (vg_val ((ve_str rfl))) (va_cons (vg_val (ve_int)) (va_nil)))))) (va_nil))))) (va_nil)))) (vss_one (vs_ret (ve_and (ve_call (F_Lalike c 8) (mono_Lalike 8) (hr.mono (by omega)) rfl rfl (va_cons (vg_val (ve_still (ve_call (F_graph_of c) mono_graph_of (hr.mono (by omega)) rfl rfl (va_cons (vg_val (nv 2)) (va_nil))))) (va_cons (vg_val (nv 5)) (va_nil)))) (ve_one (ve_cmp (opr_eq hr) opn_eq (ng 3) (vg_val (ve_bin opr_add opn_add (vg_val (ve_rev (vg_val (nv 5)))) (vg_val (ve_lst (va_cons (vg_val (ve_tup (va_cons (vg_val ((ve_str rfl))) (va_nil)))) (va_nil)))))) rfl)))))))))))))))) mono_law rd_law
end Pk12
namespace Pk12
open PySem PySem.Spec PyProof.Rows L2 VL
def dd_ways : He.DefD := ⟨("ways", none), "ways", "ways", defArgs s_ways, defBody s_ways, defScope s_ways, [], []⟩
def dd_come_to : He.DefD := ⟨("come_to", none), "come_to", "come_to", defArgs s_come_to, defBody s_come_to, defScope s_come_to, [], []⟩
def dd_node_of : He.DefD := ⟨("node_of", none), "node_of", "node_of", defArgs s_node_of, defBody s_node_of, defScope s_node_of, [], []⟩
def dd_finished_last : He.DefD := ⟨("finished_last", none), "finished_last", "finished_last", defArgs s_finished_last, defBody s_finished_last, defScope s_finished_last, [], []⟩
def dd_renumbered : He.DefD := ⟨("renumbered", none), "renumbered", "renumbered", defArgs s_renumbered, defBody s_renumbered, defScope s_renumbered, [], []⟩
def dd_moved : He.DefD := ⟨("moved", none), "moved", "moved", defArgs s_moved, defBody s_moved, defScope s_moved, [], []⟩
def dd_graph_of : He.DefD := ⟨("graph_of", none), "graph_of", "graph_of", defArgs s_graph_of, defBody s_graph_of, defScope s_graph_of, [], []⟩
def dd_Lcell : He.DefD := ⟨("_law_cell", none), "_law_cell", "_law_cell", defArgs s_Lcell, defBody s_Lcell, defScope s_Lcell, [], []⟩
def dd_Lmixed : He.DefD := ⟨("_law_mixed", none), "_law_mixed", "_law_mixed", defArgs s_Lmixed, defBody s_Lmixed, defScope s_Lmixed, [], []⟩
def dd_Lnames : He.DefD := ⟨("_law_names", none), "_law_names", "_law_names", defArgs s_Lnames, defBody s_Lnames, defScope s_Lnames, [], []⟩
def dd_Loperand : He.DefD := ⟨("_law_operand", none), "_law_operand", "_law_operand", defArgs s_Loperand, defBody s_Loperand, defScope s_Loperand, [], []⟩
def dd_Lrow : He.DefD := ⟨("_law_row", none), "_law_row", "_law_row", defArgs s_Lrow, defBody s_Lrow, defScope s_Lrow, [], []⟩
def dd_Lrows : He.DefD := ⟨("_law_rows", none), "_law_rows", "_law_rows", defArgs s_Lrows, defBody s_Lrows, defScope s_Lrows, [], []⟩
def dd_Lalike : He.DefD := ⟨("_law_alike", none), "_law_alike", "_law_alike", defArgs s_Lalike, defBody s_Lalike, defScope s_Lalike, [], []⟩
def dd_Lcome : He.DefD := ⟨("_law_come", none), "_law_come", "_law_come", defArgs s_Lcome, defBody s_Lcome, defScope s_Lcome, [], []⟩
def dd_Ldue_ways : He.DefD := ⟨("_law_due_ways", none), "_law_due_ways", "_law_due_ways", defArgs s_Ldue_ways, defBody s_Ldue_ways, defScope s_Ldue_ways, [], []⟩
def dd_Ldue_head : He.DefD := ⟨("_law_due_head", none), "_law_due_head", "_law_due_head", defArgs s_Ldue_head, defBody s_Ldue_head, defScope s_Ldue_head, [], []⟩
def dd_Lgood_ways : He.DefD := ⟨("_law_good_ways", none), "_law_good_ways", "_law_good_ways", defArgs s_Lgood_ways, defBody s_Lgood_ways, defScope s_Lgood_ways, [], []⟩
def dd_Lside_by_side : He.DefD := ⟨("_law_side_by_side", none), "_law_side_by_side", "_law_side_by_side", defArgs s_Lside_by_side, defBody s_Lside_by_side, defScope s_Lside_by_side, [], []⟩
def dd_Lring : He.DefD := ⟨("_law_ring", none), "_law_ring", "_law_ring", defArgs s_Lring, defBody s_Lring, defScope s_Lring, [], []⟩
def dd_law : He.DefD := ⟨("law", none), "law", "law", defArgs s_law, defBody s_law, defScope s_law, [], []⟩
def fnD : List He.DefD := [dd_ways, dd_come_to, dd_node_of, dd_finished_last, dd_renumbered, dd_moved, dd_graph_of, dd_Lcell, dd_Lmixed, dd_Lnames, dd_Loperand, dd_Lrow, dd_Lrows, dd_Lalike, dd_Lcome, dd_Ldue_ways, dd_Ldue_head, dd_Lgood_ways, dd_Lside_by_side, dd_Lring, dd_law]
def faD : List He.Fa := [.glo "ways", .glo "come_to", .glo "node_of", .glo "finished_last", .glo "renumbered", .glo "moved", .glo "graph_of", .glo "_law_cell", .glo "_law_mixed", .glo "_law_names", .glo "_law_operand", .glo "_law_row", .glo "_law_rows", .glo "_law_alike", .glo "_law_come", .glo "_law_due_ways", .glo "_law_due_head", .glo "_law_good_ways", .glo "_law_side_by_side", .glo "_law_ring", .glo "law", .free "min", .free "list", .free "reversed", .free "len", .free "enumerate", .free "range", .free "isinstance", .free "bool", .free "int", .free "str", .free "tuple", .free "zip", .free "set", .int "MOST_NODES" 40]
def exD : PySem.W.Frag → Bool := fun K => true
abbrev RowR : PySem.W.OpenRow := PySem.W.OpenLaw.row PySem.Challenge.rw_unjump_k12_graph_by_rows
abbrev hkR : PySem.W.Hook := He.hookX 4 faD fnD [] [] exD
def obR (s : PySem.W.SharedT) : He.AlX := He.obsX 4 faD fnD [] [] exD (HandSHeadRun.getT s)
theorem obR_eq (s : PySem.W.SharedT) : obR s = hkR.obs s.abs := He.obsX_eq (HandSHeadRun.getT_eq s)
def loose0 : List Str := ["JumpError", "TooGreat", "ways", "MOST_NODES", "come_to", "node_of", "finished_last", "renumbered", "moved", "graph_of", "_law_cell", "_law_mixed", "_law_names", "_law_operand", "_law_row", "_law_rows", "_law_alike", "_law_come", "_law_due_ways", "_law_due_head", "_law_good_ways", "_law_side_by_side", "_law_ring"]
def looseR : List Str := loose0
theorem runR (w : World) : HandSHeadRun.RunEq RowR (PySem.W.view RowR.prog [27]) hkR obR 6000 looseR w := by
  intro os
  kernel_rfl
theorem hdR {w : World} {K : PySem.W.Frag} {h : Heap} {mg : Str → Option Value} (X : K.In h) (G : h.Ns mainGlobals mg) (c : He.SaysX faD fnD [] [] exD w h K) : Hd K mg where
  f_ways := fnAt_of X G (c.t.d.fact 0 (f := .glo "ways") rfl) rfl (c.t.d.def_ 0 (d := dd_ways) rfl)
  f_come_to := fnAt_of X G (c.t.d.fact 1 (f := .glo "come_to") rfl) rfl (c.t.d.def_ 1 (d := dd_come_to) rfl)
  f_node_of := fnAt_of X G (c.t.d.fact 2 (f := .glo "node_of") rfl) rfl (c.t.d.def_ 2 (d := dd_node_of) rfl)
  f_finished_last := fnAt_of X G (c.t.d.fact 3 (f := .glo "finished_last") rfl) rfl (c.t.d.def_ 3 (d := dd_finished_last) rfl)
  f_renumbered := fnAt_of X G (c.t.d.fact 4 (f := .glo "renumbered") rfl) rfl (c.t.d.def_ 4 (d := dd_renumbered) rfl)
  f_moved := fnAt_of X G (c.t.d.fact 5 (f := .glo "moved") rfl) rfl (c.t.d.def_ 5 (d := dd_moved) rfl)
  f_graph_of := fnAt_of X G (c.t.d.fact 6 (f := .glo "graph_of") rfl) rfl (c.t.d.def_ 6 (d := dd_graph_of) rfl)
  f_Lcell := fnAt_of X G (c.t.d.fact 7 (f := .glo "_law_cell") rfl) rfl (c.t.d.def_ 7 (d := dd_Lcell) rfl)
  f_Lmixed := fnAt_of X G (c.t.d.fact 8 (f := .glo "_law_mixed") rfl) rfl (c.t.d.def_ 8 (d := dd_Lmixed) rfl)
  f_Lnames := fnAt_of X G (c.t.d.fact 9 (f := .glo "_law_names") rfl) rfl (c.t.d.def_ 9 (d := dd_Lnames) rfl)
  f_Loperand := fnAt_of X G (c.t.d.fact 10 (f := .glo "_law_operand") rfl) rfl (c.t.d.def_ 10 (d := dd_Loperand) rfl)
  f_Lrow := fnAt_of X G (c.t.d.fact 11 (f := .glo "_law_row") rfl) rfl (c.t.d.def_ 11 (d := dd_Lrow) rfl)
  f_Lrows := fnAt_of X G (c.t.d.fact 12 (f := .glo "_law_rows") rfl) rfl (c.t.d.def_ 12 (d := dd_Lrows) rfl)
  f_Lalike := fnAt_of X G (c.t.d.fact 13 (f := .glo "_law_alike") rfl) rfl (c.t.d.def_ 13 (d := dd_Lalike) rfl)
  f_Lcome := fnAt_of X G (c.t.d.fact 14 (f := .glo "_law_come") rfl) rfl (c.t.d.def_ 14 (d := dd_Lcome) rfl)
  f_Ldue_ways := fnAt_of X G (c.t.d.fact 15 (f := .glo "_law_due_ways") rfl) rfl (c.t.d.def_ 15 (d := dd_Ldue_ways) rfl)
  f_Ldue_head := fnAt_of X G (c.t.d.fact 16 (f := .glo "_law_due_head") rfl) rfl (c.t.d.def_ 16 (d := dd_Ldue_head) rfl)
  f_Lgood_ways := fnAt_of X G (c.t.d.fact 17 (f := .glo "_law_good_ways") rfl) rfl (c.t.d.def_ 17 (d := dd_Lgood_ways) rfl)
  f_Lside_by_side := fnAt_of X G (c.t.d.fact 18 (f := .glo "_law_side_by_side") rfl) rfl (c.t.d.def_ 18 (d := dd_Lside_by_side) rfl)
  f_Lring := fnAt_of X G (c.t.d.fact 19 (f := .glo "_law_ring") rfl) rfl (c.t.d.def_ 19 (d := dd_Lring) rfl)
  f_law := fnAt_of X G (c.t.d.fact 20 (f := .glo "law") rfl) rfl (c.t.d.def_ 20 (d := dd_law) rfl)
  b_min := He.free_ok X G (c.t.d.fact 21 (f := .free "min") rfl)
  b_list := He.free_ok X G (c.t.d.fact 22 (f := .free "list") rfl)
  b_reversed := He.free_ok X G (c.t.d.fact 23 (f := .free "reversed") rfl)
  b_len := He.free_ok X G (c.t.d.fact 24 (f := .free "len") rfl)
  b_enumerate := He.free_ok X G (c.t.d.fact 25 (f := .free "enumerate") rfl)
  b_range := He.free_ok X G (c.t.d.fact 26 (f := .free "range") rfl)
  b_isinstance := He.free_ok X G (c.t.d.fact 27 (f := .free "isinstance") rfl)
  b_bool := He.free_ok X G (c.t.d.fact 28 (f := .free "bool") rfl)
  b_int := He.free_ok X G (c.t.d.fact 29 (f := .free "int") rfl)
  b_str := He.free_ok X G (c.t.d.fact 30 (f := .free "str") rfl)
  b_tuple := He.free_ok X G (c.t.d.fact 31 (f := .free "tuple") rfl)
  b_zip := He.free_ok X G (c.t.d.fact 32 (f := .free "zip") rfl)
  b_set := He.free_ok X G (c.t.d.fact 33 (f := .free "set") rfl)
  g_MOST_NODES := He.int_ok X G (c.t.d.fact 34 (f := .int "MOST_NODES" 40) rfl)
end Pk12
open PySem PySem.W PySem.Calls PyProof.Rows
theorem PySem.Challenge.cw_unjump_k12_graph_by_rows_holds : PySem.Challenge.rw_unjump_k12_graph_by_rows.Holds := by
  w_on; o_law
  refine HandSHeadRun.head_any (r := OpenLaw.row PySem.Challenge.rw_unjump_k12_graph_by_rows) (q := view (OpenLaw.row PySem.Challenge.rw_unjump_k12_graph_by_rows).prog [27]) (H := Pk12.hkR) (ob := Pk12.obR) (M := 6000) (loose := Pk12.looseR) (d := HandSHeadRun.topDef (OpenLaw.row PySem.Challenge.rw_unjump_k12_graph_by_rows).prog 27) (kwd := []) Pk12.obR_eq
    (by kernel_rfl) (fun s => by kernel_rfl) Pk12.runR (by kernel_rfl) (by kernel_rfl) (by kernel_rfl) (by rfl) (by first | assumption | decide +kernel) (by decide +kernel) ⟨rfl, rfl, rfl, rfl, rfl, by decide +kernel⟩ ?hw ?hc
  case hw => w_witness2
  case hc =>
    refine LamX.walk_ofTsE (l := PySem.Challenge.rw_unjump_k12_graph_by_rows) (n := 63) (k := 104) (x := "_law_script") (CX := fun w => VL.CX (PySem.Challenge.rw_unjump_k12_graph_by_rows).prog w) rfl (by decide) (by kernel_rfl) ⟨rfl, by decide, by decide⟩ ?F VL.cx_no
    intro w mg fa h Y G hmg0
    obtain ⟨K, KX, c⟩ := Y
    have hmg : mg ("law" : PySem.Str) = some (.ref fa) := by
      have e : (HandSHeadRun.topDef (OpenLaw.row PySem.Challenge.rw_unjump_k12_graph_by_rows).prog 27).name = ("law" : PySem.Str) := by kernel_rfl
      rw [← e]
      exact hmg0
    have hd := Pk12.hdR (w := w) KX G c
    exact ⟨K, KX, VL.lawAt hmg hd.f_law Pk12.bd_law (Pk12.ok_law hd) Pk12.mono_law Pk12.law_true⟩
