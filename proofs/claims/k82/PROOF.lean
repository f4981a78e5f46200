import PyProof.Rows.All
import Wide.All
import OpenK.AllK
import Wide.FinOn
import PySem.Challenge.RW_unjump_k82_come_through
import HandS.ForMost
import HandS.ForExc
import HandS.HeadHook1
import HandS.ExcCtx
import HandS.TryOnly
import HandS.RevRange
import HandS.Rev
import HandS.CallSlots
import HandS.Defaults
import HandS.IsInst
import HandS.Wide
import HandS.WideBits
import HandS.TupAny
import HandS.WordsDict
import HandS.TupLen
import HandS.Deep
import HandS.More
import HandS.Text
import HandS.RaiseMore
import HandS.Comp
import HandS.Style
import HandS.DictComp
import HandS.HeadHook4
import HandS.HeadWalk
import HandS.Words
import HandS.RevTup
import HandS.Zip
import HandS.SetFor
import HandS.ExcInit
import HandS.ExcIs
import HandS.ExcField
import HandS.TryMany
import HandS.HotCalls
import HandS.TryElse
import KE.KBits
import HandS.Codes
import KE.KDictLaws
import HandS.Iter
import HandS.Zip0
import KE.KItemsList
import KE.KDictList
import HandS.StrMore
import HandS.Head0
import HandS.Head1
import HandS.Head2
import HandS.HeadEnd
import Lean
set_option Elab.async false
set_option linter.all false
set_option maxRecDepth 100001
set_option maxHeartbeats 4000001
namespace VL
open PySem PySem.Spec PyProof.Rows L2 VL
abbrev Takes := L2N.Takes
abbrev CX := L2N.CX
theorem passAt {X : Cx} {W : WX} (tk : Takes X W) (σ : L2.St) : PassesAt (CX X.prog X.w) X σ (WE W σ) := L2N.passAt tk σ
theorem takes_of {X : Cx} {E : XK} (hs : X.stack = X.env :: X.outer) (hf : X.env.frame = some X.env.locals) (hex : X.ex = []) {E₁ : Value → Shared → Prop}
    (hx : X.xe = fun e s' => wpAny (model X.prog X.w) X.A (leaving X.env e) (fun _ s'' => CX X.prog X.w X.outer X.H_0 X.s_0 E e s'') E₁ s') : Takes X (fun cls d _ H => E cls d H) := L2N.takes_of hs hf hex hx
/-- a text by its codes -/
abbrev Cs := List Nat
def toS (s : Cs) : Str := ⟨s.toArray⟩
theorem toS_inj {a b : Cs} (h : toS a = toS b) : a = b := by
  have h2 : a.toArray = b.toArray := congrArg Str.cps h
  simpa using congrArg Array.toList h2
theorem toS_cps (x : Str) : toS x.cps.toList = x := by
  show (⟨x.cps.toList.toArray⟩ : Str) = x
  rw [Array.toArray_toList]
/-- a dict's key: an int, a text -/
abbrev Kc := Sum Int Cs
def kc : Kc → Key
  | .inl i => .inl i
  | .inr s => .inr (toS s)
theorem kc_inj {a b : Kc} (h : kc a = kc b) : a = b := by
  cases a <;> cases b <;> simp only [kc, Sum.inl.injEq, Sum.inr.injEq, reduceCtorEq] at h
  · rw [h]
  · rw [toS_inj h]
/-- Python's data as a tree. The flag m of a mutable node: it is ours alone (true), or it stands still (false) -/
inductive D where
  | hole
  | val (v : V)
  | non
  | bl (b : Bool)
  | int (i : Int)
  | str (s : Cs)
  | ty (n : String)
  | tup (xs : List D)
  | lst (m : Bool) (xs : List D)
  | dK (m : Bool) (ks : List Kc) (xs : List D)
  | dT (m : Bool) (ks : List (List Kc)) (xs : List D)
  | ins (m : Bool) (C : Addr) (fs : List Cs) (xs : List D)
  | pin (v : V) (d : D)
  | exn (a dd : Addr) (cls : Value) (row : D)
deriving Inhabited
/-- the value of a class: an own one by its name -/
def clsV (K : PySem.W.Frag) : Value → Value
  | .type s => .ref (He.ga K (Str.ofString s))
  | v => v
/-- an exception's object, kept -/
def exk (cls : Value) (dd a : Addr) : HO := .ext fun h => ∃ (oe : Obj) (vs : Array Value), h.get? a = some oe ∧ Zc cls (some dd) oe ∧ oe.data = .fields vs
/-- the program's own classes, by number -/
def cA (K : PySem.W.Frag) : Nat → Addr
  | 0 => He.ga K "Deeds"
  | 1 => He.ga K "Opened"
  | 2 => He.ga K "Teller"
  | 3 => He.ga K "Versions"
  | 4 => He.ga K "DeedsByVersions"
  | n => n
def kzip (ks : List Kc) (vs : List V) : List (Key × V) := (ks.map kc).zip vs
def tzip (ks : List (List Kc)) (vs : List V) : List (List Key × V) := (ks.map (·.map kc)).zip vs
def fzip (fs : List Cs) (vs : List V) : List (Str × V) := (fs.map toS).zip vs
/-- what G holds stands in H -/
def Sub (G H : Hp) : Prop := ∀ a o, G a = some o → H a = some o
theorem Sub.refl {G : Hp} : Sub G G := fun _ _ e => e
theorem Sub.trans {A B C : Hp} (h : Sub A B) (k : Sub B C) : Sub A C := fun a o e => k a o (h a o e)
theorem Sub.rd {G H : Hp} (h : Sub G H) {a : Addr} {u : HO} (r : Rd G a u) : Rd H a u := by
  rcases r with r | ⟨o, r⟩
  · exact .inl (h _ _ r)
  · exact .inr ⟨o, h _ _ r⟩
theorem Sub.sqL {K : PySem.W.Frag} {G H : Hp} (h : Sub G H) {a : Addr} {xs : List V} (r : SqL K G a xs) : SqL K H a xs := by
  rcases r with r | r
  · exact .inl (h.rd r)
  · exact .inr r
theorem Sub.upd {G H : Hp} {a : Addr} {o : HO} (h : Sub G H) (n : G a = none) : Sub G (upd H a o) := fun b u e => by
  rw [upd_ne (ne_of_none e n)]
  exact h b u e
theorem Sub.upd2 {G H : Hp} {a : Addr} {o : HO} (h : Sub G H) : Sub (L2.upd G a o) (L2.upd H a o) := fun b u e => by
  by_cases hb : b = a
  · subst hb
    rw [upd_same] at e ⊢
    exact e
  · rw [upd_ne hb] at e ⊢
    exact h b u e
theorem Sub.laid {G : Hp} {a : Addr} {o : HO} (n : G a = none) : Sub G (L2.upd G a o) := Sub.refl.upd n
mutual
/-- v is d: what stands still in G, what is ours at the addresses F in H -/
def Rp (K : PySem.W.Frag) (G H : Hp) : D → V → List Addr → Prop
  | .hole, _, F => F = []
  | .val u, v, F => v = u ∧ F = []
  | .non, v, F => v = .non ∧ F = []
  | .bl b, v, F => v = .bl b ∧ F = []
  | .int i, v, F => v = .int i ∧ F = []
  | .str s, v, F => v = .str (toS s) ∧ F = []
  | .ty n, v, F => v = .ty n ∧ F = []
  | .pin u d, v, F => v = u ∧ Rp K G H d v F
  | .exn a dd cls row, v, F => (v = .ref a ∧ G a = some (exk (clsV K cls) dd a)) ∧ ∃ w, G dd = some (.xd [("row", w)]) ∧ Rp K G H row w F
  | .tup ds, v, F => ∃ a vs, v = .ref a ∧ G a = some (.tup vs) ∧ RpL K G H ds vs F
  | .lst false ds, v, F => ∃ a vs, v = .ref a ∧ SqL K G a vs ∧ F = [] ∧ RpL K G H ds vs []
  | .lst true ds, v, F => ∃ a vs F', v = .ref a ∧ H a = some (.lst vs) ∧ F = a :: F' ∧ RpL K G H ds vs F'
  | .dK false ks ds, v, F => ∃ a vs, v = .ref a ∧ Rd G a (.dK (kzip ks vs)) ∧ F = [] ∧ ks.length = ds.length ∧ ks.Nodup ∧ RpL K G H ds vs []
  | .dK true ks ds, v, F => ∃ a vs F', v = .ref a ∧ H a = some (.dK (kzip ks vs)) ∧ F = a :: F' ∧ ks.length = ds.length ∧ ks.Nodup ∧ RpL K G H ds vs F'
  | .dT false ks ds, v, F => ∃ a vs, v = .ref a ∧ G a = some (.dT (tzip ks vs)) ∧ F = [] ∧ ks.length = ds.length ∧ ks.Nodup ∧ RpL K G H ds vs []
  | .dT true ks ds, v, F => ∃ a vs F', v = .ref a ∧ H a = some (.dT (tzip ks vs)) ∧ F = a :: F' ∧ ks.length = ds.length ∧ ks.Nodup ∧ RpL K G H ds vs F'
  | .ins false C fs ds, v, F => ∃ a dx vs, v = .ref a ∧ G a = some (.ins (cA K C) dx (fzip fs vs)) ∧ F = [] ∧ fs.length = ds.length ∧ RpL K G H ds vs []
  | .ins true C fs ds, v, F => ∃ a dx vs F', v = .ref a ∧ H a = some (.ins (cA K C) dx (fzip fs vs)) ∧ F = a :: F' ∧ fs.length = ds.length ∧ RpL K G H ds vs F'
def RpL (K : PySem.W.Frag) (G H : Hp) : List D → List V → List Addr → Prop
  | [], vs, F => vs = [] ∧ F = []
  | d :: ds, vs, F => ∃ v vs' F1 F2, vs = v :: vs' ∧ F = F1 ++ F2 ∧ Rp K G H d v F1 ∧ RpL K G H ds vs' F2
end
section
variable {K : PySem.W.Frag} {G G' H H' : Hp}
mutual
/-- carried over: G grows, our own objects stay -/
theorem Rp.mono (hs : Sub G G') : ∀ {d : D} {v : V} {F : List Addr}, (∀ a ∈ F, H' a = H a) → Rp K G H d v F → Rp K G' H' d v F
  | .hole, _, _, _, h => h
  | .val _, _, _, _, h => h
  | .non, _, _, _, h => h
  | .bl _, _, _, _, h => h
  | .int _, _, _, _, h => h
  | .str _, _, _, _, h => h
  | .ty _, _, _, _, h => h
  | .pin u d, v, F, k, h => ⟨h.1, Rp.mono hs k h.2⟩
  | .exn _ _ _ row, v, F, k, h => by
    obtain ⟨e, w, s, r⟩ := h
    exact ⟨⟨e.1, hs _ _ e.2⟩, w, hs _ _ s, Rp.mono hs k r⟩
  | .tup ds, v, F, k, h => by
    obtain ⟨a, vs, e, s, r⟩ := h
    exact ⟨a, vs, e, hs _ _ s, RpL.mono hs k r⟩
  | .lst false ds, v, F, k, h => by
    obtain ⟨a, vs, e, s, f, r⟩ := h
    exact ⟨a, vs, e, hs.sqL s, f, RpL.mono hs (fun _ z => nomatch z) r⟩
  | .lst true ds, v, F, k, h => by
    obtain ⟨a, vs, F', e, s, rfl, r⟩ := h
    exact ⟨a, vs, F', e, (k a List.mem_cons_self).trans s, rfl, RpL.mono hs (fun b z => k b (List.mem_cons_of_mem _ z)) r⟩
  | .dK false ks ds, v, F, k, h => by
    obtain ⟨a, vs, e, s, f, l, n, r⟩ := h
    exact ⟨a, vs, e, hs.rd s, f, l, n, RpL.mono hs (fun _ z => nomatch z) r⟩
  | .dK true ks ds, v, F, k, h => by
    obtain ⟨a, vs, F', e, s, rfl, l, n, r⟩ := h
    exact ⟨a, vs, F', e, (k a List.mem_cons_self).trans s, rfl, l, n, RpL.mono hs (fun b z => k b (List.mem_cons_of_mem _ z)) r⟩
  | .dT false ks ds, v, F, k, h => by
    obtain ⟨a, vs, e, s, f, l, n, r⟩ := h
    exact ⟨a, vs, e, hs _ _ s, f, l, n, RpL.mono hs (fun _ z => nomatch z) r⟩
  | .dT true ks ds, v, F, k, h => by
    obtain ⟨a, vs, F', e, s, rfl, l, n, r⟩ := h
    exact ⟨a, vs, F', e, (k a List.mem_cons_self).trans s, rfl, l, n, RpL.mono hs (fun b z => k b (List.mem_cons_of_mem _ z)) r⟩
  | .ins false C fs ds, v, F, k, h => by
    obtain ⟨a, dx, vs, e, s, f, l, r⟩ := h
    exact ⟨a, dx, vs, e, hs _ _ s, f, l, RpL.mono hs (fun _ z => nomatch z) r⟩
  | .ins true C fs ds, v, F, k, h => by
    obtain ⟨a, dx, vs, F', e, s, rfl, l, r⟩ := h
    exact ⟨a, dx, vs, F', e, (k a List.mem_cons_self).trans s, rfl, l, RpL.mono hs (fun b z => k b (List.mem_cons_of_mem _ z)) r⟩
theorem RpL.mono (hs : Sub G G') : ∀ {ds : List D} {vs : List V} {F : List Addr}, (∀ a ∈ F, H' a = H a) → RpL K G H ds vs F → RpL K G' H' ds vs F
  | [], _, _, _, h => h
  | d :: ds, vs, F, k, h => by
    obtain ⟨v, vs', F1, F2, rfl, rfl, r, rs⟩ := h
    exact ⟨v, vs', F1, F2, rfl, rfl, Rp.mono hs (fun a z => k a (List.mem_append_left _ z)) r, RpL.mono hs (fun a z => k a (List.mem_append_right _ z)) rs⟩
end
mutual
/-- what is ours stands -/
theorem Rp.there : ∀ {d : D} {v : V} {F : List Addr}, Rp K G H d v F → ∀ a ∈ F, ∃ o, H a = some o ∧ Mut (some o)
  | .hole, _, _, h, a, z => by rw [show _ = [] from h] at z; cases z
  | .val _, _, _, h, a, z => by rw [h.2] at z; cases z
  | .non, _, _, h, a, z => by rw [h.2] at z; cases z
  | .bl _, _, _, h, a, z => by rw [h.2] at z; cases z
  | .int _, _, _, h, a, z => by rw [h.2] at z; cases z
  | .str _, _, _, h, a, z => by rw [h.2] at z; cases z
  | .ty _, _, _, h, a, z => by rw [h.2] at z; cases z
  | .pin u d, v, F, h, a, z => Rp.there h.2 a z
  | .exn _ _ _ row, v, F, h, a, z => by
    obtain ⟨e, w, s, r⟩ := h
    exact Rp.there r a z
  | .tup ds, v, F, h, a, z => by
    obtain ⟨_, vs, e, s, r⟩ := h
    exact RpL.there r a z
  | .lst false ds, v, F, h, a, z => by
    obtain ⟨_, vs, e, s, f, r⟩ := h
    rw [f] at z; cases z
  | .lst true ds, v, F, h, a, z => by
    obtain ⟨b, vs, F', e, s, rfl, r⟩ := h
    rcases List.mem_cons.mp z with rfl | z
    · exact ⟨_, s, trivial⟩
    · exact RpL.there r a z
  | .dK false ks ds, v, F, h, a, z => by
    obtain ⟨_, vs, e, s, f, _, _, r⟩ := h
    rw [f] at z; cases z
  | .dK true ks ds, v, F, h, a, z => by
    obtain ⟨b, vs, F', e, s, rfl, _, _, r⟩ := h
    rcases List.mem_cons.mp z with rfl | z
    · exact ⟨_, s, trivial⟩
    · exact RpL.there r a z
  | .dT false ks ds, v, F, h, a, z => by
    obtain ⟨_, vs, e, s, f, _, _, r⟩ := h
    rw [f] at z; cases z
  | .dT true ks ds, v, F, h, a, z => by
    obtain ⟨b, vs, F', e, s, rfl, _, _, r⟩ := h
    rcases List.mem_cons.mp z with rfl | z
    · exact ⟨_, s, trivial⟩
    · exact RpL.there r a z
  | .ins false C fs ds, v, F, h, a, z => by
    obtain ⟨_, _, vs, e, s, f, _, r⟩ := h
    rw [f] at z; cases z
  | .ins true C fs ds, v, F, h, a, z => by
    obtain ⟨b, dx, vs, F', e, s, rfl, _, r⟩ := h
    rcases List.mem_cons.mp z with rfl | z
    · exact ⟨_, s, trivial⟩
    · exact RpL.there r a z
theorem RpL.there : ∀ {ds : List D} {vs : List V} {F : List Addr}, RpL K G H ds vs F → ∀ a ∈ F, ∃ o, H a = some o ∧ Mut (some o)
  | [], _, _, h, a, z => by rw [h.2] at z; cases z
  | d :: ds, vs, F, h, a, z => by
    obtain ⟨v, vs', F1, F2, rfl, rfl, r, rs⟩ := h
    rcases List.mem_append.mp z with z | z
    · exact Rp.there r a z
    · exact RpL.there rs a z
end
theorem RpL.len : ∀ {ds : List D} {vs : List V} {F : List Addr}, RpL K G H ds vs F → ds.length = vs.length
  | [], _, _, h => by rw [h.1]; rfl
  | d :: ds, vs, F, h => by
    obtain ⟨v, vs', F1, F2, rfl, rfl, r, rs⟩ := h
    rw [List.length_cons, List.length_cons, RpL.len rs]
theorem RpL.append : ∀ {ds es : List D} {vs ws : List V} {F1 F2 : List Addr}, RpL K G H ds vs F1 → RpL K G H es ws F2 → RpL K G H (ds ++ es) (vs ++ ws) (F1 ++ F2)
  | [], es, vs, ws, F1, F2, h, k => by
    obtain ⟨rfl, rfl⟩ := h
    exact k
  | d :: ds, es, vs, ws, F1, F2, h, k => by
    obtain ⟨v, vs', A, B, rfl, rfl, r, rs⟩ := h
    exact ⟨v, vs' ++ ws, A, B ++ F2, rfl, List.append_assoc .., r, RpL.append rs k⟩
theorem RpL.split : ∀ {ds es : List D} {us : List V} {F : List Addr}, RpL K G H (ds ++ es) us F → ∃ vs ws F1 F2, us = vs ++ ws ∧ F = F1 ++ F2 ∧ RpL K G H ds vs F1 ∧ RpL K G H es ws F2
  | [], es, us, F, h => ⟨[], us, [], F, rfl, rfl, ⟨rfl, rfl⟩, h⟩
  | d :: ds, es, us, F, h => by
    obtain ⟨v, vs', A, B, rfl, rfl, r, rs⟩ := h
    obtain ⟨vs, ws, F1, F2, rfl, rfl, r1, r2⟩ := RpL.split rs
    exact ⟨v :: vs, ws, A ++ F1, F2, rfl, (List.append_assoc ..).symm, ⟨v, vs, A, F1, rfl, rfl, r, r1⟩, r2⟩
/-- where the values are told already -/
theorem RpL.split2 {ds es : List D} {vs ws : List V} {F : List Addr} (h : RpL K G H (ds ++ es) (vs ++ ws) F) (hl : ds.length = vs.length) : ∃ F1 F2, F = F1 ++ F2 ∧ RpL K G H ds vs F1 ∧ RpL K G H es ws F2 := by
  obtain ⟨vs', ws', F1, F2, e, f, r1, r2⟩ := RpL.split h
  obtain ⟨rfl, rfl⟩ := List.append_inj e (hl.symm.trans r1.len)
  exact ⟨F1, F2, f, r1, r2⟩
theorem RpL.one {d : D} {v : V} {F : List Addr} : RpL K G H [d] [v] F ↔ Rp K G H d v F := by
  constructor
  · rintro ⟨v', vs', F1, F2, e, rfl, r, rfl, rfl⟩
    cases e
    rw [List.append_nil]
    exact r
  · intro r
    exact ⟨v, [], F, [], rfl, (List.append_nil _).symm, r, rfl, rfl⟩
theorem RpL.get : ∀ {ds : List D} {vs : List V} {i : Nat} {d : D}, RpL K G H ds vs [] → ds[i]? = some d → ∃ v, vs[i]? = some v ∧ Rp K G H d v []
  | [], _, _, _, _, e => by simp at e
  | d :: ds, vs, 0, d', h, e => by
    obtain ⟨v, vs', F1, F2, rfl, f, r, rs⟩ := h
    obtain ⟨rfl, rfl⟩ := List.append_eq_nil_iff.mp f.symm
    simp at e
    subst e
    exact ⟨v, rfl, r⟩
  | d :: ds, vs, i + 1, d', h, e => by
    obtain ⟨v, vs', F1, F2, rfl, f, r, rs⟩ := h
    obtain ⟨rfl, rfl⟩ := List.append_eq_nil_iff.mp f.symm
    obtain ⟨w, hw, q⟩ := RpL.get (i := i) rs (by simpa using e)
    exact ⟨w, by simpa using hw, q⟩
/-- one place of a list, the others around it -/
theorem RpL.focus : ∀ {ds : List D} {vs : List V} {F : List Addr} {i : Nat} {d : D}, RpL K G H ds vs F → ds[i]? = some d →
    ∃ v A B C, vs[i]? = some v ∧ F = A ++ B ++ C ∧ Rp K G H d v B ∧ ∀ (G' H' : Hp) (d' : D) (v' : V) (B' : List Addr), Sub G G' → (∀ a ∈ A ++ C, H' a = H a) → Rp K G' H' d' v' B' → RpL K G' H' (ds.set i d') (vs.set i v') (A ++ B' ++ C)
  | [], _, _, _, _, _, e => by simp at e
  | d :: ds, vs, F, 0, d', h, e => by
    obtain ⟨v, vs', F1, F2, rfl, rfl, r, rs⟩ := h
    simp at e
    subst e
    refine ⟨v, [], F1, F2, rfl, rfl, r, fun G' H' d' v' B' hs k r' => ?_⟩
    exact ⟨v', vs', B', F2, rfl, rfl, r', RpL.mono hs k rs⟩
  | d :: ds, vs, F, i + 1, d', h, e => by
    obtain ⟨v, vs', F1, F2, rfl, rfl, r, rs⟩ := h
    obtain ⟨w, A, B, C, hw, rfl, q, back⟩ := RpL.focus (i := i) rs (by simpa using e)
    refine ⟨w, F1 ++ A, B, C, by simpa using hw, by simp only [List.append_assoc], q, fun G' H' d'' v'' B' hs k r' => ?_⟩
    refine ⟨v, vs'.set i v'', F1, A ++ B' ++ C, rfl, by simp only [List.append_assoc], Rp.mono hs (fun a z => k a ?_) r, back G' H' d'' v'' B' hs (fun a z => k a ?_) r'⟩
    · exact List.mem_append_left _ (List.mem_append_left _ z)
    · rcases List.mem_append.mp z with z | z
      · exact List.mem_append_left _ (List.mem_append_right _ z)
      · exact List.mem_append_right _ z
end
mutual
def frz : D → D
  | .hole => .hole
  | .val v => .val v
  | .non => .non
  | .bl b => .bl b
  | .int i => .int i
  | .str s => .str s
  | .ty n => .ty n
  | .pin u d => .pin u (frz d)
  | .exn a dd c row => .exn a dd c (frz row)
  | .tup xs => .tup (frzL xs)
  | .lst _ xs => .lst false (frzL xs)
  | .dK _ ks xs => .dK false ks (frzL xs)
  | .dT _ ks xs => .dT false ks (frzL xs)
  | .ins _ C fs xs => .ins false C fs (frzL xs)
def frzL : List D → List D
  | [] => []
  | d :: ds => frz d :: frzL ds
end
mutual
/-- nothing in it is ours -/
def isFz : D → Bool
  | .hole => true
  | .val _ => true
  | .non => true
  | .bl _ => true
  | .int _ => true
  | .str _ => true
  | .ty _ => true
  | .pin _ d => isFz d
  | .exn _ _ _ row => isFz row
  | .tup xs => isFzL xs
  | .lst m xs => !m && isFzL xs
  | .dK m _ xs => !m && isFzL xs
  | .dT m _ xs => !m && isFzL xs
  | .ins m _ _ xs => !m && isFzL xs
def isFzL : List D → Bool
  | [] => true
  | d :: ds => isFz d && isFzL ds
end
theorem frzL_map : ∀ ds : List D, frzL ds = ds.map frz
  | [] => rfl
  | d :: ds => by rw [frzL, frzL_map ds, List.map_cons]
theorem isFzL_all : ∀ ds : List D, isFzL ds = ds.all isFz
  | [] => rfl
  | d :: ds => by rw [isFzL, isFzL_all ds, List.all_cons]
section
variable {K : PySem.W.Frag} {G G' H H' : Hp}
mutual
theorem Rp.fz : ∀ {d : D} {v : V} {F : List Addr}, isFz d = true → Rp K G H d v F → F = []
  | .hole, _, _, _, h => h
  | .val _, _, _, _, h => h.2
  | .non, _, _, _, h => h.2
  | .bl _, _, _, _, h => h.2
  | .int _, _, _, _, h => h.2
  | .str _, _, _, _, h => h.2
  | .ty _, _, _, _, h => h.2
  | .pin u d, v, F, q, h => Rp.fz (d := d) q h.2
  | .exn _ _ _ row, v, F, q, h => by
    obtain ⟨e, w, s, r⟩ := h
    exact Rp.fz (d := row) q r
  | .tup ds, v, F, q, h => by
    obtain ⟨_, vs, e, s, r⟩ := h
    exact RpL.fz (by simpa [isFz] using q) r
  | .lst false ds, v, F, q, h => by
    obtain ⟨_, vs, e, s, f, r⟩ := h
    exact f
  | .lst true ds, v, F, q, h => by simp [isFz] at q
  | .dK false ks ds, v, F, q, h => by
    obtain ⟨_, vs, e, s, f, _⟩ := h
    exact f
  | .dK true ks ds, v, F, q, h => by simp [isFz] at q
  | .dT false ks ds, v, F, q, h => by
    obtain ⟨_, vs, e, s, f, _⟩ := h
    exact f
  | .dT true ks ds, v, F, q, h => by simp [isFz] at q
  | .ins false C fs ds, v, F, q, h => by
    obtain ⟨_, _, vs, e, s, f, _⟩ := h
    exact f
  | .ins true C fs ds, v, F, q, h => by simp [isFz] at q
theorem RpL.fz : ∀ {ds : List D} {vs : List V} {F : List Addr}, isFzL ds = true → RpL K G H ds vs F → F = []
  | [], _, _, _, h => h.2
  | d :: ds, vs, F, q, h => by
    obtain ⟨v, vs', F1, F2, rfl, rfl, r, rs⟩ := h
    have q2 : (isFz d && isFzL ds) = true := q
    obtain ⟨q3, q4⟩ := Bool.and_eq_true_iff.mp q2
    rw [Rp.fz q3 r, RpL.fz q4 rs]
    rfl
end
mutual
/-- what is ours is let stand still -/
theorem Rp.freeze (hs : Sub G G') : ∀ {d : D} {v : V} {F : List Addr}, (∀ a ∈ F, G' a = H a) → Rp K G H d v F → Rp K G' H' (frz d) v []
  | .hole, _, _, _, h => rfl
  | .val _, _, _, _, h => ⟨h.1, rfl⟩
  | .non, _, _, _, h => ⟨h.1, rfl⟩
  | .bl _, _, _, _, h => ⟨h.1, rfl⟩
  | .int _, _, _, _, h => ⟨h.1, rfl⟩
  | .str _, _, _, _, h => ⟨h.1, rfl⟩
  | .ty _, _, _, _, h => ⟨h.1, rfl⟩
  | .pin u d, v, F, k, h => ⟨h.1, Rp.freeze hs k h.2⟩
  | .exn _ _ _ row, v, F, k, h => by
    obtain ⟨e, w, s, r⟩ := h
    exact ⟨⟨e.1, hs _ _ e.2⟩, w, hs _ _ s, Rp.freeze hs k r⟩
  | .tup ds, v, F, k, h => by
    obtain ⟨a, vs, e, s, r⟩ := h
    exact ⟨a, vs, e, hs _ _ s, RpL.freeze hs k r⟩
  | .lst false ds, v, F, k, h => by
    obtain ⟨a, vs, e, s, f, r⟩ := h
    exact ⟨a, vs, e, hs.sqL s, rfl, RpL.freeze (F := []) hs (fun _ z => nomatch z) r⟩
  | .lst true ds, v, F, k, h => by
    obtain ⟨a, vs, F', e, s, rfl, r⟩ := h
    exact ⟨a, vs, e, SqL.of ((k a List.mem_cons_self).trans s), rfl, RpL.freeze hs (fun b z => k b (List.mem_cons_of_mem _ z)) r⟩
  | .dK false ks ds, v, F, k, h => by
    obtain ⟨a, vs, e, s, f, l, n, r⟩ := h
    exact ⟨a, vs, e, hs.rd s, rfl, by rw [frzL_map, List.length_map]; exact l, n, RpL.freeze (F := []) hs (fun _ z => nomatch z) r⟩
  | .dK true ks ds, v, F, k, h => by
    obtain ⟨a, vs, F', e, s, rfl, l, n, r⟩ := h
    exact ⟨a, vs, e, .inl ((k a List.mem_cons_self).trans s), rfl, by rw [frzL_map, List.length_map]; exact l, n, RpL.freeze hs (fun b z => k b (List.mem_cons_of_mem _ z)) r⟩
  | .dT false ks ds, v, F, k, h => by
    obtain ⟨a, vs, e, s, f, l, n, r⟩ := h
    exact ⟨a, vs, e, hs _ _ s, rfl, by rw [frzL_map, List.length_map]; exact l, n, RpL.freeze (F := []) hs (fun _ z => nomatch z) r⟩
  | .dT true ks ds, v, F, k, h => by
    obtain ⟨a, vs, F', e, s, rfl, l, n, r⟩ := h
    exact ⟨a, vs, e, (k a List.mem_cons_self).trans s, rfl, by rw [frzL_map, List.length_map]; exact l, n, RpL.freeze hs (fun b z => k b (List.mem_cons_of_mem _ z)) r⟩
  | .ins false C fs ds, v, F, k, h => by
    obtain ⟨a, dx, vs, e, s, f, l, r⟩ := h
    exact ⟨a, dx, vs, e, hs _ _ s, rfl, by rw [frzL_map, List.length_map]; exact l, RpL.freeze (F := []) hs (fun _ z => nomatch z) r⟩
  | .ins true C fs ds, v, F, k, h => by
    obtain ⟨a, dx, vs, F', e, s, rfl, l, r⟩ := h
    exact ⟨a, dx, vs, e, (k a List.mem_cons_self).trans s, rfl, by rw [frzL_map, List.length_map]; exact l, RpL.freeze hs (fun b z => k b (List.mem_cons_of_mem _ z)) r⟩
theorem RpL.freeze (hs : Sub G G') : ∀ {ds : List D} {vs : List V} {F : List Addr}, (∀ a ∈ F, G' a = H a) → RpL K G H ds vs F → RpL K G' H' (frzL ds) vs []
  | [], _, _, _, h => ⟨h.1, rfl⟩
  | d :: ds, vs, F, k, h => by
    obtain ⟨v, vs', F1, F2, rfl, rfl, r, rs⟩ := h
    exact ⟨v, vs', [], [], rfl, rfl, Rp.freeze hs (fun a z => k a (List.mem_append_left _ z)) r, RpL.freeze hs (fun a z => k a (List.mem_append_right _ z)) rs⟩
end
end
mutual
theorem frz_id : ∀ {d : D}, isFz d = true → frz d = d
  | .hole, _ => rfl
  | .val _, _ => rfl
  | .non, _ => rfl
  | .bl _, _ => rfl
  | .int _, _ => rfl
  | .str _, _ => rfl
  | .ty _, _ => rfl
  | .pin u d, q => by rw [frz, frz_id (d := d) q]
  | .exn _ _ _ row, q => by rw [frz, frz_id (d := row) q]
  | .tup xs, q => by rw [frz, frzL_id (by simpa [isFz] using q)]
  | .lst m xs, q => by
    obtain ⟨q1, q2⟩ := Bool.and_eq_true_iff.mp (show (!m && isFzL xs) = true from q)
    rw [frz, frzL_id q2, show m = false by simpa using q1]
  | .dK m ks xs, q => by
    obtain ⟨q1, q2⟩ := Bool.and_eq_true_iff.mp (show (!m && isFzL xs) = true from q)
    rw [frz, frzL_id q2, show m = false by simpa using q1]
  | .dT m ks xs, q => by
    obtain ⟨q1, q2⟩ := Bool.and_eq_true_iff.mp (show (!m && isFzL xs) = true from q)
    rw [frz, frzL_id q2, show m = false by simpa using q1]
  | .ins m C fs xs, q => by
    obtain ⟨q1, q2⟩ := Bool.and_eq_true_iff.mp (show (!m && isFzL xs) = true from q)
    rw [frz, frzL_id q2, show m = false by simpa using q1]
theorem frzL_id : ∀ {ds : List D}, isFzL ds = true → frzL ds = ds
  | [], _ => rfl
  | d :: ds, q => by
    obtain ⟨q1, q2⟩ := Bool.and_eq_true_iff.mp (show (isFz d && isFzL ds) = true from q)
    rw [frzL, frz_id q1, frzL_id q2]
end
mutual
theorem isFz_frz : ∀ d : D, isFz (frz d) = true
  | .hole => rfl
  | .val _ => rfl
  | .non => rfl
  | .bl _ => rfl
  | .int _ => rfl
  | .str _ => rfl
  | .ty _ => rfl
  | .pin u d => by rw [frz, isFz, isFz_frz]
  | .exn _ _ _ row => by rw [frz, isFz, isFz_frz]
  | .tup xs => by rw [frz, isFz, isFzL_frz]
  | .lst m xs => by rw [frz, isFz, isFzL_frz]; rfl
  | .dK m ks xs => by rw [frz, isFz, isFzL_frz]; rfl
  | .dT m ks xs => by rw [frz, isFz, isFzL_frz]; rfl
  | .ins m C fs xs => by rw [frz, isFz, isFzL_frz]; rfl
theorem isFzL_frz : ∀ ds : List D, isFzL (frzL ds) = true
  | [] => rfl
  | d :: ds => by rw [frzL, isFzL, isFz_frz, isFzL_frz]; rfl
end
end VL
namespace VL
open PySem PySem.Spec PyProof.Rows L2 VL
abbrev Ep := List (Option D)
/-- a slot: told, or not told -/
def RpO (K : PySem.W.Frag) (G H : Hp) : Option D → Option V → List Addr → Prop
  | none, _, F => F = []
  | some d, ov, F => ∃ v, ov = some v ∧ Rp K G H d v F
def RpS (K : PySem.W.Frag) (G H : Hp) : Ep → L2.St → List Addr → Prop
  | [], σ, F => σ = [] ∧ F = []
  | od :: ε, σ, F => ∃ ov σ' F1 F2, σ = ov :: σ' ∧ F = F1 ++ F2 ∧ RpO K G H od ov F1 ∧ RpS K G H ε σ' F2
section
variable {K : PySem.W.Frag} {G G' H H' : Hp}
theorem RpO.mono (hs : Sub G G') {od : Option D} {ov : Option V} {F : List Addr} (k : ∀ a ∈ F, H' a = H a) (h : RpO K G H od ov F) : RpO K G' H' od ov F := by
  cases od with
  | none => exact h
  | some d =>
    obtain ⟨v, e, r⟩ := h
    exact ⟨v, e, r.mono hs k⟩
theorem RpS.mono (hs : Sub G G') : ∀ {ε : Ep} {σ : L2.St} {F : List Addr}, (∀ a ∈ F, H' a = H a) → RpS K G H ε σ F → RpS K G' H' ε σ F
  | [], _, _, _, h => h
  | od :: ε, σ, F, k, h => by
    obtain ⟨ov, σ', F1, F2, rfl, rfl, r, rs⟩ := h
    exact ⟨ov, σ', F1, F2, rfl, rfl, r.mono hs (fun a z => k a (List.mem_append_left _ z)), RpS.mono hs (fun a z => k a (List.mem_append_right _ z)) rs⟩
theorem RpS.there : ∀ {ε : Ep} {σ : L2.St} {F : List Addr}, RpS K G H ε σ F → ∀ a ∈ F, ∃ o, H a = some o ∧ Mut (some o)
  | [], _, _, h, a, z => by rw [h.2] at z; cases z
  | od :: ε, σ, F, h, a, z => by
    obtain ⟨ov, σ', F1, F2, rfl, rfl, r, rs⟩ := h
    rcases List.mem_append.mp z with z | z
    · cases od with
      | none => rw [show F1 = [] from r] at z; cases z
      | some d =>
        obtain ⟨v, _, r⟩ := r
        exact r.there a z
    · exact RpS.there rs a z
theorem RpS.focus : ∀ {ε : Ep} {σ : L2.St} {F : List Addr} {i : Nat} {od : Option D}, RpS K G H ε σ F → ε[i]? = some od →
    ∃ ov A B C, σ[i]? = some ov ∧ F = A ++ B ++ C ∧ RpO K G H od ov B ∧ ∀ (G' H' : Hp) (od' : Option D) (ov' : Option V) (B' : List Addr), Sub G G' → (∀ a ∈ A ++ C, H' a = H a) → RpO K G' H' od' ov' B' → RpS K G' H' (ε.set i od') (σ.set i ov') (A ++ B' ++ C)
  | [], _, _, _, _, _, e => by simp at e
  | od :: ε, σ, F, 0, od', h, e => by
    obtain ⟨ov, σ', F1, F2, rfl, rfl, r, rs⟩ := h
    simp at e
    subst e
    refine ⟨ov, [], F1, F2, rfl, rfl, r, fun G' H' od' ov' B' hs k r' => ?_⟩
    exact ⟨ov', σ', B', F2, rfl, rfl, r', RpS.mono hs k rs⟩
  | od :: ε, σ, F, i + 1, od', h, e => by
    obtain ⟨ov, σ', F1, F2, rfl, rfl, r, rs⟩ := h
    obtain ⟨w, A, B, C, hw, rfl, q, back⟩ := RpS.focus (i := i) rs (by simpa using e)
    refine ⟨w, F1 ++ A, B, C, by simpa using hw, by simp only [List.append_assoc], q, fun G' H' od'' ov'' B' hs k r' => ?_⟩
    refine ⟨ov, σ'.set i ov'', F1, A ++ B' ++ C, rfl, by simp only [List.append_assoc], r.mono hs (fun a z => k a ?_), back G' H' od'' ov'' B' hs (fun a z => k a ?_) r'⟩
    · exact List.mem_append_left _ (List.mem_append_left _ z)
    · rcases List.mem_append.mp z with z | z
      · exact List.mem_append_left _ (List.mem_append_right _ z)
      · exact List.mem_append_right _ z
theorem RpS.len : ∀ {ε : Ep} {σ : L2.St} {F : List Addr}, RpS K G H ε σ F → ε.length = σ.length
  | [], _, _, h => by rw [h.1]; rfl
  | od :: ε, σ, F, h => by
    obtain ⟨ov, σ', F1, F2, rfl, rfl, r, rs⟩ := h
    rw [List.length_cons, List.length_cons, RpS.len rs]
end
/-- the ground of a def's run: the heap at the entry, what stands still in it, what was handed in to be changed, the kept parameters' values -/
structure Bs where
  H0 : Hp
  G0 : Hp
  F0 : List Addr
  kv : List (Option V) := []
structure SIx (K : PySem.W.Frag) (b : Bs) (G : Hp) (F Ft : List Addr) (σ : L2.St) (H : Hp) (ε : Ep) (T : List D) (Tv : List V) : Prop where
  s0 : Sub b.G0 G
  sub : Sub G H
  slots : RpS K G H ε σ F
  temps : RpL K G H T Tv Ft
  nd : (F ++ Ft).Nodup
  fr : ∀ a ∈ F ++ Ft, G a = none
  own : ∀ a ∈ F ++ Ft, a ∈ b.F0 ∨ b.H0 a = none
  gn : ∀ a o, G a = some o → b.G0 a = some o ∨ a ∈ b.F0 ∨ b.H0 a = none ∨ ∃ vs, o = .tup vs
  keep : ∀ a o, b.H0 a = some o → a ∉ b.F0 → H a = some o
  kept : ∀ (j : Nat) v, b.kv[j]? = some (some v) → σ[j]? = some (some v)
theorem inl3 {p q r : Prop} (h : p ∨ q) : p ∨ q ∨ r := h.elim .inl fun h => .inr (.inl h)
def SI (K : PySem.W.Frag) (b : Bs) (σ : L2.St) (H : Hp) (ε : Ep) (T : List D) (Tv : List V) : Prop := ∃ G F Ft, SIx K b G F Ft σ H ε T Tv
section
variable {K : PySem.W.Frag} {b : Bs} {σ : L2.St} {H H' : Hp} {ε : Ep} {T : List D} {Tv : List V}
theorem SIx.lenT {G F Ft} (I : SIx K b G F Ft σ H ε T Tv) : T.length = Tv.length := I.temps.len
theorem SI.lenT (I : SI K b σ H ε T Tv) : T.length = Tv.length := let ⟨_, _, _, J⟩ := I; J.lenT
theorem SIx.ne {G F Ft} (I : SIx K b G F Ft σ H ε T Tv) {p : Addr} (n : H p = none) : p ∉ F ++ Ft := fun z => by
  rcases List.mem_append.mp z with z | z
  · obtain ⟨o, e, _⟩ := I.slots.there p z
    rw [n] at e; cases e
  · obtain ⟨o, e, _⟩ := I.temps.there p z
    rw [n] at e; cases e
theorem SIx.gne {G F Ft} (I : SIx K b G F Ft σ H ε T Tv) {p : Addr} (n : H p = none) : G p = none := by
  cases e : G p with
  | none => rfl
  | some o =>
    have := I.sub p o e
    rw [n] at this; cases this
theorem SIx.h0 {G F Ft} (I : SIx K b G F Ft σ H ε T Tv) {p : Addr} (n : H p = none) : p ∈ b.F0 ∨ b.H0 p = none := by
  cases e : b.H0 p with
  | none => exact .inr rfl
  | some o =>
    by_cases h : p ∈ b.F0
    · exact .inl h
    · have := I.keep p o e h
      rw [n] at this; cases this
/-- the heap grows -/
theorem SIx.grow {G F Ft} (I : SIx K b G F Ft σ H ε T Tv) (h : Sub H H') : SIx K b G F Ft σ H' ε T Tv where
  s0 := I.s0
  sub := I.sub.trans h
  slots := I.slots.mono Sub.refl fun a z => by
    obtain ⟨o, e, _⟩ := I.slots.there a z
    rw [e, h a o e]
  temps := I.temps.mono Sub.refl fun a z => by
    obtain ⟨o, e, _⟩ := I.temps.there a z
    rw [e, h a o e]
  nd := I.nd
  fr := I.fr
  own := I.own
  gn := I.gn
  keep := fun a o e n => h a o (I.keep a o e n)
  kept := I.kept
theorem SI.grow (I : SI K b σ H ε T Tv) (h : Sub H H') : SI K b σ H' ε T Tv := let ⟨G, F, Ft, J⟩ := I; ⟨G, F, Ft, J.grow h⟩
/-- the last held things are let go -/
theorem SI.drop {R : List D} {Rv : List V} (I : SI K b σ H ε (T ++ R) (Tv ++ Rv)) (hl : T.length = Tv.length) : SI K b σ H ε T Tv := by
  obtain ⟨G, F, Ft, J⟩ := I
  obtain ⟨F1, F2, rfl, r1, r2⟩ := J.temps.split2 hl
  have sb : ∀ a, a ∈ F ++ F1 → a ∈ F ++ (F1 ++ F2) := fun a z => by
    rcases List.mem_append.mp z with z | z
    · exact List.mem_append_left _ z
    · exact List.mem_append_right _ (List.mem_append_left _ z)
  refine ⟨G, F, F1, J.s0, J.sub, J.slots, r1, ?_, fun a z => J.fr a (sb a z), fun a z => J.own a (sb a z), J.gn, J.keep, J.kept⟩
  have := J.nd
  rw [← List.append_assoc] at this
  exact (List.nodup_append.mp this).1
/-- a thing that stands still is held -/
theorem SIx.push {G F Ft} (I : SIx K b G F Ft σ H ε T Tv) {d : D} {v : V} (r : Rp K G H d v []) : SIx K b G F Ft σ H ε (T ++ [d]) (Tv ++ [v]) := by
  have h := I.temps.append (RpL.one.mpr r)
  rw [List.append_nil] at h
  exact ⟨I.s0, I.sub, I.slots, h, I.nd, I.fr, I.own, I.gn, I.keep, I.kept⟩
theorem SI.push (I : SI K b σ H ε T Tv) {d : D} {v : V} (r : ∀ G, Rp K G H d v []) : SI K b σ H ε (T ++ [d]) (Tv ++ [v]) := let ⟨G, F, Ft, J⟩ := I; ⟨G, F, Ft, J.push (r G)⟩
/-- a slot that stands still -/
theorem SI.var (I : SI K b σ H ε T Tv) {i : Nat} {d : D} (e : ε[i]? = some (some d)) (z : isFz d = true) : ∃ v, σ[i]? = some (some v) ∧ SI K b σ H ε (T ++ [d]) (Tv ++ [v]) := by
  obtain ⟨G, F, Ft, J⟩ := I
  obtain ⟨ov, A, B, C, hs, rfl, r, _⟩ := J.slots.focus e
  obtain ⟨v, rfl, r⟩ := r
  have := r.fz z
  subst this
  exact ⟨v, hs, G, _, Ft, J.push r⟩
/-- a slot is moved out -/
theorem SI.mov (I : SI K b σ H ε T Tv) {i : Nat} {d : D} (e : ε[i]? = some (some d)) : ∃ v, σ[i]? = some (some v) ∧ SI K b σ H (ε.set i none) (T ++ [d]) (Tv ++ [v]) := by
  obtain ⟨G, F, Ft, J⟩ := I
  obtain ⟨ov, A, B, C, hs, rfl, r, back⟩ := J.slots.focus e
  obtain ⟨v, rfl, r⟩ := r
  have s2 := back G H none (some v) [] Sub.refl (fun _ _ => rfl) rfl
  have es : σ.set i (some v) = σ := by
    apply List.ext_getElem?
    intro j
    rw [List.getElem?_set]
    split
    · rename_i h
      subst h
      split
      · exact hs.symm
      · rename_i h
        rw [List.getElem?_eq_none (by omega)] at hs
        cases hs
    · rfl
  rw [es, List.append_nil] at s2
  have pm : (A ++ B ++ C ++ Ft).Perm (A ++ C ++ (Ft ++ B)) := by
    have h1 : (A ++ B ++ C ++ Ft).Perm (A ++ C ++ Ft ++ B) := by
      have : (A ++ B ++ (C ++ Ft)).Perm (A ++ (C ++ Ft) ++ B) := by
        rw [List.append_assoc, List.append_assoc]
        exact List.Perm.append_left A List.perm_append_comm
      simpa only [List.append_assoc] using this
    simpa only [List.append_assoc] using h1
  refine ⟨v, hs, G, A ++ C, Ft ++ B, J.s0, J.sub, s2, J.temps.append (RpL.one.mpr r), pm.nodup_iff.mp J.nd, fun a z => J.fr a (pm.mem_iff.mpr z), fun a z => J.own a (pm.mem_iff.mpr z), J.gn, J.keep, J.kept⟩
/-- the last held thing goes to a slot; what was there is let go -/
theorem SI.store {d : D} {v : V} (I : SI K b σ H ε (T ++ [d]) (Tv ++ [v])) (hl : T.length = Tv.length) {i : Nat} (hi : i < ε.length) (hk : ∀ u, b.kv[i]? ≠ some (some u)) : SI K b (σ.set i (some v)) H (ε.set i (some d)) T Tv := by
  obtain ⟨G, F, Ft, J⟩ := I
  obtain ⟨F1, F2, rfl, r1, r2⟩ := J.temps.split2 hl
  have r2 := RpL.one.mp r2
  obtain ⟨ov, A, B, C, hs, rfl, r, back⟩ := J.slots.focus (i := i) (List.getElem?_eq_getElem hi)
  have s2 := back G H (some d) (some v) F2 Sub.refl (fun _ _ => rfl) ⟨v, rfl, r2⟩
  have sb : ∀ a, a ∈ A ++ F2 ++ C ++ F1 → a ∈ A ++ B ++ C ++ (F1 ++ F2) := fun a z => by
    simp only [List.mem_append] at z ⊢
    rcases z with ((z | z) | z) | z
    · exact .inl (.inl (.inl z))
    · exact .inr (.inr z)
    · exact .inl (.inr z)
    · exact .inr (.inl z)
  have nd : (A ++ F2 ++ C ++ F1).Nodup := by
    have h1 : (A ++ B ++ C ++ (F1 ++ F2)).Perm (B ++ (A ++ F2 ++ C ++ F1)) := by
      apply List.perm_iff_count.mpr
      intro a
      simp only [List.count_append]
      omega
    exact (List.nodup_append.mp (h1.nodup_iff.mp J.nd)).2.1
  refine ⟨G, _, F1, J.s0, J.sub, s2, r1, nd, fun a z => J.fr a (sb a z), fun a z => J.own a (sb a z), J.gn, J.keep, fun j u e => ?_⟩
  have hj : i ≠ j := fun z => by
    subst z
    exact hk u e
  rw [List.getElem?_set_ne hj]
  exact J.kept j u e
/-- a slot is told again that was moved out, its value as it was -/
theorem SI.back {d : D} {v : V} (I : SI K b σ H ε (T ++ [d]) (Tv ++ [v])) (hl : T.length = Tv.length) {i : Nat} (hs : σ[i]? = some (some v)) : SI K b σ H (ε.set i (some d)) T Tv := by
  obtain ⟨G, F, Ft, J⟩ := I
  obtain ⟨F1, F2, rfl, r1, r2⟩ := J.temps.split2 hl
  have r2 := RpL.one.mp r2
  have hi : i < ε.length := by
    rw [J.slots.len]
    exact (List.getElem?_eq_some_iff.mp hs).1
  obtain ⟨ov, A, B, C, hs', rfl, r, back⟩ := J.slots.focus (i := i) (List.getElem?_eq_getElem hi)
  have s2 := back G H (some d) (some v) F2 Sub.refl (fun _ _ => rfl) ⟨v, rfl, r2⟩
  have es : σ.set i (some v) = σ := by
    apply List.ext_getElem?
    intro j
    rw [List.getElem?_set]
    split
    · rename_i h
      subst h
      split
      · exact hs.symm
      · rename_i h
        rw [List.getElem?_eq_none (by omega)] at hs
        cases hs
    · rfl
  rw [es] at s2
  have sb : ∀ a, a ∈ A ++ F2 ++ C ++ F1 → a ∈ A ++ B ++ C ++ (F1 ++ F2) := fun a z => by
    simp only [List.mem_append] at z ⊢
    rcases z with ((z | z) | z) | z
    · exact .inl (.inl (.inl z))
    · exact .inr (.inr z)
    · exact .inl (.inr z)
    · exact .inr (.inl z)
  have nd : (A ++ F2 ++ C ++ F1).Nodup := by
    have h1 : (A ++ B ++ C ++ (F1 ++ F2)).Perm (B ++ (A ++ F2 ++ C ++ F1)) := by
      apply List.perm_iff_count.mpr
      intro a
      simp only [List.count_append]
      omega
    exact (List.nodup_append.mp (h1.nodup_iff.mp J.nd)).2.1
  exact ⟨G, _, F1, J.s0, J.sub, s2, r1, nd, fun a z => J.fr a (sb a z), fun a z => J.own a (sb a z), J.gn, J.keep, J.kept⟩
/-- the last held thing is let stand still -/
theorem SI.freeze {d : D} {v : V} (I : SI K b σ H ε (T ++ [d]) (Tv ++ [v])) (hl : T.length = Tv.length) : SI K b σ H ε (T ++ [frz d]) (Tv ++ [v]) := by
  obtain ⟨G, F, Ft, J⟩ := I
  obtain ⟨F1, F2, rfl, r1, r2⟩ := J.temps.split2 hl
  have r2 := RpL.one.mp r2
  let G' : Hp := fun a => if a ∈ F2 then H a else G a
  have g1 : ∀ a ∈ F2, G' a = H a := fun a z => if_pos z
  have g2 : ∀ a, a ∉ F2 → G' a = G a := fun a z => if_neg z
  have nF : ∀ a ∈ F2, G a = none := fun a z => J.fr a (List.mem_append_right _ (List.mem_append_right _ z))
  have hs : Sub G G' := fun a o e => by
    by_cases h : a ∈ F2
    · rw [nF a h] at e; cases e
    · rw [g2 a h]; exact e
  have dj : ∀ a ∈ F ++ F1, a ∉ F2 := fun a z h => by
    have := J.nd
    rw [← List.append_assoc] at this
    exact (List.nodup_append.mp this).2.2 a z a h rfl
  have sb : ∀ a, a ∈ F ++ F1 → a ∈ F ++ (F1 ++ F2) := fun a z => by
    rcases List.mem_append.mp z with z | z
    · exact List.mem_append_left _ z
    · exact List.mem_append_right _ (List.mem_append_left _ z)
  refine ⟨G', F, F1, J.s0.trans hs, fun a o e => ?_, J.slots.mono hs (fun _ _ => rfl), ?_, ?_, fun a z => ?_, fun a z => J.own a (sb a z), fun a o e => ?_, J.keep, J.kept⟩
  · by_cases h : a ∈ F2
    · rw [g1 a h] at e; exact e
    · rw [g2 a h] at e; exact J.sub a o e
  · have := (r1.mono (H' := H) hs (fun _ _ => rfl)).append (RpL.one.mpr (Rp.freeze (H' := H) hs g1 r2))
    rw [List.append_nil] at this
    exact this
  · have := J.nd
    rw [← List.append_assoc] at this
    exact (List.nodup_append.mp this).1
  · rw [g2 a (dj a z)]
    exact J.fr a (sb a z)
  · by_cases h : a ∈ F2
    · exact .inr (inl3 (J.own a (List.mem_append_right _ (List.mem_append_right _ h))))
    · rw [g2 a h] at e
      exact J.gn a o e
/-- a new object that is ours, out of the last held things -/
theorem SI.laid {ds : List D} {vs : List V} (I : SI K b σ H ε (T ++ ds) (Tv ++ vs)) (hl : T.length = Tv.length) {p : Addr} (n : H p = none) (o : HO) {d : D}
    (r : ∀ (G H' : Hp) (F : List Addr), H' p = some o → RpL K G H' ds vs F → Rp K G H' d (.ref p) (p :: F)) : SI K b σ (upd H p o) ε (T ++ [d]) (Tv ++ [.ref p]) := by
  obtain ⟨G, F, Ft, J⟩ := I
  obtain ⟨F1, F2, rfl, r1, r2⟩ := J.temps.split2 hl
  have np := J.ne n
  have su : Sub H (upd H p o) := Sub.laid n
  have ev : ∀ a ∈ F ++ (F1 ++ F2), upd H p o a = H a := fun a z => upd_ne fun e => np (e ▸ z)
  refine ⟨G, F, F1 ++ (p :: F2), J.s0, J.sub.trans su, J.slots.mono Sub.refl fun a z => ev a (List.mem_append_left _ z), ?_, ?_, fun a z => ?_, fun a z => ?_, J.gn, fun a u e h => su a u (J.keep a u e h), J.kept⟩
  · refine (r1.mono Sub.refl fun a z => ev a (List.mem_append_right _ (List.mem_append_left _ z))).append (RpL.one.mpr ?_)
    exact r G _ F2 upd_same (r2.mono Sub.refl fun a z => ev a (List.mem_append_right _ (List.mem_append_right _ z)))
  · have h1 : (F ++ (F1 ++ (p :: F2))).Perm (p :: (F ++ (F1 ++ F2))) := by
      apply List.perm_iff_count.mpr
      intro a
      simp only [List.count_append, List.count_cons]
      omega
    exact h1.nodup_iff.mpr (List.nodup_cons.mpr ⟨np, J.nd⟩)
  · by_cases h : a = p
    · subst h; exact J.gne n
    · refine J.fr a ?_
      simp only [List.mem_append, List.mem_cons] at z ⊢
      rcases z with z | z | z | z
      · exact .inl z
      · exact .inr (.inl z)
      · exact absurd z h
      · exact .inr (.inr z)
  · by_cases h : a = p
    · subst h; exact J.h0 n
    · refine J.own a ?_
      simp only [List.mem_append, List.mem_cons] at z ⊢
      rcases z with z | z | z | z
      · exact .inl z
      · exact .inr (.inl z)
      · exact absurd z h
      · exact .inr (.inr z)
/-- a new tuple out of the last held things -/
theorem SI.tup {ds : List D} {vs : List V} (I : SI K b σ H ε (T ++ ds) (Tv ++ vs)) (hl : T.length = Tv.length) {p : Addr} (n : H p = none) : SI K b σ (upd H p (.tup vs)) ε (T ++ [.tup ds]) (Tv ++ [.ref p]) := by
  obtain ⟨G, F, Ft, J⟩ := I
  obtain ⟨F1, F2, rfl, r1, r2⟩ := J.temps.split2 hl
  have np := J.ne n
  have gp := J.gne n
  have su : Sub H (upd H p (.tup vs)) := Sub.laid n
  have sg : Sub G (upd G p (.tup vs)) := Sub.laid gp
  have ev : ∀ a ∈ F ++ (F1 ++ F2), upd H p (.tup vs) a = H a := fun a z => upd_ne fun e => np (e ▸ z)
  refine ⟨upd G p (.tup vs), F, F1 ++ F2, J.s0.trans sg, J.sub.upd2, J.slots.mono sg fun a z => ev a (List.mem_append_left _ z), ?_, J.nd, fun a z => ?_, J.own, fun a o e => ?_, fun a u e h => su a u (J.keep a u e h), J.kept⟩
  · refine (r1.mono sg fun a z => ev a (List.mem_append_right _ (List.mem_append_left _ z))).append (RpL.one.mpr ?_)
    exact ⟨p, vs, rfl, upd_same, r2.mono sg fun a z => ev a (List.mem_append_right _ (List.mem_append_right _ z))⟩
  · have ha : a ≠ p := fun e => np (e ▸ z)
    rw [upd_ne ha]
    exact J.fr a z
  · by_cases h : a = p
    · subst h; exact .inr (inl3 (J.h0 n))
    · rw [upd_ne h] at e
      exact J.gn a o e
end
end VL
namespace VL
open PySem PySem.Spec PyProof.Rows L2 VL
section
variable {K : PySem.W.Frag} {b : Bs} {σ : L2.St} {H H' : Hp} {ε : Ep} {T : List D} {Tv : List V}
theorem setSelf {α : Type} {l : List α} {i : Nat} {x : α} (h : l[i]? = some x) : l.set i x = l := by
  apply List.ext_getElem?
  intro j
  rw [List.getElem?_set]
  split
  · rename_i e
    subst e
    split
    · exact h.symm
    · rename_i e
      rw [List.getElem?_eq_none (by omega)] at h
      cases h
  · rfl
/-- a held thing amid others is let go -/
theorem SI.midDrop {d : D} {v : V} {R : List D} {Rv : List V} (I : SI K b σ H ε (T ++ d :: R) (Tv ++ v :: Rv)) (hl : T.length = Tv.length) : SI K b σ H ε (T ++ R) (Tv ++ Rv) := by
  obtain ⟨G, F, Ft, J⟩ := I
  obtain ⟨F1, F2, rfl, r1, r2⟩ := J.temps.split2 hl
  obtain ⟨v', vs', A, B, e, rfl, rd, rs⟩ := r2
  obtain ⟨rfl, rfl⟩ := List.cons.inj e
  have sb : ∀ a, a ∈ F ++ (F1 ++ B) → a ∈ F ++ (F1 ++ (A ++ B)) := fun a z => by
    simp only [List.mem_append] at z ⊢
    rcases z with z | z | z
    · exact .inl z
    · exact .inr (.inl z)
    · exact .inr (.inr (.inr z))
  have nd : (F ++ (F1 ++ B)).Nodup := by
    have h1 : (F ++ (F1 ++ (A ++ B))).Perm (A ++ (F ++ (F1 ++ B))) := by
      apply List.perm_iff_count.mpr
      intro a
      simp only [List.count_append]
      omega
    exact (List.nodup_append.mp (h1.nodup_iff.mp J.nd)).2.1
  exact ⟨G, F, F1 ++ B, J.s0, J.sub, J.slots, r1.append rs, nd, fun a z => J.fr a (sb a z), fun a z => J.own a (sb a z), J.gn, J.keep, J.kept⟩
/-- a held thing amid others goes back to its slot -/
theorem SI.midBack {d : D} {v : V} {R : List D} {Rv : List V} (I : SI K b σ H ε (T ++ d :: R) (Tv ++ v :: Rv)) (hl : T.length = Tv.length) {i : Nat} (hs : σ[i]? = some (some v)) : SI K b σ H (ε.set i (some d)) (T ++ R) (Tv ++ Rv) := by
  obtain ⟨G, F, Ft, J⟩ := I
  obtain ⟨F1, F2, rfl, r1, r2⟩ := J.temps.split2 hl
  obtain ⟨v', vs', A, B, e, rfl, rd, rs⟩ := r2
  obtain ⟨rfl, rfl⟩ := List.cons.inj e
  have hi : i < ε.length := by
    rw [J.slots.len]
    exact (List.getElem?_eq_some_iff.mp hs).1
  obtain ⟨ov, C, E, L, hs', rfl, ro, back⟩ := J.slots.focus (i := i) (List.getElem?_eq_getElem hi)
  have s2 := back G H (some d) (some v) A Sub.refl (fun _ _ => rfl) ⟨v, rfl, rd⟩
  rw [setSelf hs] at s2
  have sb : ∀ a, a ∈ C ++ A ++ L ++ (F1 ++ B) → a ∈ C ++ E ++ L ++ (F1 ++ (A ++ B)) := fun a z => by
    simp only [List.mem_append] at z ⊢
    rcases z with ((z | z) | z) | z | z
    · exact .inl (.inl (.inl z))
    · exact .inr (.inr (.inl z))
    · exact .inl (.inr z)
    · exact .inr (.inl z)
    · exact .inr (.inr (.inr z))
  have nd : (C ++ A ++ L ++ (F1 ++ B)).Nodup := by
    have h1 : (C ++ E ++ L ++ (F1 ++ (A ++ B))).Perm (E ++ (C ++ A ++ L ++ (F1 ++ B))) := by
      apply List.perm_iff_count.mpr
      intro a
      simp only [List.count_append]
      omega
    exact (List.nodup_append.mp (h1.nodup_iff.mp J.nd)).2.1
  exact ⟨G, _, F1 ++ B, J.s0, J.sub, s2, r1.append rs, nd, fun a z => J.fr a (sb a z), fun a z => J.own a (sb a z), J.gn, J.keep, J.kept⟩
end
/-- arguments that were moved out of slots go back, the others are let go -/
def restore : List (Option Nat) → List D → Ep → Ep
  | some i :: rs, d :: ds, ε => restore rs ds (ε.set i (some d))
  | none :: rs, _ :: ds, ε => restore rs ds ε
  | _, _, ε => ε
def Held (σ : L2.St) : List (Option Nat) → List V → Prop
  | [], [] => True
  | some i :: rs, v :: vs => σ[i]? = some (some v) ∧ Held σ rs vs
  | none :: rs, _ :: vs => Held σ rs vs
  | _, _ => False
theorem Held.len {σ : L2.St} : ∀ {rs : List (Option Nat)} {vs : List V}, Held σ rs vs → rs.length = vs.length
  | [], [], _ => rfl
  | some i :: rs, v :: vs, h => by rw [List.length_cons, List.length_cons, Held.len h.2]
  | none :: rs, v :: vs, h => by rw [List.length_cons, List.length_cons, Held.len (rs := rs) (vs := vs) h]
  | [], _ :: _, h => h.elim
  | some _ :: _, [], h => h.elim
  | none :: _, [], h => h.elim
theorem Held.append {σ : L2.St} : ∀ {rs rs' : List (Option Nat)} {vs vs' : List V}, Held σ rs vs → Held σ rs' vs' → Held σ (rs ++ rs') (vs ++ vs')
  | [], _, [], _, _, k => k
  | some i :: rs, _, v :: vs, _, h, k => ⟨h.1, Held.append h.2 k⟩
  | none :: rs, _, v :: vs, _, h, k => Held.append (rs := rs) (vs := vs) h k
  | [], _, _ :: _, _, h, _ => h.elim
  | some _ :: _, _, [], _, h, _ => h.elim
  | none :: _, _, [], _, h, _ => h.elim
theorem SI.restore {K : PySem.W.Frag} {b : Bs} {σ : L2.St} {H : Hp} {T : List D} {Tv : List V} {R : List D} {Rv : List V} (hl : T.length = Tv.length) :
    ∀ {rs : List (Option Nat)} {ds : List D} {vs : List V} {ε : Ep}, Held σ rs vs → ds.length = vs.length → SI K b σ H ε (T ++ (ds ++ R)) (Tv ++ (vs ++ Rv)) → SI K b σ H (VL.restore rs ds ε) (T ++ R) (Tv ++ Rv)
  | [], [], [], ε, _, _, I => I
  | some i :: rs, d :: ds, v :: vs, ε, h, e, I => SI.restore hl (rs := rs) h.2 (Nat.succ.inj e) (SI.midBack I hl h.1)
  | none :: rs, d :: ds, v :: vs, ε, h, e, I => SI.restore hl (rs := rs) (vs := vs) h (Nat.succ.inj e) (SI.midDrop I hl)
  | [], _ :: _, [], _, _, e, _ => by cases e
  | [], _, _ :: _, _, h, _, _ => h.elim
  | some _ :: _, _, [], _, h, _, _ => h.elim
  | none :: _, _, [], _, h, _, _ => h.elim
  | some _ :: _, [], _ :: _, _, _, e, _ => by cases e
  | none :: _, [], _ :: _, _, _, e, _ => by cases e
/-- what is wished of an exception: its class, its row, the slots -/
abbrev WV := Value → D → Ep → Prop
abbrev VTE := WV → Ep → (D → Ep → Prop) → Prop
abbrev VTT := WV → Ep → (Bool → Ep → Prop) → Prop
abbrev VTA := WV → Ep → (List D → Ep → Prop) → Prop
structure VEnds where
  nx : Ep → Prop
  rt : D → Ep → Prop
  bk : Ep → Prop := fun _ => False
  ct : Ep → Prop := fun _ => False
  rx : WV
abbrev VTS := VEnds → Ep → Prop
/-- an exception of ours: it has its dict, with the field row -/
def XL (K : PySem.W.Frag) (b : Bs) (T : List D) (Tv : List V) (W : WX) (N : WV) : Prop := ∀ cls (dd : Addr) σ H ε row v, SI K b σ H ε (T ++ [row]) (Tv ++ [v]) → H dd = some (.xd [("row", v)]) → (dd ∈ b.F0 ∨ b.H0 dd = none) → N cls row ε → W (clsV K cls) (some dd) σ H
theorem XL.more {K : PySem.W.Frag} {b : Bs} {T R : List D} {Tv Rv : List V} {W : WX} {N : WV} (hl : T.length = Tv.length) (hr : R.length = Rv.length) (x : XL K b T Tv W N) : XL K b (T ++ R) (Tv ++ Rv) W N := fun cls dd σ H ε row v I e fr n => by
  refine x cls dd σ H ε row v ?_ e fr n
  have h : Held σ (R.map fun _ => none) Rv := by
    clear I x
    induction R generalizing Rv with
    | nil =>
      cases Rv with
      | nil => exact trivial
      | cons _ _ => cases hr
    | cons r R ih =>
      cases Rv with
      | nil => cases hr
      | cons v Rv => exact ih (Nat.succ.inj hr)
  rw [List.append_assoc, List.append_assoc] at I
  have := SI.restore hl h hr I
  have z : VL.restore (R.map fun _ => none) R ε = ε := by
    clear this h I x hr
    induction R with
    | nil => rfl
    | cons r R ih => exact ih
  rw [z] at this
  exact this
/-- the context of a body, and which of its slots are kept: parameters that the body never stores into -/
structure Cv extends Cx where
  κ : List Bool
instance : Coe Cv Cx := ⟨Cv.toCx⟩
/-- a ground that keeps no other slot -/
abbrev Bx (X : Cv) := { b : Bs // ∀ (i : Nat) u, b.kv[i]? = some (some u) → X.κ[i]? = some true }
structure VE (X : Cv) (e : Expr) (t : VTE) : Prop where
  ex : ∃ t' : WX → TE, (∀ W, Takes X.toCx W → PE X.toCx e (t' W)) ∧ ∀ (b : Bx X) σ H ε T Tv W N Q Q', SI X.K b.1 σ H ε T Tv → t N ε Q →
    (∀ d v ε' H', SI X.K b.1 σ H' ε' (T ++ [d]) (Tv ++ [v]) → Q d ε' → Q' v H') → XL X.K b.1 T Tv W N → t' W σ H Q'
structure VT (X : Cv) (e : Expr) (t : VTT) : Prop where
  ex : ∃ t' : WX → TT, (∀ W, Takes X.toCx W → PT X.toCx e (t' W)) ∧ ∀ (b : Bx X) σ H ε T Tv W N Q Q', SI X.K b.1 σ H ε T Tv → t N ε Q →
    (∀ c ε' H', SI X.K b.1 σ H' ε' T Tv → Q c ε' → Q' c H') → XL X.K b.1 T Tv W N → t' W σ H Q'
/-- a test in a chain of and, or -/
structure VW (X : Cv) (e : Expr) (t : VTT) : Prop where
  ex : ∃ t' : WX → TT, (∀ W, Takes X.toCx W → PW X.toCx e (t' W)) ∧ ∀ (b : Bx X) σ H ε T Tv W N Q Q', SI X.K b.1 σ H ε T Tv → t N ε Q →
    (∀ c ε' H', SI X.K b.1 σ H' ε' T Tv → Q c ε' → Q' c H') → XL X.K b.1 T Tv W N → t' W σ H Q'
/-- one argument; r: the slot from which it is moved -/
structure VG (X : Cv) (e : Expr) (r : Option Nat) (t : VTE) : Prop where
  ex : ∃ t' : WX → TE, (∀ W, Takes X.toCx W → PE X.toCx e (t' W)) ∧ ∀ (b : Bx X) σ H ε T Tv W N Q Q', SI X.K b.1 σ H ε T Tv → t N ε Q →
    (∀ d v ε' H', SI X.K b.1 σ H' ε' (T ++ [d]) (Tv ++ [v]) → Held σ [r] [v] → Q d ε' → Q' v H') → XL X.K b.1 T Tv W N → t' W σ H Q'
structure VA (X : Cv) (es : List Expr) (rs : List (Option Nat)) (t : VTA) : Prop where
  ex : ∃ t' : WX → TA, (∀ W, Takes X.toCx W → PA X.toCx es (t' W)) ∧ ∀ (b : Bx X) σ H ε T Tv W N Q Q', SI X.K b.1 σ H ε T Tv → t N ε Q →
    (∀ ds vs ε' H', SI X.K b.1 σ H' ε' (T ++ ds) (Tv ++ vs) → ds.length = vs.length → Held σ rs vs → Q ds ε' → Q' vs H') → XL X.K b.1 T Tv W N → t' W σ H Q'
/-- the ends of a statement -/
structure EL (K : PySem.W.Frag) (b : Bs) (T : List D) (Tv : List V) (N : VEnds) (E : Ends) : Prop where
  nx : ∀ σ H ε, SI K b σ H ε T Tv → N.nx ε → E.nx σ H
  rt : ∀ σ H ε d v, SI K b σ H ε (T ++ [d]) (Tv ++ [v]) → N.rt d ε → E.rt v H
  bk : ∀ σ H ε, SI K b σ H ε T Tv → N.bk ε → E.bk σ H
  ct : ∀ σ H ε, SI K b σ H ε T Tv → N.ct ε → E.ct σ H
structure VS (X : Cv) (st : Stmt) (t : VTS) : Prop where
  ex : ∃ t' : WX → TS, (∀ W, Takes X.toCx W → PS X.toCx st (t' W)) ∧ ∀ (b : Bx X) σ H ε T Tv W N E, SI X.K b.1 σ H ε T Tv → t N ε → EL X.K b.1 T Tv N E → XL X.K b.1 T Tv W N.rx → t' W E σ H
structure VSs (X : Cv) (st : List Stmt) (t : VTS) : Prop where
  ex : ∃ t' : WX → TS, (∀ W, Takes X.toCx W → PSs X.toCx st (t' W)) ∧ ∀ (b : Bx X) σ H ε T Tv W N E, SI X.K b.1 σ H ε T Tv → t N ε → EL X.K b.1 T Tv N E → XL X.K b.1 T Tv W N.rx → t' W E σ H
section
variable {X : Cv}
def vVar (i : Nat) : VTE := fun _ ε Q => ∃ d, ε[i]? = some (some d) ∧ isFz d = true ∧ Q d ε
def vMov (i : Nat) : VTE := fun _ ε Q => ∃ d, ε[i]? = some (some d) ∧ Q d (ε.set i none)
def vFrz (i : Nat) : VTE := fun _ ε Q => ∃ d, ε[i]? = some (some d) ∧ Q (frz d) (ε.set i (some (frz d)))
def vC (d : D) : VTE := fun _ ε Q => Q d ε
theorem ve_var {i : Nat} {x : Str} {pos : Pos} (hN : X.N[i]? = some x) (hv : Vis X.env.scope x) (hd : (x == ("__debug__" : Str)) = false := by decide) (hcd : (x == ("__classdict__" : Str)) = false := by decide) : VE X (.Name x pos) (vVar i) := by
  refine ⟨fun _ => tVar i, fun _ _ => pe_var hN hv hd hcd, fun b σ H ε T Tv W N Q Q' I h k _ => ?_⟩
  obtain ⟨d, e, z, q⟩ := h
  obtain ⟨v, hs, J⟩ := I.var e z
  exact ⟨v, hs, k d v ε H J q⟩
theorem ve_mov {i : Nat} {x : Str} {pos : Pos} (hN : X.N[i]? = some x) (hv : Vis X.env.scope x) (hd : (x == ("__debug__" : Str)) = false := by decide) (hcd : (x == ("__classdict__" : Str)) = false := by decide) : VE X (.Name x pos) (vMov i) := by
  refine ⟨fun _ => tVar i, fun _ _ => pe_var hN hv hd hcd, fun b σ H ε T Tv W N Q Q' I h k _ => ?_⟩
  obtain ⟨d, e, q⟩ := h
  obtain ⟨v, hs, J⟩ := I.mov e
  exact ⟨v, hs, k d v _ H J q⟩
theorem ve_frz {i : Nat} {x : Str} {pos : Pos} (hN : X.N[i]? = some x) (hv : Vis X.env.scope x) (hd : (x == ("__debug__" : Str)) = false := by decide) (hcd : (x == ("__classdict__" : Str)) = false := by decide) : VE X (.Name x pos) (vFrz i) := by
  refine ⟨fun _ => tVar i, fun _ _ => pe_var hN hv hd hcd, fun b σ H ε T Tv W N Q Q' I h k _ => ?_⟩
  obtain ⟨d, e, q⟩ := h
  obtain ⟨v, hs, J⟩ := I.mov e
  have J2 := (J.freeze I.lenT).back I.lenT hs
  have e2 : (ε.set i none).set i (some (frz d)) = ε.set i (some (frz d)) := by simp
  rw [e2] at J2
  have hi := (List.getElem?_eq_some_iff.mp e).1
  obtain ⟨v', hs', J3⟩ := J2.var (i := i) (d := frz d) (by simp [hi]) (isFz_frz d)
  rw [hs] at hs'
  cases hs'
  exact ⟨v, hs, k (frz d) v _ H J3 q⟩
theorem vc_of {e : Expr} {v : V} {d : D} (h : PE X.toCx e (tC v)) (r : ∀ G H, Rp X.K G H d v []) : VE X e (vC d) :=
  ⟨fun _ => tC v, fun _ _ => h, fun b σ H ε T Tv W N Q Q' I q k _ => k d v ε H (I.push fun G => r G H) q⟩
theorem ve_int {i j pos} : VE X (.Constant (.int i) j pos) (vC (.int i)) := vc_of pe_int fun _ _ => ⟨rfl, rfl⟩
theorem ve_bl {b j pos} : VE X (.Constant (.bool b) j pos) (vC (.bl b)) := vc_of pe_bl fun _ _ => ⟨rfl, rfl⟩
theorem ve_str {s : Cs} {x : Str} {j pos} (h : x.cps.toList = s) : VE X (.Constant (.str x) j pos) (vC (.str s)) := vc_of pe_str fun _ _ => ⟨by rw [← h, toS_cps], rfl⟩
theorem vg_val {e : Expr} {t : VTE} (h : VE X e t) : VG X e none t := by
  obtain ⟨t', h1, h2⟩ := h.ex
  exact ⟨t', h1, fun b σ H ε T Tv W N Q Q' I q k x => h2 b σ H ε T Tv W N Q Q' I q (fun d v ε' H' J z => k d v ε' H' J trivial z) x⟩
theorem vg_ref {i : Nat} {x : Str} {pos : Pos} (hN : X.N[i]? = some x) (hv : Vis X.env.scope x) (hd : (x == ("__debug__" : Str)) = false := by decide) (hcd : (x == ("__classdict__" : Str)) = false := by decide) : VG X (.Name x pos) (some i) (vMov i) := by
  refine ⟨fun _ => tVar i, fun _ _ => pe_var hN hv hd hcd, fun b σ H ε T Tv W N Q Q' I h k _ => ?_⟩
  obtain ⟨d, e, q⟩ := h
  obtain ⟨v, hs, J⟩ := I.mov e
  exact ⟨v, hs, k d v _ H J ⟨hs, trivial⟩ q⟩
def vaNil : VTA := fun _ ε Q => Q [] ε
def vaCons (t : VTE) (u : VTA) : VTA := fun N ε Q => t N ε fun d ε1 => u N ε1 fun ds ε2 => Q (d :: ds) ε2
theorem va_nil : VA X [] [] vaNil := ⟨fun _ => tNil, fun _ _ => pa_nil, fun b σ H ε T Tv W N Q Q' I h k _ => k [] [] ε H (by simpa using I) rfl trivial h⟩
theorem va_cons {e : Expr} {es : List Expr} {r : Option Nat} {rs : List (Option Nat)} {t : VTE} {u : VTA} (h : VG X e r t) (k : VA X es rs u) (hs : starEach (e :: es) X.env = (false, eval e X.env) :: starEach es X.env := by rfl) : VA X (e :: es) (r :: rs) (vaCons t u) := by
  obtain ⟨t', h1, h2⟩ := h.ex
  obtain ⟨u', k1, k2⟩ := k.ex
  refine ⟨fun W => tCons (t' W) (u' W), fun W tk => pa_cons (h1 W tk) (k1 W tk) hs, fun b σ H ε T Tv W N Q Q' I q z x => ?_⟩
  refine h2 b σ H ε T Tv W N _ _ I q (fun d v ε1 H1 J hd q1 => ?_) x
  refine k2 b σ H1 ε1 (T ++ [d]) (Tv ++ [v]) W N _ _ J q1 (fun ds vs ε2 H2 J2 l hds q2 => ?_) (x.more I.lenT rfl)
  refine z (d :: ds) (v :: vs) ε2 H2 (by simpa only [List.append_assoc, List.cons_append, List.nil_append] using J2) (by simp [l]) ?_ q2
  exact Held.append (rs := [r]) (vs := [v]) hd hds
/-- r of values is op of trees: what is held stays, the answer comes on top -/
def OpN (K : PySem.W.Frag) (r : List V → Hp → VK → Prop) (op : List D → (D → Prop) → Prop) : Prop :=
  ∀ (b : Bs) (σ : L2.St) (H : Hp) (ε : Ep) (T : List D) (Tv : List V) (ds : List D) (vs : List V) (Q : D → Prop) (Q' : VK), T.length = Tv.length → ds.length = vs.length → SI K b σ H ε (T ++ ds) (Tv ++ vs) → op ds Q →
    (∀ d v H', Sub H H' → SI K b σ H' ε (T ++ (ds ++ [d])) (Tv ++ (vs ++ [v])) → Q d → Q' v H') → r vs H Q'
/-- an answer out of values alone -/
theorem OpN.pure {K : PySem.W.Frag} {r : List V → Hp → VK → Prop} {op : List D → (D → Prop) → Prop}
    (h : ∀ (G H : Hp) (ds : List D) (vs : List V) (F : List Addr) (Q : D → Prop) (Q' : VK), Sub G H → RpL K G H ds vs F → op ds Q → (∀ d v, (∀ G' H', Sub G G' → Rp K G' H' d v []) → Q d → Q' v H) → r vs H Q') : OpN K r op :=
  fun b σ H ε T Tv ds vs Q Q' hl hd I q k => by
    obtain ⟨G, F, Ft, J⟩ := I
    obtain ⟨F1, F2, rfl, r1, r2⟩ := J.temps.split2 hl
    refine h G H ds vs F2 Q Q' J.sub r2 q fun d v rd z => k d v H Sub.refl ⟨G, F, F1 ++ F2, ?_⟩ z
    have := J.push (d := d) (v := v) (rd G H Sub.refl)
    simpa only [List.append_assoc] using this
def vOp (op : List D → (D → Prop) → Prop) (rs : List (Option Nat)) (t : VTA) : VTE := fun N ε Q => t N ε fun ds ε1 => op ds fun d => Q d (restore rs ds ε1)
def r2N (r : R2) : List V → Hp → VK → Prop := fun vs H Q => ∃ v w, vs = [v, w] ∧ r v w H Q
def r1N (r : V → Hp → VK → Prop) : List V → Hp → VK → Prop := fun vs H Q => ∃ v, vs = [v] ∧ r v H Q
/-- behind an operation: the arguments go back or are let go -/
theorem OpN.run {K : PySem.W.Frag} {r : List V → Hp → VK → Prop} {op : List D → (D → Prop) → Prop} (h : OpN K r op) {b : Bs} {σ : L2.St} {H : Hp} {ε : Ep} {T : List D} {Tv : List V} {ds : List D} {vs : List V} {rs : List (Option Nat)} {Q : D → Ep → Prop} {Q' : VK}
    (hl : T.length = Tv.length) (hd : ds.length = vs.length) (I : SI K b σ H ε (T ++ ds) (Tv ++ vs)) (hh : Held σ rs vs) (q : op ds fun d => Q d (restore rs ds ε)) (k : ∀ d v ε' H', SI K b σ H' ε' (T ++ [d]) (Tv ++ [v]) → Q d ε' → Q' v H') : r vs H Q' :=
  h b σ H ε T Tv ds vs _ Q' hl hd I q fun d v H' _ J z => k d v _ H' (SI.restore hl hh hd J) z
def va2 (ta tb : VTE) : VTA := vaCons ta (vaCons tb vaNil)
def va1 (ta : VTE) : VTA := vaCons ta vaNil
theorem two_run {K : PySem.W.Frag} {r : R2} {op : List D → (D → Prop) → Prop} (h : OpN K (r2N r) op) {b : Bs} {σ : L2.St} {H : Hp} {ε : Ep} {T : List D} {Tv : List V} {x y : D} {v w : V} {ra rb : Option Nat} {Q : D → Ep → Prop} {Q' : VK}
    (hl : T.length = Tv.length) (I : SI K b σ H ε (T ++ [x, y]) (Tv ++ [v, w])) (h1 : Held σ [ra] [v]) (h2 : Held σ [rb] [w]) (q : op [x, y] fun d => Q d (restore [ra, rb] [x, y] ε)) (k : ∀ d v ε' H', SI K b σ H' ε' (T ++ [d]) (Tv ++ [v]) → Q d ε' → Q' v H') : r v w H Q' := by
  obtain ⟨v', w', e, z⟩ := h.run hl rfl I (Held.append (rs := [ra]) (vs := [v]) h1 h2) q k
  obtain ⟨rfl, e2⟩ := List.cons.inj e
  obtain ⟨rfl, _⟩ := List.cons.inj e2
  exact z
theorem one_run {K : PySem.W.Frag} {r : V → Hp → VK → Prop} {op : List D → (D → Prop) → Prop} (h : OpN K (r1N r) op) {b : Bs} {σ : L2.St} {H : Hp} {ε : Ep} {T : List D} {Tv : List V} {x : D} {v : V} {ra : Option Nat} {Q : D → Ep → Prop} {Q' : VK}
    (hl : T.length = Tv.length) (I : SI K b σ H ε (T ++ [x]) (Tv ++ [v])) (h1 : Held σ [ra] [v]) (q : op [x] fun d => Q d (restore [ra] [x] ε)) (k : ∀ d v ε' H', SI K b σ H' ε' (T ++ [d]) (Tv ++ [v]) → Q d ε' → Q' v H') : r v H Q' := by
  obtain ⟨v', e, z⟩ := h.run hl rfl I h1 q k
  obtain ⟨rfl, _⟩ := List.cons.inj e
  exact z
/-- two operands in a row -/
theorem two_args {e1 e2 : Expr} {ra rb : Option Nat} {ta tb : VTE} (ha : VG X e1 ra ta) (hb : VG X e2 rb tb) : ∃ ta' tb' : WX → TE, (∀ W, Takes X.toCx W → PE X.toCx e1 (ta' W)) ∧ (∀ W, Takes X.toCx W → PE X.toCx e2 (tb' W)) ∧
    ∀ (b : Bx X) σ H ε T Tv W N (Q : D → D → Ep → Prop) (Q' : V → V → Hp → Prop), SI X.K b.1 σ H ε T Tv → (ta N ε fun x ε1 => tb N ε1 fun y ε2 => Q x y ε2) →
      (∀ x y v w ε' H', SI X.K b.1 σ H' ε' (T ++ [x, y]) (Tv ++ [v, w]) → Held σ [ra] [v] → Held σ [rb] [w] → Q x y ε' → Q' v w H') → XL X.K b.1 T Tv W N → ta' W σ H fun v H1 => tb' W σ H1 fun w H2 => Q' v w H2 := by
  obtain ⟨ta', a1, a2⟩ := ha.ex
  obtain ⟨tb', b1, b2⟩ := hb.ex
  refine ⟨ta', tb', a1, b1, fun b σ H ε T Tv W N Q Q' I q k x => ?_⟩
  refine a2 b σ H ε T Tv W N _ _ I q (fun d v ε1 H1 J hd q1 => ?_) x
  refine b2 b σ H1 ε1 (T ++ [d]) (Tv ++ [v]) W N _ _ J q1 (fun d2 w ε2 H2 J2 h2 q2 => ?_) (x.more I.lenT rfl)
  exact k d d2 v w ε2 H2 (by simpa only [List.append_assoc, List.cons_append, List.nil_append] using J2) hd h2 q2
theorem ve_bin {e1 e2 : Expr} {o : Operator} {ra rb : Option Nat} {ta tb : VTE} {r : R2} {op : List D → (D → Prop) → Prop} {pos : Pos} (ho : OpR X.toCx (binaryOp o) r) (hp : OpN X.K (r2N r) op) (ha : VG X e1 ra ta) (hb : VG X e2 rb tb) :
    VE X (.BinOp e1 o e2 pos) (vOp op [ra, rb] (va2 ta tb)) := by
  obtain ⟨ta', tb', h1, h2, h3⟩ := two_args ha hb
  refine ⟨fun W => tOp r (ta' W) (tb' W), fun W tk => pe_op ho (h1 W tk) (h2 W tk), fun b σ H ε T Tv W N Q Q' I q k x => ?_⟩
  exact h3 b σ H ε T Tv W N _ _ I q (fun x y v w ε' H' J hv hw z => two_run hp I.lenT J hv hw z k) x
theorem ve_cmp {e1 e2 : Expr} {o : CmpOp} {ra rb : Option Nat} {ta tb : VTE} {r : R2} {op : List D → (D → Prop) → Prop} {pos : Pos} (ho : OpR X.toCx (compareOp o) r) (hp : OpN X.K (r2N r) op) (ha : VG X e1 ra ta) (hb : VG X e2 rb tb) (hm : behindInMarks o e2 = false) :
    VE X (.Compare e1 [o] [e2] pos) (vOp op [ra, rb] (va2 ta tb)) := by
  obtain ⟨ta', tb', h1, h2, h3⟩ := two_args ha hb
  refine ⟨fun W => tOp r (ta' W) (tb' W), fun W tk => pe_cmpR ho (h1 W tk) (h2 W tk) hm, fun b σ H ε T Tv W N Q Q' I q k x => ?_⟩
  exact h3 b σ H ε T Tv W N _ _ I q (fun x y v w ε' H' J hv hw z => two_run hp I.lenT J hv hw z k) x
theorem ve_un {e1 : Expr} {o : UnaryOp} {ra : Option Nat} {ta : VTE} {r : V → Hp → VK → Prop} {op : List D → (D → Prop) → Prop} {pos : Pos} (ho : UnR X.toCx (unaryOp o) r) (hp : OpN X.K (r1N r) op) (ha : VG X e1 ra ta) : VE X (.UnaryOp o e1 pos) (vOp op [ra] (va1 ta)) := by
  obtain ⟨ta', a1, a2⟩ := ha.ex
  refine ⟨fun W => tUn r (ta' W), fun W tk => pe_un ho (a1 W tk), fun b σ H ε T Tv W N Q Q' I q k x => ?_⟩
  exact a2 b σ H ε T Tv W N _ _ I q (fun d v ε1 H1 J hd z => one_run hp I.lenT J hd z k) x
/-- a built-in function called by its name -/
theorem ve_callB {x : Str} {id : String} {p pos : Pos} {e : Expr} {es : List Expr} {rs : List (Option Nat)} {t : VTA} {r : List V → Hp → VK → Prop} {op : List D → (D → Prop) → Prop} (hc : CallR X.toCx (.builtin id) r) (hp : OpN X.K r op) (hg : Gl X.toCx x) (hm : X.mg x = none) (hv : bootBuiltins x = some (.builtin id)) (ha : VA X (e :: es) rs t)
    (hn : x ≠ "__name__" := by decide) (hdb : (x == ("__debug__" : Str)) = false := by decide) (he : starEach (e :: es) X.env = (false, eval e X.env) :: starEach es X.env := by rfl) (hpl : (backTo pos (starEach es X.env)).any (·.1) = false := by rfl) :
    VE X (.Call (.Name x p) (e :: es) [] pos) (vOp op rs t) := by
  obtain ⟨t', a1, a2⟩ := ha.ex
  refine ⟨fun W => tCB r (t' W), fun W tk => pe_callB hc hg hm hv (a1 W tk) hn hdb he hpl, fun b σ H ε T Tv W N Q Q' I q k x => ?_⟩
  exact a2 b σ H ε T Tv W N _ _ I q (fun ds vs ε1 H1 J l hd z => hp.run I.lenT l J hd z k) x
theorem ve_callTy {x : Str} {ty : String} {p pos : Pos} {e : Expr} {es : List Expr} {rs : List (Option Nat)} {t : VTA} {r : List V → Hp → VK → Prop} {op : List D → (D → Prop) → Prop} (hc : CallR X.toCx (.type ty) r) (hp : OpN X.K r op) (hg : Gl X.toCx x) (hm : X.mg x = none) (hv : bootBuiltins x = some (.type ty)) (ha : VA X (e :: es) rs t)
    (hn : x ≠ "__name__" := by decide) (hdb : (x == ("__debug__" : Str)) = false := by decide) (he : starEach (e :: es) X.env = (false, eval e X.env) :: starEach es X.env := by rfl) (hpl : (backTo pos (starEach es X.env)).any (·.1) = false := by rfl) :
    VE X (.Call (.Name x p) (e :: es) [] pos) (vOp op rs t) := by
  obtain ⟨t', a1, a2⟩ := ha.ex
  refine ⟨fun W => tCB r (t' W), fun W tk => pe_callTy hc hg hm hv (a1 W tk) hn hdb he hpl, fun b σ H ε T Tv W N Q Q' I q k x => ?_⟩
  exact a2 b σ H ε T Tv W N _ _ I q (fun ds vs ε1 H1 J l hd z => hp.run I.lenT l J hd z k) x
end
end VL
namespace VL
open PySem PySem.Spec PyProof.Rows L2 VL
section
variable {K : PySem.W.Frag} {b : Bs} {σ : L2.St} {H H' : Hp} {ε : Ep} {T : List D} {Tv : List V}
theorem SI.last {d : D} {v : V} (I : SI K b σ H ε (T ++ [d]) (Tv ++ [v])) (hl : T.length = Tv.length) : ∃ G F, Sub G H ∧ Rp K G H d v F := by
  obtain ⟨G, F, Ft, J⟩ := I
  obtain ⟨F1, F2, rfl, r1, r2⟩ := J.temps.split2 hl
  exact ⟨G, F2, J.sub, RpL.one.mp r2⟩
theorem SI.pop {d : D} {v : V} (I : SI K b σ H ε (T ++ [d]) (Tv ++ [v])) (hl : T.length = Tv.length) : SI K b σ H ε T Tv := I.drop hl
end
section
variable {X : Cv}
def vB (t : VTE) : VTT := fun N ε Q => t N ε fun d ε1 => ∃ c, d = .bl c ∧ Q c ε1
theorem vt_val {e : Expr} {t : VTE} (h : VE X e t) (he : ∀ whole, isTrue e X.env whole = (do let v ← whole; standAt e.pos; holding [v] (truthy v)) := by intro _; rfl) : VT X e (vB t) := by
  obtain ⟨t', h1, h2⟩ := h.ex
  refine ⟨fun W => tB (t' W), fun W tk => pt_val (h1 W tk) he, fun b σ H ε T Tv W N Q Q' I q k x => ?_⟩
  refine h2 b σ H ε T Tv W N _ _ I q (fun d v ε1 H1 J z => ?_) x
  obtain ⟨c, rfl, z⟩ := z
  obtain ⟨G, F, _, rv, _⟩ := J.last I.lenT
  exact ⟨c, rv, k c ε1 H1 (J.pop I.lenT) z⟩
theorem vt_cmp {e1 e2 : Expr} {o : CmpOp} {ra rb : Option Nat} {ta tb : VTE} {r : R2} {op : List D → (D → Prop) → Prop} {pos : Pos} (ho : OpR X.toCx (compareOp o) r) (hp : OpN X.K (r2N r) op) (ha : VG X e1 ra ta) (hb : VG X e2 rb tb) (hm : behindInMarks o e2 = false) :
    VT X (.Compare e1 [o] [e2] pos) (vB (vOp op [ra, rb] (va2 ta tb))) := by
  obtain ⟨ta', tb', h1, h2, h3⟩ := two_args ha hb
  refine ⟨fun W => tTest (tOp r (ta' W) (tb' W)), fun W tk => pt_cmpR ho (h1 W tk) (h2 W tk) hm, fun b σ H ε T Tv W N Q Q' I q k x => ?_⟩
  refine h3 b σ H ε T Tv W N _ _ I q (fun x y v w ε' H' J hv hw z => two_run (Q := fun d ε1 => ∃ c, d = .bl c ∧ Q c ε1) hp I.lenT J hv hw z fun d u ε1 H1 J1 z1 => ?_) x
  obtain ⟨c, rfl, z1⟩ := z1
  obtain ⟨G, F, _, rv, _⟩ := J1.last I.lenT
  exact ⟨c, rv, k c ε1 H1 (J1.pop I.lenT) z1⟩
def vAnd (t u : VTT) : VTT := fun N ε Q => t N ε fun c ε1 => if c = true then u N ε1 Q else Q false ε1
def vOr (t u : VTT) : VTT := fun N ε Q => t N ε fun c ε1 => if c = true then Q true ε1 else u N ε1 Q
def vNot (t : VTT) : VTT := fun N ε Q => t N ε fun c ε1 => Q (!c) ε1
theorem vw_and1 {a : Expr} {t : VTT} {pos : Pos} (h : VT X a t) : VW X (.BoolOp .And [a] pos) t := let ⟨t', h1, h2⟩ := h.ex; ⟨t', fun W tk => pw_and1 (h1 W tk), h2⟩
theorem vw_or1 {a : Expr} {t : VTT} {pos : Pos} (h : VT X a t) : VW X (.BoolOp .Or [a] pos) t := let ⟨t', h1, h2⟩ := h.ex; ⟨t', fun W tk => pw_or1 (h1 W tk), h2⟩
theorem vw_and {a c : Expr} {rest : List Expr} {t u : VTT} {pos : Pos} (h : VT X a t) (g : VW X (.BoolOp .And (c :: rest) pos) u) : VW X (.BoolOp .And (a :: c :: rest) pos) (vAnd t u) := by
  obtain ⟨t', h1, h2⟩ := h.ex
  obtain ⟨u', g1, g2⟩ := g.ex
  refine ⟨fun W => tAnd (t' W) (u' W), fun W tk => pw_and (h1 W tk) (g1 W tk), fun b σ H ε T Tv W N Q Q' I q k x => ?_⟩
  refine h2 b σ H ε T Tv W N _ _ I q (fun c ε1 H1 J z => ?_) x
  cases c with
  | true => exact g2 b σ H1 ε1 T Tv W N _ _ J z k x
  | false => exact k false ε1 H1 J z
theorem vw_or {a c : Expr} {rest : List Expr} {t u : VTT} {pos : Pos} (h : VT X a t) (g : VW X (.BoolOp .Or (c :: rest) pos) u) : VW X (.BoolOp .Or (a :: c :: rest) pos) (vOr t u) := by
  obtain ⟨t', h1, h2⟩ := h.ex
  obtain ⟨u', g1, g2⟩ := g.ex
  refine ⟨fun W => tOr (t' W) (u' W), fun W tk => pw_or (h1 W tk) (g1 W tk), fun b σ H ε T Tv W N Q Q' I q k x => ?_⟩
  refine h2 b σ H ε T Tv W N _ _ I q (fun c ε1 H1 J z => ?_) x
  cases c with
  | true => exact k true ε1 H1 J z
  | false => exact g2 b σ H1 ε1 T Tv W N _ _ J z k x
theorem vt_w {e : Expr} {t : VTT} (h : VW X e t) : VT X e t := let ⟨t', h1, h2⟩ := h.ex; ⟨t', fun W tk => (h1 W tk).pt, h2⟩
theorem vt_not {a : Expr} {t : VTT} {pos : Pos} (h : VT X a t) : VT X (.UnaryOp .Not a pos) (vNot t) := by
  obtain ⟨t', h1, h2⟩ := h.ex
  refine ⟨fun W => tNot (t' W), fun W tk => pt_not (h1 W tk), fun b σ H ε T Tv W N Q Q' I q k x => ?_⟩
  exact h2 b σ H ε T Tv W N _ _ I q (fun c ε1 H1 J z => k (!c) ε1 H1 J z) x
def vAndV (t u : VTE) : VTE := fun N ε Q => t N ε fun d ε1 => ∃ c, d = .bl c ∧ if c = true then u N ε1 Q else Q (.bl false) ε1
def vOrV (t u : VTE) : VTE := fun N ε Q => t N ε fun d ε1 => ∃ c, d = .bl c ∧ if c = true then Q (.bl true) ε1 else u N ε1 Q
def vNotV (t : VTE) : VTE := fun N ε Q => t N ε fun d ε1 => ∃ c, d = .bl c ∧ Q (.bl (!c)) ε1
def vIf (c : VTT) (t u : VTE) : VTE := fun N ε Q => c N ε fun c ε1 => if c = true then t N ε1 Q else u N ε1 Q
theorem ve_one {a : Expr} {o : BoolOp} {t : VTE} {pos : Pos} (h : VE X a t) : VE X (.BoolOp o [a] pos) t := let ⟨t', h1, h2⟩ := h.ex; ⟨t', fun W tk => pe_one (h1 W tk), h2⟩
theorem ve_and {a c : Expr} {rest : List Expr} {t u : VTE} {pos : Pos} (h : VE X a t) (g : VE X (.BoolOp .And (c :: rest) pos) u) : VE X (.BoolOp .And (a :: c :: rest) pos) (vAndV t u) := by
  obtain ⟨t', h1, h2⟩ := h.ex
  obtain ⟨u', g1, g2⟩ := g.ex
  refine ⟨fun W => tAndV (t' W) (u' W), fun W tk => pe_and (h1 W tk) (g1 W tk), fun b σ H ε T Tv W N Q Q' I q k x => ?_⟩
  refine h2 b σ H ε T Tv W N _ _ I q (fun d v ε1 H1 J z => ?_) x
  obtain ⟨c, rfl, z⟩ := z
  obtain ⟨G, F, _, rv, _⟩ := J.last I.lenT
  refine ⟨c, rv, ?_⟩
  cases c with
  | true => exact g2 b σ H1 ε1 T Tv W N _ _ (J.pop I.lenT) z k x
  | false => exact k (.bl false) _ ε1 H1 ((J.pop I.lenT).push fun _ => ⟨rfl, rfl⟩) z
theorem ve_or {a c : Expr} {rest : List Expr} {t u : VTE} {pos : Pos} (h : VE X a t) (g : VE X (.BoolOp .Or (c :: rest) pos) u) : VE X (.BoolOp .Or (a :: c :: rest) pos) (vOrV t u) := by
  obtain ⟨t', h1, h2⟩ := h.ex
  obtain ⟨u', g1, g2⟩ := g.ex
  refine ⟨fun W => tOrV (t' W) (u' W), fun W tk => pe_or (h1 W tk) (g1 W tk), fun b σ H ε T Tv W N Q Q' I q k x => ?_⟩
  refine h2 b σ H ε T Tv W N _ _ I q (fun d v ε1 H1 J z => ?_) x
  obtain ⟨c, rfl, z⟩ := z
  obtain ⟨G, F, _, rv, _⟩ := J.last I.lenT
  refine ⟨c, rv, ?_⟩
  cases c with
  | true => exact k (.bl true) _ ε1 H1 ((J.pop I.lenT).push fun _ => ⟨rfl, rfl⟩) z
  | false => exact g2 b σ H1 ε1 T Tv W N _ _ (J.pop I.lenT) z k x
def vTup (t : VTA) : VTE := fun N ε Q => t N ε fun ds ε1 => ds.length ≤ 1000 ∧ Q (.tup ds) ε1
def vLst (t : VTA) : VTE := fun N ε Q => t N ε fun ds ε1 => ds.length ≤ 1000 ∧ Q (.lst true ds) ε1
theorem k1000 {n : Nat} (h : n ≤ 1000) : n ≤ sizeLine := Nat.le_trans h (by decide)
theorem ve_tup {es : List Expr} {rs : List (Option Nat)} {t : VTA} {x1 : Nat} {pos : Pos} (h : VA X es rs t) : VE X (.Tuple es x1 pos) (vTup t) := by
  obtain ⟨t', h1, h2⟩ := h.ex
  refine ⟨fun W => tTup (t' W), fun W tk => pe_tup (h1 W tk), fun b σ H ε T Tv W N Q Q' I q k x => ?_⟩
  refine h2 b σ H ε T Tv W N _ _ I q (fun ds vs ε1 H1 J l _ z => ?_) x
  obtain ⟨z1, z⟩ := z
  exact ⟨k1000 (by rw [← l]; exact z1), fun p hp => k _ _ ε1 _ (J.tup I.lenT hp) z⟩
theorem ve_lst {es : List Expr} {rs : List (Option Nat)} {t : VTA} {pos : Pos} (h : VA X es rs t) : VE X (.List es pos) (vLst t) := by
  obtain ⟨t', h1, h2⟩ := h.ex
  refine ⟨fun W => tLst (t' W), fun W tk => pe_lst (h1 W tk), fun b σ H ε T Tv W N Q Q' I q k x => ?_⟩
  refine h2 b σ H ε T Tv W N _ _ I q (fun ds vs ε1 H1 J l _ z => ?_) x
  obtain ⟨z1, z⟩ := z
  exact ⟨k1000 (by rw [← l]; exact z1), fun p hp => k (.lst true ds) _ ε1 _ (J.laid I.lenT hp (.lst vs) fun G H' F e r => ⟨p, vs, F, rfl, e, rfl, r⟩) z⟩
/-- an empty dict: keys ints and texts | keys tuples of these -/
theorem ve_dK {pos : Pos} : VE X (.Dict [] [] pos) (vC (.dK true [] [])) := by
  refine ⟨fun _ => tDNewK, fun _ _ => pe_dnewK, fun b σ H ε T Tv W N Q Q' I q k _ => fun p hp => ?_⟩
  refine k (.dK true [] []) _ ε _ ((SI.laid (ds := []) (vs := []) (by simpa using I) I.lenT hp (.dK []) fun G H' F e r => ?_)) q
  obtain ⟨_, rfl⟩ := r
  exact ⟨p, [], [], rfl, e, rfl, rfl, List.nodup_nil, rfl, rfl⟩
theorem ve_dT {pos : Pos} : VE X (.Dict [] [] pos) (vC (.dT true [] [])) := by
  refine ⟨fun _ => tDNewT, fun _ _ => pe_dnewT, fun b σ H ε T Tv W N Q Q' I q k _ => fun p hp => ?_⟩
  refine k (.dT true [] []) _ ε _ ((SI.laid (ds := []) (vs := []) (by simpa using I) I.lenT hp (.dT []) fun G H' F e r => ?_)) q
  obtain ⟨_, rfl⟩ := r
  exact ⟨p, [], [], rfl, e, rfl, rfl, List.nodup_nil, rfl, rfl⟩
/-- what an expression gives is let stand still -/
def vStill (t : VTE) : VTE := fun N ε Q => t N ε fun d ε1 => Q (frz d) ε1
theorem ve_still {e : Expr} {t : VTE} (h : VE X e t) : VE X e (vStill t) := by
  obtain ⟨t', h1, h2⟩ := h.ex
  refine ⟨t', h1, fun b σ H ε T Tv W N Q Q' I q k x => ?_⟩
  exact h2 b σ H ε T Tv W N _ _ I q (fun d v ε1 H1 J z => k (frz d) v ε1 H1 (J.freeze I.lenT) z) x
/-- κ: the slots of kept parameters, which nobody stores into: told by the number of them at the begin that are not stored -/
def vSkip : VTS := fun N ε => N.nx ε
def vSeq (t u : VTS) : VTS := fun N ε => t { N with nx := u N } ε
theorem vss_nil : VSs X [] vSkip := ⟨fun _ => tNext, fun _ _ => pss_nil, fun b σ H ε T Tv W N E I q l _ => l.nx σ H ε I q⟩
theorem vss_one {st : Stmt} {t : VTS} (h : VS X st t) : VSs X [st] t := let ⟨t', h1, h2⟩ := h.ex; ⟨t', fun W tk => pss_one (h1 W tk), h2⟩
theorem vss_cons {st : Stmt} {rest : List Stmt} {t u : VTS} (h : VS X st t) (g : VSs X rest u) : VSs X (st :: rest) (vSeq t u) := by
  obtain ⟨t', h1, h2⟩ := h.ex
  obtain ⟨u', g1, g2⟩ := g.ex
  refine ⟨fun W => tSeq (t' W) (u' W), fun W tk => pss_cons (h1 W tk) (g1 W tk), fun b σ H ε T Tv W N E I q l x => ?_⟩
  exact h2 b σ H ε T Tv W { N with nx := u N } { E with nx := u' W E } I q ⟨fun σ1 H1 ε1 J z => g2 b σ1 H1 ε1 T Tv W N E J z l x, l.rt, l.bk, l.ct⟩ x
def vBrk : VTS := fun N ε => N.bk ε
def vCnt : VTS := fun N ε => N.ct ε
def vDrop (t : VTE) : VTS := fun N ε => t N.rx ε fun _ ε1 => N.nx ε1
theorem vs_expr {e : Expr} {t : VTE} {pos : Pos} (h : VE X e t) (hs : swapsWith e none pos.line X.env = pure false := by rfl) : VS X (.Expr e pos) (vDrop t) := by
  obtain ⟨t', h1, h2⟩ := h.ex
  refine ⟨fun W => tDrop (t' W), fun W tk => ps_expr (h1 W tk) hs, fun b σ H ε T Tv W N E I q l x => ?_⟩
  exact h2 b σ H ε T Tv W N.rx _ _ I q (fun d v ε1 H1 J z => l.nx σ H1 ε1 (J.pop I.lenT) z) x
def vRet (t : VTE) : VTS := fun N ε => t N.rx ε N.rt
theorem vs_ret {e : Expr} {t : VTE} {pos : Pos} (h : VE X e t) : VS X (.Return (some e) pos) (vRet t) := by
  obtain ⟨t', h1, h2⟩ := h.ex
  refine ⟨fun W => tRet (t' W), fun W tk => ps_ret (h1 W tk), fun b σ H ε T Tv W N E I q l x => ?_⟩
  exact h2 b σ H ε T Tv W N.rx _ _ I q (fun d v ε1 H1 J z => l.rt σ H1 ε1 d v J z) x
def vRetN : VTS := fun N ε => N.rt .non ε
def vIfS (c : VTT) (t u : VTS) : VTS := fun N ε => c N.rx ε fun c ε1 => if c = true then t N ε1 else u N ε1
theorem vs_if {c : Expr} {a e : List Stmt} {tc : VTT} {t u : VTS} {pos : Pos} (hc : VT X c tc) (h : VSs X a t) (g : VSs X e u) : VS X (.If c a e pos) (vIfS tc t u) := by
  obtain ⟨tc', c1, c2⟩ := hc.ex
  obtain ⟨t', h1, h2⟩ := h.ex
  obtain ⟨u', g1, g2⟩ := g.ex
  refine ⟨fun W => tIfS (tc' W) (t' W) (u' W), fun W tk => ps_if (c1 W tk) (h1 W tk) (g1 W tk), fun b σ H ε T Tv W N E I q l x => ?_⟩
  refine c2 b σ H ε T Tv W N.rx _ _ I q (fun c ε1 H1 J z => ?_) x
  cases c with
  | true => exact h2 b σ H1 ε1 T Tv W N E J z l x
  | false => exact g2 b σ H1 ε1 T Tv W N E J z l x
/-- x = e -/
def vAsg (i : Nat) (t : VTE) : VTS := fun N ε => t N.rx ε fun d ε1 => i < ε1.length ∧ N.nx (ε1.set i (some d))
theorem Bx.free (b : Bx X) {i : Nat} (h : X.κ[i]? ≠ some true) : ∀ u, b.1.kv[i]? ≠ some (some u) := fun u e => h (b.2 i u e)
theorem vs_asg {i : Nat} {x : Str} {e : Expr} {t : VTE} {pos pos' : Pos} (hN : X.N.Nodup) (hi : X.N[i]? = some x) (hx : Loc X.env.scope x) (hk : X.κ[i]? ≠ some true) (h : VE X e t) (hs : swapsWith e (some (.Name x pos')) pos.line X.env = pure false := by rfl)
    (hf : X.fn x = true ∨ X.env.scope.names.lookup x = some .local := by first | exact .inl rfl | exact .inr rfl | assumption) : VS X (.Assign [.Name x pos'] e pos) (vAsg i t) := by
  obtain ⟨t', h1, h2⟩ := h.ex
  refine ⟨fun W => tAsg (t' W) (gName i), fun W tk => ps_set hN hi hx (h1 W tk) hs hf, fun b σ H ε T Tv W N E I q l x => ?_⟩
  exact h2 b σ H ε T Tv W N.rx _ _ I q (fun d v ε1 H1 J z => l.nx _ H1 _ (J.store I.lenT z.1 (b.free hk)) z.2) x
/-- what a target does with what it is given, which is held on top -/
abbrev VTG := D → Ep → (Ep → Prop) → Prop
structure VTa (X : Cv) (tg : Expr) (t : VTG) : Prop where
  ex : ∃ g : TG, PG X.toCx tg g ∧ ∀ (b : Bx X) σ H ε T Tv d v Q Q', SI X.K b.1 σ H ε (T ++ [d]) (Tv ++ [v]) → T.length = Tv.length → t d ε Q →
    (∀ ε' σ' H', SI X.K b.1 σ' H' ε' T Tv → Q ε' → Q' σ' H') → g v σ H Q'
def vName (i : Nat) : VTG := fun d ε Q => i < ε.length ∧ Q (ε.set i (some d))
theorem vt_name {i : Nat} {x : Str} {pos : Pos} (hN : X.N.Nodup) (hi : X.N[i]? = some x) (hx : Loc X.env.scope x) (hk : X.κ[i]? ≠ some true)
    (hf : X.fn x = true ∨ X.env.scope.names.lookup x = some .local := by first | exact .inl rfl | exact .inr rfl | assumption) : VTa X (.Name x pos) (vName i) :=
  ⟨gName i, pg_name hN hi hx hf, fun b σ H ε T Tv d v Q Q' I l q k => k _ _ _ (I.store l q.1 (b.free hk)) q.2⟩
end
end VL
namespace VL
open PySem PySem.Spec PyProof.Rows L2 VL
section
variable {K : PySem.W.Frag} {b : Bs} {σ : L2.St} {H H' : Hp} {ε : Ep} {T : List D} {Tv : List V}
theorem heldNone {σ : L2.St} : ∀ {R : List D} {Rv : List V}, R.length = Rv.length → Held σ (R.map fun _ => none) Rv
  | [], [], _ => trivial
  | _ :: R, _ :: Rv, h => heldNone (R := R) (Nat.succ.inj h)
  | [], _ :: _, h => by cases h
  | _ :: _, [], h => by cases h
theorem restoreNone : ∀ {R : List D} {ε : Ep}, restore (R.map fun _ => none) R ε = ε
  | [], _ => rfl
  | _ :: R, _ => restoreNone (R := R)
theorem SI.midDrops {R S : List D} {Rv Sv : List V} (I : SI K b σ H ε (T ++ (R ++ S)) (Tv ++ (Rv ++ Sv))) (hl : T.length = Tv.length) (hr : R.length = Rv.length) : SI K b σ H ε (T ++ S) (Tv ++ Sv) := by
  have := SI.restore hl (heldNone hr) hr I
  rw [restoreNone] at this
  exact this
/-- a held thing amid others goes to a slot -/
theorem SI.midStore {d : D} {v : V} {R : List D} {Rv : List V} (I : SI K b σ H ε (T ++ d :: R) (Tv ++ v :: Rv)) (hl : T.length = Tv.length) {i : Nat} (hi : i < ε.length) (hk : ∀ u, b.kv[i]? ≠ some (some u)) : SI K b (σ.set i (some v)) H (ε.set i (some d)) (T ++ R) (Tv ++ Rv) := by
  obtain ⟨G, F, Ft, J⟩ := I
  obtain ⟨F1, F2, rfl, r1, r2⟩ := J.temps.split2 hl
  obtain ⟨v', vs', A, B, e, rfl, rd, rs⟩ := r2
  obtain ⟨rfl, rfl⟩ := List.cons.inj e
  obtain ⟨ov, C, E, L, hs', rfl, ro, back⟩ := J.slots.focus (i := i) (List.getElem?_eq_getElem hi)
  have s2 := back G H (some d) (some v) A Sub.refl (fun _ _ => rfl) ⟨v, rfl, rd⟩
  have sb : ∀ a, a ∈ C ++ A ++ L ++ (F1 ++ B) → a ∈ C ++ E ++ L ++ (F1 ++ (A ++ B)) := fun a z => by
    simp only [List.mem_append] at z ⊢
    rcases z with ((z | z) | z) | z | z
    · exact .inl (.inl (.inl z))
    · exact .inr (.inr (.inl z))
    · exact .inl (.inr z)
    · exact .inr (.inl z)
    · exact .inr (.inr (.inr z))
  have nd : (C ++ A ++ L ++ (F1 ++ B)).Nodup := by
    have h1 : (C ++ E ++ L ++ (F1 ++ (A ++ B))).Perm (E ++ (C ++ A ++ L ++ (F1 ++ B))) := by
      apply List.perm_iff_count.mpr
      intro a
      simp only [List.count_append]
      omega
    exact (List.nodup_append.mp (h1.nodup_iff.mp J.nd)).2.1
  refine ⟨G, _, F1 ++ B, J.s0, J.sub, s2, r1.append rs, nd, fun a z => J.fr a (sb a z), fun a z => J.own a (sb a z), J.gn, J.keep, fun j u e => ?_⟩
  have hj : i ≠ j := fun z => by
    subst z
    exact hk u e
  rw [List.getElem?_set_ne hj]
  exact J.kept j u e
/-- a held tuple is opened -/
theorem SI.openT {ds : List D} {v : V} (I : SI K b σ H ε (T ++ [.tup ds]) (Tv ++ [v])) (hl : T.length = Tv.length) : ∃ a vs, v = .ref a ∧ SqT K H a vs ∧ ds.length = vs.length ∧ SI K b σ H ε (T ++ ds) (Tv ++ vs) := by
  obtain ⟨G, F, Ft, J⟩ := I
  obtain ⟨F1, F2, rfl, r1, r2⟩ := J.temps.split2 hl
  obtain ⟨a, vs, rfl, s, r⟩ := RpL.one.mp r2
  exact ⟨a, vs, rfl, SqT.of (J.sub _ _ s), r.len, G, F, F1 ++ F2, J.s0, J.sub, J.slots, r1.append r, J.nd, J.fr, J.own, J.gn, J.keep, J.kept⟩
theorem SI.openL {m : Bool} {ds : List D} {v : V} (I : SI K b σ H ε (T ++ [.lst m ds]) (Tv ++ [v])) (hl : T.length = Tv.length) : ∃ a vs, v = .ref a ∧ SqL K H a vs ∧ ds.length = vs.length ∧ SI K b σ H ε (T ++ ds) (Tv ++ vs) := by
  obtain ⟨G, F, Ft, J⟩ := I
  obtain ⟨F1, F2, rfl, r1, r2⟩ := J.temps.split2 hl
  have r2 := RpL.one.mp r2
  cases m with
  | false =>
    obtain ⟨a, vs, rfl, s, rfl, r⟩ := r2
    exact ⟨a, vs, rfl, J.sub.sqL s, r.len, G, F, F1 ++ [], J.s0, J.sub, J.slots, r1.append r, J.nd, J.fr, J.own, J.gn, J.keep, J.kept⟩
  | true =>
    obtain ⟨a, vs, F', rfl, s, rfl, r⟩ := r2
    have sb : ∀ c, c ∈ F ++ (F1 ++ F') → c ∈ F ++ (F1 ++ a :: F') := fun c z => by
      simp only [List.mem_append, List.mem_cons] at z ⊢
      rcases z with z | z | z
      · exact .inl z
      · exact .inr (.inl z)
      · exact .inr (.inr (.inr z))
    have nd : (F ++ (F1 ++ F')).Nodup := by
      have h1 : (F ++ (F1 ++ a :: F')).Perm ([a] ++ (F ++ (F1 ++ F'))) := by
        apply List.perm_iff_count.mpr
        intro c
        simp only [List.count_append, List.count_cons]
        simp
        omega
      exact (List.nodup_append.mp (h1.nodup_iff.mp J.nd)).2.1
    exact ⟨a, vs, rfl, SqL.of s, r.len, G, F, F1 ++ F', J.s0, J.sub, J.slots, r1.append r, nd, fun c z => J.fr c (sb c z), fun c z => J.own c (sb c z), J.gn, J.keep, J.kept⟩
end
section
variable {X : Cv}
def setAll : List Nat → List D → Ep → Ep
  | i :: is, d :: ds, ε => setAll is ds (ε.set i (some d))
  | _, _, ε => ε
structure VNs (X : Cv) (ts : List Expr) (is : List Nat) : Prop where
  ex : ∃ g : TGs, PGs X.toCx ts g ∧ ∀ (b : Bx X) σ H ε T Tv ds vs (Q : Ep → Prop) (Q' : L2.St → Hp → Prop), SI X.K b.1 σ H ε (T ++ ds) (Tv ++ vs) → T.length = Tv.length → ds.length = vs.length → is.length = ds.length → (∀ i ∈ is, i < ε.length) → Q (setAll is ds ε) →
    (∀ ε' σ' H', SI X.K b.1 σ' H' ε' T Tv → Q ε' → Q' σ' H') → g vs σ H Q'
theorem vns_nil : VNs X [] [] := ⟨gNil, pgs_nil, fun b σ H ε T Tv ds vs Q Q' I l hd hi _ q k => by
  cases ds with
  | cons _ _ => cases hi
  | nil =>
    cases vs with
    | cons _ _ => cases hd
    | nil => exact ⟨rfl, k ε σ H (by simpa using I) q⟩⟩
theorem vns_cons {x : Str} {pos : Pos} {es : List Expr} {i : Nat} {is : List Nat} (hN : X.N.Nodup) (hi : X.N[i]? = some x) (hx : Loc X.env.scope x) (hk : X.κ[i]? ≠ some true) (h : VNs X es is)
    (hs : (assignEach (.Name x pos :: es) X.env).map (·.2) = assign (.Name x pos) X.env :: (assignEach es X.env).map (·.2) := by rfl)
    (hf : X.fn x = true ∨ X.env.scope.names.lookup x = some .local := by first | exact .inl rfl | exact .inr rfl | assumption) : VNs X (.Name x pos :: es) (i :: is) := by
  obtain ⟨g, h1, h2⟩ := h.ex
  refine ⟨gCons (gName i) g, pgs_cons (pg_name hN hi hx hf) h1 hs, fun b σ H ε T Tv ds vs Q Q' I l hd hn hb q k => ?_⟩
  cases ds with
  | nil => cases hn
  | cons d ds =>
    cases vs with
    | nil => cases hd
    | cons v vs =>
      refine ⟨v, vs, rfl, ?_⟩
      exact h2 b _ H _ T Tv ds vs Q Q' (SI.midStore I l (hb i List.mem_cons_self) (b.free hk)) l (Nat.succ.inj hd) (Nat.succ.inj hn) (fun j z => by rw [List.length_set]; exact hb j (List.mem_cons_of_mem _ z)) q k
/-- the things that a tuple, a list holds -/
def items : D → Option (List D)
  | .tup ds => some ds
  | .lst _ ds => some ds
  | _ => none
def vNames (is : List Nat) : VTG := fun d ε Q => ∃ ds, items d = some ds ∧ is.length = ds.length ∧ (∀ i ∈ is, i < ε.length) ∧ Q (setAll is ds ε)
theorem vt_names {es : List Expr} {is : List Nat} {k : Nat} {pos : Pos} {n : Nat} (hc : X.calm = true) (h : VNs X es is)
    (hn : (assignEach es X.env).length = is.length := by rfl) (hst : (assignEach es X.env).findIdx? (·.1) = none := by rfl) : VTa X (.Tuple es k pos) (vNames is) := by
  obtain ⟨g, h1, h2⟩ := h.ex
  refine ⟨fun v σ H Q => gTup X.K is.length g v σ H Q ∨ gLst X.K is.length g v σ H Q, ⟨fun pins s σ H v u Q I r w => ?_⟩, fun b σ H ε T Tv d v Q Q' I l q z => ?_⟩
  · rcases w with w | w
    · exact (pg_tup hc h1 hn hst).run pins s σ H v u Q I r w
    · exact (pg_lst hc h1 hn hst).run pins s σ H v u Q I r w
  · obtain ⟨ds, hd, hl, hb, q⟩ := q
    cases d with
    | tup es =>
      cases hd
      obtain ⟨a, vs, rfl, s, l2, J⟩ := I.openT l
      exact .inl ⟨a, vs, rfl, s, by rw [← l2, hl], h2 b σ H ε T Tv ds vs Q Q' J l l2 hl hb q z⟩
    | lst m es =>
      cases hd
      obtain ⟨a, vs, rfl, s, l2, J⟩ := I.openL l
      exact .inr ⟨a, vs, rfl, s, by rw [← l2, hl], h2 b σ H ε T Tv ds vs Q Q' J l l2 hl hb q z⟩
    | _ => cases hd
def vAsgT (t : VTE) (g : VTG) : VTS := fun N ε => t N.rx ε fun d ε1 => g d ε1 N.nx
theorem vs_asgT {tg e : Expr} {t : VTE} {g : VTG} {pos : Pos} (h : VE X e t) (hg : VTa X tg g) (hs : swapsWithSole [tg] e pos.line X.env = pure false := by rfl) (hw : swappedStores [tg] e X.env = pure none := by rfl)
    (h1 : (assignEach [tg] X.env).map (·.2) = [assign tg X.env] := by rfl) : VS X (.Assign [tg] e pos) (vAsgT t g) := by
  obtain ⟨t', a1, a2⟩ := h.ex
  obtain ⟨g', g1, g2⟩ := hg.ex
  refine ⟨fun W => tAsg (t' W) g', fun W tk => ps_asg (a1 W tk) g1 hs hw h1, fun b σ H ε T Tv W N E I q l x => ?_⟩
  exact a2 b σ H ε T Tv W N.rx _ _ I q (fun d v ε1 H1 J z => g2 b σ H1 ε1 T Tv d v N.nx E.nx J I.lenT z fun ε' σ' H' J' z' => l.nx σ' H' ε' J' z') x
/-- the walk J gives ds one by one while R is held -/
def Wk (K : PySem.W.Frag) (J : It) (ds R : List D) (Rv : List V) : Prop := ∀ (b : Bs) σ H ε T Tv i, T.length = Tv.length → SI K b σ H ε (T ++ R) (Tv ++ Rv) →
  (∀ d, ds[i]? = some d → J.go i H ∧ ∀ x H', J.yld i H x H' → SI K b σ H' ε (T ++ (R ++ [d])) (Tv ++ (Rv ++ [x]))) ∧ (ds.length ≤ i → J.stop i H)
structure VI (X : Cv) (tg iter : Expr) (t : VTA) : Prop where
  ex : ∃ t' : WX → TI, (∀ W, Takes X.toCx W → PI X.toCx tg iter (t' W)) ∧ ∀ (b : Bx X) σ H ε T Tv W N Q Q', SI X.K b.1 σ H ε T Tv → t N ε Q →
    (∀ ds R Rv J ε' H', SI X.K b.1 σ H' ε' (T ++ R) (Tv ++ Rv) → R.length = Rv.length → Wk X.K J ds R Rv → Q ds ε' → Q' J H') → XL X.K b.1 T Tv W N → t' W σ H Q'
def vForL (g : VTG) (body : VTS) : List D → VTS
  | [], N, ε => N.nx ε
  | d :: ds, N, ε => g d ε fun ε1 => body { N with nx := fun ε' => vForL g body ds N ε', ct := fun ε' => vForL g body ds N ε', bk := N.nx } ε1
def vFor (wi : VTA) (g : VTG) (body : VTS) : VTS := fun N ε => wi N.rx ε fun ds ε1 => vForL g body ds N ε1
theorem vs_for {tg iter : Expr} {body : List Stmt} {wi : VTA} {g : VTG} {t : VTS} {pos : Pos} (hp : PassesOwn (model X.prog X.w) X.A X.env X.xe) (hc : X.calm = true) (hi : VI X tg iter wi) (hg : VTa X tg g) (hb : VSs X body t)
    (hs : ∀ x, foldedSetIterable iter X.env x = pure x := by intro _; rfl) : VS X (.For tg iter body [] pos) (vFor wi g t) := by
  obtain ⟨wi', w1, w2⟩ := hi.ex
  obtain ⟨g', g1, g2⟩ := hg.ex
  obtain ⟨t', t1, t2⟩ := hb.ex
  refine ⟨fun W => tFor (wi' W) g' (t' W), fun W tk => ps_for hp hc (w1 W tk) g1 (t1 W tk) hs, fun b σ H ε T Tv W N E I q l x => ?_⟩
  refine w2 b σ H ε T Tv W N.rx _ _ I q (fun ds R Rv J ε1 H1 I1 hr wk z => ?_) x
  have hl := I.lenT
  refine ⟨fun i m σ H => m = ds.length - i ∧ i ≤ ds.length ∧ ∃ ε, SI X.K b.1 σ H ε (T ++ R) (Tv ++ Rv) ∧ vForL g t (ds.drop i) N ε, ⟨ds.length, rfl, Nat.zero_le _, ε1, I1, z⟩, ?_⟩
  rintro i m σ2 H2 ⟨rfl, hi, ε2, I2, z2⟩
  obtain ⟨go, stop⟩ := wk b.1 σ2 H2 ε2 T Tv i hl I2
  by_cases hlt : i < ds.length
  · right
    rw [List.drop_eq_getElem_cons hlt] at z2
    obtain ⟨g0, gy⟩ := go ds[i] (List.getElem?_eq_getElem hlt)
    refine ⟨g0, fun σ' H' => ∃ ε, SI X.K b.1 σ' H' ε (T ++ R) (Tv ++ Rv) ∧ vForL g t (ds.drop (i + 1)) N ε, fun σ' H' y => ⟨ds.length - (i + 1), by omega, rfl, hlt, y⟩, fun v H' y => ?_⟩
    have I3 := gy v H' y
    have hl2 : (T ++ R).length = (Tv ++ Rv).length := by rw [List.length_append, List.length_append, hl, hr]
    refine g2 b σ2 H' ε2 (T ++ R) (Tv ++ Rv) ds[i] v _ _ (by simpa only [List.append_assoc] using I3) hl2 z2 fun ε4 σ4 H4 I4 z4 => ?_
    refine t2 b σ4 H4 ε4 (T ++ R) (Tv ++ Rv) W _ _ I4 z4 ⟨fun σ5 H5 ε5 I5 z5 => ⟨ε5, I5, z5⟩, fun σ5 H5 ε5 d5 v5 I5 z5 => l.rt σ5 H5 ε5 d5 v5 ?_ z5, fun σ5 H5 ε5 I5 z5 => l.nx σ5 H5 ε5 (I5.drop hl) z5, fun σ5 H5 ε5 I5 z5 => ⟨ε5, I5, z5⟩⟩ (x.more hl hr)
    exact SI.midDrops (by simpa only [List.append_assoc] using I5) hl hr
  · left
    have e : i = ds.length := by omega
    subst e
    rw [List.drop_length] at z2
    exact ⟨stop (Nat.le_refl _), l.nx σ2 H2 ε2 (I2.drop hl) z2⟩
theorem wk_lst {K : PySem.W.Frag} {ds : List D} {a : Addr} : Wk K (Itl K a) ds [.lst false ds] [.ref a] := fun b σ H ε T Tv i hl I => by
  obtain ⟨G, F, Ft, J⟩ := id I
  obtain ⟨F1, F2, rfl, r1, r2⟩ := J.temps.split2 hl
  obtain ⟨a', vs, e, s, rfl, r⟩ := RpL.one.mp r2
  cases e
  have s2 := J.sub.sqL s
  refine ⟨fun d hd => ?_, fun h => ⟨vs, s2, by rw [← r.len]; exact h⟩⟩
  obtain ⟨v, hv, rv⟩ := r.get hd
  refine ⟨⟨vs, v, s2, hv⟩, fun x H' y => ?_⟩
  obtain ⟨rfl, y⟩ := y
  have := y vs s2
  rw [hv] at this
  cases this
  have J2 := J.push (rv.mono (H' := H') Sub.refl fun _ z => nomatch z)
  exact ⟨G, F, _, by simpa only [List.append_assoc] using J2⟩
theorem wk_tup {K : PySem.W.Frag} {ds : List D} {a : Addr} (hz : isFzL ds = true) : Wk K (Itt K a) ds [.tup ds] [.ref a] := fun b σ H ε T Tv i hl I => by
  obtain ⟨G, F, Ft, J⟩ := id I
  obtain ⟨F1, F2, rfl, r1, r2⟩ := J.temps.split2 hl
  obtain ⟨a', vs, e, s, r⟩ := RpL.one.mp r2
  cases e
  have := r.fz hz
  subst this
  have s2 : SqT K H a vs := SqT.of (J.sub _ _ s)
  refine ⟨fun d hd => ?_, fun h => ⟨vs, s2, by rw [← r.len]; exact h⟩⟩
  obtain ⟨v, hv, rv⟩ := r.get hd
  refine ⟨⟨vs, v, s2, hv⟩, fun x H' y => ?_⟩
  obtain ⟨rfl, y⟩ := y
  have := y vs s2
  rw [hv] at this
  cases this
  have J2 := J.push (rv.mono (H' := H') Sub.refl fun _ z => nomatch z)
  exact ⟨G, F, _, by simpa only [List.append_assoc] using J2⟩
end
end VL
namespace VL
open PySem PySem.Spec PyProof.Rows L2 VL
section
variable {X : Cv} {tg : Expr}
theorem lenApp {α β : Type} {A B : List α} {C D : List β} (h : A.length = C.length) (k : B.length = D.length) : (A ++ B).length = (C ++ D).length := by
  rw [List.length_append, List.length_append, h, k]
/-- for .. in a list that stands still -/
def viLst (t : VTE) : VTA := fun N ε Q => t N ε fun d ε1 => ∃ ds, d = .lst false ds ∧ Q ds ε1
def viTup (t : VTE) : VTA := fun N ε Q => t N ε fun d ε1 => ∃ ds, d = .tup ds ∧ isFzL ds = true ∧ Q ds ε1
theorem vi_lst {e : Expr} {t : VTE} (h : VE X e t) : VI X tg e (viLst t) := by
  obtain ⟨t', a1, a2⟩ := h.ex
  refine ⟨fun W => iList X.K (t' W), fun W tk => pi_list (a1 W tk), fun b σ H ε T Tv W N Q Q' I q k x => ?_⟩
  refine a2 b σ H ε T Tv W N _ _ I q (fun d v ε1 H1 J z => ?_) x
  obtain ⟨ds, rfl, z⟩ := z
  obtain ⟨G, F, su, r⟩ := J.last I.lenT
  obtain ⟨a, vs, rfl, s, _, _⟩ := r
  exact ⟨a, rfl, ⟨vs, su.sqL s⟩, k ds [.lst false ds] [.ref a] _ ε1 H1 J rfl wk_lst z⟩
theorem vi_tup {e : Expr} {t : VTE} (h : VE X e t) : VI X tg e (viTup t) := by
  obtain ⟨t', a1, a2⟩ := h.ex
  refine ⟨fun W => iTup X.K (t' W), fun W tk => pi_tup (a1 W tk), fun b σ H ε T Tv W N Q Q' I q k x => ?_⟩
  refine a2 b σ H ε T Tv W N _ _ I q (fun d v ε1 H1 J z => ?_) x
  obtain ⟨ds, rfl, hz, z⟩ := z
  obtain ⟨G, F, su, r⟩ := J.last I.lenT
  obtain ⟨a, vs, rfl, s, _⟩ := r
  exact ⟨a, rfl, ⟨vs, SqT.of (su _ _ s)⟩, k ds [.tup ds] [.ref a] _ ε1 H1 J rfl (wk_tup hz) z⟩
/-- lo, lo + 1, .. -/
def rng (lo : Int) (n : Nat) : List D := (List.range n).map fun (i : Nat) => D.int (lo + (i : Int))
theorem rng_get {lo : Int} {n i : Nat} {d : D} (h : (rng lo n)[i]? = some d) : i < n ∧ d = .int (lo + i) := by
  unfold rng at h
  rw [List.getElem?_map] at h
  cases e : (List.range n)[i]? with
  | none => rw [e] at h; cases h
  | some j =>
    rw [e] at h
    have := List.getElem?_eq_some_iff.mp e
    obtain ⟨h1, h2⟩ := this
    rw [List.getElem_range] at h2
    subst h2
    simp at h
    exact ⟨by simpa using h1, h.symm⟩
theorem rng_len (lo : Int) (n : Nat) : (rng lo n).length = n := by simp [rng]
theorem wk_rng {K : PySem.W.Frag} {lo : Int} {n : Nat} : Wk K (Itr lo n) (rng lo n) [] [] := fun b σ H ε T Tv i hl I => by
  refine ⟨fun d hd => ?_, fun h => by rw [rng_len] at h; exact h⟩
  obtain ⟨hi, rfl⟩ := rng_get hd
  refine ⟨hi, fun x H' y => ?_⟩
  obtain ⟨rfl, rfl⟩ := y
  have I2 : SI K b σ H' ε T Tv := by simpa using I
  exact I2.push fun G => ⟨rfl, rfl⟩
def viR1 (t : VTA) : VTA := fun N ε Q => t N ε fun ds ε1 => ∃ j : Int, ds = [.int j] ∧ -(2 ^ 62) ≤ j ∧ j < 2 ^ 62 ∧ Q (rng 0 j.toNat) ε1
def viR2 (t : VTA) : VTA := fun N ε Q => t N ε fun ds ε1 => ∃ i j : Int, ds = [.int i, .int j] ∧ (-(2 ^ 62) ≤ i ∧ i < 2 ^ 62 ∧ -(2 ^ 62) ≤ j ∧ j < 2 ^ 62) ∧ Q (rng i (j - i).toNat) ε1
theorem vi_range1 {a : Expr} {t : VTA} {p pos : Pos} (hg : Gl X.toCx "range") (hm : X.mg "range" = none) (ha : VA X [a] [none] t) (hs : starEach [a] X.env = [(false, eval a X.env)] := by rfl) : VI X tg (.Call (.Name "range" p) [a] [] pos) (viR1 t) := by
  obtain ⟨t', a1, a2⟩ := ha.ex
  refine ⟨fun W => iRng1 (t' W), fun W tk => pi_range1 hg hm (a1 W tk) hs, fun b σ H ε T Tv W N Q Q' I q k x => ?_⟩
  refine a2 b σ H ε T Tv W N _ _ I q (fun ds vs ε1 H1 J l hh z => ?_) x
  obtain ⟨j, rfl, h1, h2, z⟩ := z
  obtain ⟨v, rfl⟩ := List.length_eq_one_iff.mp l.symm
  obtain ⟨G, F, su, rfl, _⟩ := J.last I.lenT
  exact ⟨j, rfl, h1, h2, k _ [] [] _ ε1 H1 (by simpa using J.pop I.lenT) rfl wk_rng z⟩
/-- with their places, with one another -/
def enumD (ds : List D) : List D := ds.zipIdx.map fun p => D.tup [.int (p.2 : Nat), p.1]
def zipD (ds es : List D) : List D := (ds.zip es).map fun p => D.tup [p.1, p.2]
theorem enumD_get {ds : List D} {i : Nat} {d : D} (h : (enumD ds)[i]? = some d) : ∃ x, ds[i]? = some x ∧ d = .tup [.int (i : Nat), x] := by
  unfold enumD at h
  rw [List.getElem?_map, List.getElem?_zipIdx] at h
  cases e : ds[i]? with
  | none => rw [e] at h; cases h
  | some x =>
    rw [e] at h
    simp at h
    exact ⟨x, rfl, h.symm⟩
theorem enumD_len (ds : List D) : (enumD ds).length = ds.length := by simp [enumD]
/-- a new tuple of things that stand still -/
theorem SI.newTup {K : PySem.W.Frag} {b : Bs} {σ : L2.St} {H : Hp} {ε : Ep} {T : List D} {Tv : List V} {ds : List D} {vs : List V} (I : SI K b σ H ε (T ++ ds) (Tv ++ vs)) (hl : T.length = Tv.length) {p : Addr} (n : H p = none) : SI K b σ (upd H p (.tup vs)) ε (T ++ [.tup ds]) (Tv ++ [.ref p]) := I.tup hl n
theorem wk_enum {K : PySem.W.Frag} {ds : List D} {a : Addr} : Wk K (Ite K a) (enumD ds) [.lst false ds] [.ref a] := fun b σ H ε T Tv i hl I => by
  obtain ⟨G, F, Ft, J⟩ := id I
  obtain ⟨F1, F2, rfl, r1, r2⟩ := J.temps.split2 hl
  obtain ⟨a', vs, e, s, rfl, r⟩ := RpL.one.mp r2
  cases e
  have s2 := J.sub.sqL s
  refine ⟨fun d hd => ?_, fun h => ⟨vs, s2, by rw [← r.len, ← enumD_len]; exact h⟩⟩
  obtain ⟨c, hc, rfl⟩ := enumD_get hd
  obtain ⟨v, hv, rv⟩ := r.get hc
  refine ⟨⟨vs, v, s2, hv⟩, fun x H' y => ?_⟩
  obtain ⟨p, w, rfl, hp, rfl, y⟩ := y
  have := y vs s2
  rw [hv] at this
  cases this
  have J1 := J.push (d := .int (i : Nat)) (v := .int (i : Nat)) ⟨rfl, rfl⟩
  have J2 := J1.push (rv.mono (H' := H) Sub.refl fun _ z => nomatch z)
  have I2 : SI K b σ H ε ((T ++ [.lst false ds]) ++ [.int (i : Nat), c]) ((Tv ++ [.ref a]) ++ [.int (i : Nat), v]) := ⟨G, F, _, by simpa only [List.append_assoc, List.cons_append, List.nil_append] using J2⟩
  have I3 := I2.newTup (lenApp hl rfl) hp
  simpa only [List.append_assoc] using I3
def viEnum (t : VTA) : VTA := fun N ε Q => t N ε fun ds ε1 => ∃ xs, ds = [.lst false xs] ∧ Q (enumD xs) ε1
theorem vi_enum {e : Expr} {t : VTA} {p pos tpos : Pos} {elts : List Expr} {kk : Nat} (hg : Gl X.toCx "enumerate") (hm : X.mg "enumerate" = none) (ha : VA X [e] [none] t) (hs : starEach [e] X.env = [(false, eval e X.env)] := by rfl) : VI X (.Tuple elts kk tpos) (.Call (.Name "enumerate" p) [e] [] pos) (viEnum t) := by
  obtain ⟨t', a1, a2⟩ := ha.ex
  refine ⟨fun W => iEnum X.K (t' W), fun W tk => pi_enum hg hm (a1 W tk) hs, fun b σ H ε T Tv W N Q Q' I q k x => ?_⟩
  refine a2 b σ H ε T Tv W N _ _ I q (fun ds vs ε1 H1 J l hh z => ?_) x
  obtain ⟨xs, rfl, z⟩ := z
  obtain ⟨v, rfl⟩ := List.length_eq_one_iff.mp l.symm
  obtain ⟨G, F, su, r⟩ := J.last I.lenT
  obtain ⟨a, us, rfl, s, _, _⟩ := r
  exact ⟨a, us, rfl, su.sqL s, k _ [.lst false xs] [.ref a] _ ε1 H1 J rfl wk_enum z⟩
def viZip (t : VTA) : VTA := fun N ε Q => t N ε fun ds ε1 => ∃ xs ys, ds = [.lst false xs, .lst false ys] ∧ Q (zipD xs ys) ε1
def viRev (t : VTA) : VTA := fun N ε Q => t N ε fun ds ε1 => ∃ xs, ds = [.lst false xs] ∧ Q xs.reverse ε1
def viStr (t : VTE) : VTA := fun N ε Q => t N ε fun d ε1 => ∃ s : Cs, d = .str s ∧ Q (s.map fun c => D.str [c]) ε1
def vWhile (c : VTT) (t : VTS) : VTS := fun N ε => ∃ J : Nat → Ep → Prop, (∃ m, J m ε) ∧ ∀ m ε, J m ε → c N.rx ε fun k ε1 =>
  if k = true then t { N with nx := fun ε' => ∃ m', m' < m ∧ J m' ε', ct := fun ε' => ∃ m', m' < m ∧ J m' ε', bk := N.nx } ε1 else N.nx ε1
theorem vs_while {c : Expr} {body : List Stmt} {tc : VTT} {t : VTS} {pos : Pos} (hp : PassesOwn (model X.prog X.w) X.A X.env X.xe) (hc : VT X c tc) (hb : VSs X body t) : VS X (.While c body [] pos) (vWhile tc t) := by
  obtain ⟨c', c1, c2⟩ := hc.ex
  obtain ⟨t', t1, t2⟩ := hb.ex
  refine ⟨fun W => tWhile (c' W) (t' W), fun W tk => ps_while hp (c1 W tk) (t1 W tk), fun b σ H ε T Tv W N E I q l x => ?_⟩
  obtain ⟨J, ⟨m0, j0⟩, turn⟩ := q
  refine ⟨fun m σ H => ∃ ε, SI X.K b.1 σ H ε T Tv ∧ J m ε, ⟨m0, ε, I, j0⟩, ?_⟩
  rintro m σ2 H2 ⟨ε2, I2, j2⟩
  refine c2 b σ2 H2 ε2 T Tv W N.rx _ _ I2 (turn m ε2 j2) (fun k ε3 H3 I3 z => ?_) x
  cases k with
  | true =>
    refine ⟨fun σ' H' => ∃ ε', SI X.K b.1 σ' H' ε' T Tv ∧ ∃ m', m' < m ∧ J m' ε', fun σ' H' ⟨ε', I', m', hm, j'⟩ => ⟨m', hm, ε', I', j'⟩, ?_⟩
    exact t2 b σ2 H3 ε3 T Tv W _ _ I3 z ⟨fun σ5 H5 ε5 I5 z5 => ⟨ε5, I5, z5⟩, l.rt, l.nx, fun σ5 H5 ε5 I5 z5 => ⟨ε5, I5, z5⟩⟩ x
  | false => exact l.nx σ2 H3 ε3 I3 z
end
end VL
namespace VL
open PySem PySem.Spec PyProof.Rows L2 VL
/-- a promise over trees: the arguments; what is wanted of the answer and of the arguments behind; of an exception's class and row -/
abbrev VSp := List D → (D → List D → Prop) → (Value → D → List D → Prop) → Prop
/-- the ground of a call -/
def callB (H G : Hp) (F : List Addr) : Bs := { H0 := H, G0 := G, F0 := F, kv := [] }
def Lift (K : PySem.W.Frag) (n : Nat) (vsp : VSp) : Sp := fun vs H Q E => ∃ G F ds, SIx K (callB H G F) G [] F [] H [] ds vs ∧ ds.length = n ∧
  vsp ds (fun r ds' => ∀ v H', SI K (callB H G F) [] H' [] (ds' ++ [r]) (vs ++ [v]) → Q v H')
    (fun cls row ds' => ∀ dd v H', SI K (callB H G F) [] H' [] (ds' ++ [row]) (vs ++ [v]) → H' dd = some (.xd [("row", v)]) → (dd ∈ F ∨ H dd = none) → E (clsV K cls) (some dd) H')
theorem Lift.len {K : PySem.W.Frag} {n : Nat} {vsp : VSp} {vs : List V} {H : Hp} {Q : VK} {E : XK} (h : Lift K n vsp vs H Q E) : vs.length = n := by
  obtain ⟨G, F, ds, I, l, _⟩ := h
  rw [← I.lenT, l]
section
variable {K : PySem.W.Frag} {b : Bs} {σ : L2.St} {H H' : Hp} {ε : Ep} {T : List D} {Tv : List V}
/-- what a callee is handed -/
theorem SI.enter {ds : List D} {vs : List V} (I : SI K b σ H ε (T ++ ds) (Tv ++ vs)) (hl : T.length = Tv.length) : ∃ G F, SIx K (callB H G F) G [] F [] H [] ds vs ∧
    (∀ H' (R : List D) (Rv : List V), SI K (callB H G F) [] H' [] R Rv → SI K b σ H' ε (T ++ R) (Tv ++ Rv)) ∧ ∀ a, (a ∈ F ∨ H a = none) → (a ∈ b.F0 ∨ b.H0 a = none) := by
  obtain ⟨G, F, Ft, J⟩ := I
  obtain ⟨F1, F2, rfl, r1, r2⟩ := J.temps.split2 hl
  have i2 : ∀ a ∈ F2, a ∈ F ++ (F1 ++ F2) := fun a z => List.mem_append_right _ (List.mem_append_right _ z)
  have nd := J.nd
  rw [← List.append_assoc] at nd
  obtain ⟨nd1, nd2, dj⟩ := List.nodup_append.mp nd
  refine ⟨G, F2, ⟨Sub.refl, J.sub, ⟨rfl, rfl⟩, r2, by simpa using nd2, fun a z => J.fr a (i2 a (by simpa using z)), fun a z => .inl (show a ∈ F2 by simpa using z), fun a o e => .inl e, fun a o e _ => e, fun j v e => by simp [callB] at e⟩, ?_, fun a z => z.elim (fun z => J.own a (i2 a z)) fun z => J.h0 z⟩
  rintro H' R Rv ⟨G', Fs, F', J'⟩
  obtain ⟨_, rfl⟩ := J'.slots
  have out : ∀ a ∈ F ++ F1, a ∉ F2 ∧ ∃ o, H a = some o := fun a z => by
    refine ⟨fun h => dj a z a h rfl, ?_⟩
    rcases List.mem_append.mp z with z | z
    · obtain ⟨o, e, _⟩ := J.slots.there a z
      exact ⟨o, e⟩
    · obtain ⟨o, e, _⟩ := r1.there a z
      exact ⟨o, e⟩
  have kp : ∀ a ∈ F ++ F1, H' a = H a := fun a z => by
    obtain ⟨n, o, e⟩ := out a z
    rw [e]
    exact J'.keep a o e n
  have own' : ∀ a ∈ F', a ∈ F2 ∨ H a = none := fun a z => J'.own a (by simpa using z)
  refine ⟨G', F, F1 ++ F', J.s0.trans J'.s0, J'.sub, J.slots.mono J'.s0 fun a z => kp a (List.mem_append_left _ z), (r1.mono J'.s0 fun a z => kp a (List.mem_append_right _ z)).append J'.temps, ?_, ?_, ?_, ?_, ?_, J.kept⟩
  · rw [← List.append_assoc]
    refine List.nodup_append.mpr ⟨nd1, by simpa using J'.nd, fun a z c hc e => ?_⟩
    subst e
    obtain ⟨n, o, e⟩ := out a z
    rcases own' a hc with h | h
    · exact n h
    · rw [e] at h; cases h
  · intro a z
    rw [← List.append_assoc] at z
    rcases List.mem_append.mp z with z | z
    · obtain ⟨n, o, e⟩ := out a z
      cases q : G' a with
      | none => rfl
      | some u =>
        rcases J'.gn a u q with h | h | h | ⟨vs, h⟩
        · have := J.fr a (by rw [← List.append_assoc]; exact List.mem_append_left _ z)
          rw [show G a = some u from h] at this
          cases this
        · exact absurd h n
        · rw [show H a = none from h] at e; cases e
        · subst h
          have h1 := J'.sub a _ q
          rw [kp a z] at h1
          have h2 : ∃ o, H a = some o ∧ Mut (some o) := by
            rcases List.mem_append.mp z with z | z
            · exact J.slots.there a z
            · exact r1.there a z
          obtain ⟨o2, e2, m2⟩ := h2
          rw [h1] at e2
          cases e2
          exact m2.elim
    · exact J'.fr a (by simpa using z)
  · intro a z
    rw [← List.append_assoc] at z
    rcases List.mem_append.mp z with z | z
    · exact J.own a (by rw [← List.append_assoc]; exact List.mem_append_left _ z)
    · rcases own' a z with h | h
      · exact J.own a (i2 a h)
      · cases e : b.H0 a with
        | none => exact .inr rfl
        | some o =>
          by_cases h0 : a ∈ b.F0
          · exact .inl h0
          · rw [J.keep a o e h0] at h; cases h
  · intro a o e
    rcases J'.gn a o e with h | h | h | h
    · exact J.gn a o h
    · exact .inr (inl3 (J.own a (i2 a h)))
    · right
      cases e : b.H0 a with
      | none => exact .inr (.inl rfl)
      | some o =>
        by_cases h0 : a ∈ b.F0
        · exact .inl h0
        · have z := J.keep a o e h0
          rw [show H a = none from h] at z; cases z
    · exact .inr (.inr (.inr h))
  · intro a o e n
    refine J'.keep a o (J.keep a o e n) fun h => ?_
    rcases J.own a (i2 a h) with q | q
    · exact n q
    · rw [e] at q; cases q
end
/-- room for n calls within one another, and for the library's own small things -/
structure Room (n : Nat) (W : Around) : Prop where
  hd : W.handled = none
  dp : W.depth + (n + 300) < recursionLimit
  un : W.units + (4 * n + 1700) < cLine
section
variable {m n : Nat} {W : Around}
theorem Room.mono (q : Room n W) (le : m ≤ n) : Room m W := { hd := q.hd, dp := by have z := q.dp; omega, un := by have z := q.un; omega }
/-- one call deeper -/
theorem Room.step (q : Room (n + 1) W) {V : Around} (h : V.handled = W.handled) (d : V.depth ≤ W.depth + 1) (u : V.units ≤ W.units + 3) : Room n V := { hd := h.trans q.hd, dp := by have z := q.dp; omega, un := by have z := q.un; omega }
theorem Room.deeper (q : Room (n + 1) W) (env : Env) : Room n (W.deeper env) := q.step rfl (Nat.le_refl _) (Nat.le_refl _)
theorem Room.make (q : Room (n + 1) W) (C : Addr) (us : List Value) (kw : List (Str × Value)) : Room n (W.under (.builtin "type.__call__" ⟨.ref C :: us, kw⟩)) :=
  q.step rfl (Nat.le_of_eq make_depth) (Nat.le_trans (Nat.le_of_eq make_units) (Nat.add_le_add_left (by decide) _))
theorem Room.depth (q : Room n W) : W.depth < recursionLimit := Nat.lt_of_le_of_lt (Nat.le_add_right _ _) q.dp
theorem Room.units (q : Room n W) : W.units + 64 < cLine := by have z := q.un; omega
/-- the library's room, for what is shallow -/
theorem Room.low (q : Room n W) (h : m ≤ 90) : L2.Room m W := ⟨q.hd, by have z := q.dp; omega, by have z := q.un; omega⟩
theorem Room.of (q : L2.Room m W) (h : n + 300 ≤ 3 * m) : Room n W := ⟨q.hd, by have z := q.dp; omega, by have z := q.un; omega⟩
end
section
variable {P : Program} {w : World} {K : PySem.W.Frag} {mg : Str → Option Value} {base : Heap} {CX : CXT} {f : Addr} {fd : FuncData} {ps : List Str} {sp : Sp}
/-- the promise of a def, for calls that stand at W -/
def KeepsAt (P : Program) (w : World) (K : PySem.W.Frag) (mg : Str → Option Value) (base : Heap) (CX : CXT) (W : Around) (f : Addr) (fd : FuncData) (ps : List Str) (sp : Sp) : Prop :=
  ∀ (o : List Env) (s : Shared) (H : Hp) (a : Args) (us : List Value) (vs : List V) (Q : VK) (E : XK), Env0 P w K mg base W o s H → BindsTo s fd a (ps.zip us) → Vals vs us → sp vs H Q E → codeAny (model P w) W (.call (.ref f) a) (CR CX o P w H s Q E) s
/-- .. wherever there is room for n calls -/
structure FnOk (P : Program) (w : World) (K : PySem.W.Frag) (mg : Str → Option Value) (base : Heap) (CX : CXT) (n : Nat) (f : Addr) (fd : FuncData) (ps : List Str) (sp : Sp) : Prop where
  len : ∀ {vs H Q E}, sp vs H Q E → vs.length = ps.length
  keeps : ∀ {W}, Room n W → KeepsAt P w K mg base CX W f fd ps sp
theorem FnOk.mono {m n : Nat} (F : FnOk P w K mg base CX m f fd ps sp) (le : m ≤ n) : FnOk P w K mg base CX n f fd ps sp := ⟨F.len, fun q => F.keeps (q.mono le)⟩
/-- as the library's -/
theorem FnOk.lib {m n : Nat} (F : FnOk P w K mg base CX n f fd ps sp) (h : n + 300 ≤ 3 * m) : L2.FnOk P w K mg base CX m f fd ps sp :=
  ⟨fun _ _ _ _ z => F.len z, fun _ o s H a us vs Q E q => F.keeps (.of q h) o s H a us vs Q E⟩
end
section
variable {X : Cx} {CX : CXT} {pins : List (Addr × Obj)} {σ : L2.St} {H : Hp} {s s' : Shared} {Q : VK}
/-- how a call ends, for who asked -/
def Asked (X : Cx) (pins : List (Addr × Obj)) (σ : L2.St) (Q : VK) : Result → Shared → Prop
  | .ok (.ret u), z => EP X pins σ Q u z
  | .error e, z => X.xe e z
  | _, _ => False
theorem asked {E : XK} {r : Result} (I : Inv X pins σ H s) (hx : ∀ e z, CX X.stack H s E e z → X.xe e z) (q : CR CX X.stack X.prog X.w H s Q E r s') : Asked X pins σ Q r s' := by
  match r, q with
  | .error e, q => exact hx e s' q
  | .ok (.ret u), q => exact I.after q
/-- a callee's code, called -/
theorem call_asked {g : Addr} {us : List Value} (h : codeAny (model X.prog X.w) X.A (.call (.ref g) ⟨us, []⟩) (Asked X pins σ Q) s) : wpAny (model X.prog X.w) X.A (call (.ref g) us) (EP X pins σ Q) X.xe s :=
  wpAny_call (codeAny_mono h fun r z q => match r, q with
    | .error _, q => q
    | .ok (.ret _), q => q)
/-- a call by a global name of what stands at g, when its values are known to be taken as R says -/
theorem pe_named {R : L2.St → List V → Hp → VK → Prop} {g : Addr} {x : Str} {p pos : Pos} {e : Expr} {es : List Expr} {t : TA} (gl : Gl X x) (is : X.mg x = some (.ref g)) (kept : PySem.W.keepIn X.K (.ref g) = true) (args : PA X (e :: es) t)
    (runs : ∀ (pins : List (Addr × Obj)) (σ : L2.St) (H : Hp) (s : Shared) (Q : VK) (us : List Value) (vs : List V), Inv X pins σ H s → Vals vs us → R σ vs H Q → wpAny (model X.prog X.w) X.A (call (.ref g) us) (EP X pins σ Q) X.xe s)
    (nd : (x == ("__debug__" : Str)) = false) (ns : starEach (e :: es) X.env = (false, eval e X.env) :: starEach es X.env) (np : (backTo pos (starEach es X.env)).any (·.1) = false) :
    PE X (.Call (.Name x p) (e :: es) [] pos) fun σ H Q => t σ H fun vs H1 => R σ vs H1 Q :=
  ⟨fun pins s σ H Q I z => wpAny_Call_Name_kw (ld_glob I gl is
    (PySem.W.callWith_K (h₀ := X.base) I.ok.mod.kin kept (thn (args.run pos pins s σ H _ I z) fun us s1 ⟨vs, H1, J, rv, q⟩ => ⟨J.kIn, runs pins σ H1 s1 Q us vs J rv q⟩) ns np) nd)⟩
end
section
variable {X : Cx} {CX : CXT} {k : Nat} {f C : Addr} {fd : FuncData} {ps : List Str} {sp : Sp} {dvs : List V} {ds : List Value} {E : L2.St → XK} {x : Str} {p pos : Pos} {e : Expr} {es : List Expr} {t : TA}
/-- a def, called with values; dvs: its defaults -/
theorem run_fnSD {pins : List (Addr × Obj)} {σ : L2.St} {H : Hp} {s : Shared} {Q : VK} {us : List Value} {vs : List V} (F : FnOk X.prog X.w X.K X.mg X.base CX k f fd ps sp) (room : Room k X.A) (hb : Binds X.K fd ps ds) (hd : Vals dvs ds) (hx : PassesAt CX X σ (E σ))
    (I : Inv X pins σ H s) (rv : Vals vs us) (q : sp (vs ++ dvs) H Q (E σ)) : wpAny (model X.prog X.w) X.A (call (.ref f) us) (EP X pins σ Q) X.xe s := by
  have all : Vals (vs ++ dvs) (us ++ ds) := rv.append hd
  refine call_asked (codeAny_mono (F.keeps room X.stack s H ⟨us, []⟩ (us ++ ds) (vs ++ dvs) Q (E σ) I.env0 (hb s us I.kIn (all.length.symm.trans (F.len q))) all q) fun r z c => ?_)
  exact asked I (fun e z => hx pins H s e z I) c
theorem run_fnS {pins : List (Addr × Obj)} {σ : L2.St} {H : Hp} {s : Shared} {Q : VK} {us : List Value} {vs : List V} (F : FnOk X.prog X.w X.K X.mg X.base CX k f fd ps sp) (room : Room k X.A) (hb : Binds X.K fd ps []) (hx : PassesAt CX X σ (E σ))
    (I : Inv X pins σ H s) (rv : Vals vs us) (q : sp vs H Q (E σ)) : wpAny (model X.prog X.w) X.A (call (.ref f) us) (EP X pins σ Q) X.xe s :=
  run_fnSD (dvs := []) F room hb .nil hx I rv (by simpa using q)
theorem pe_callS (F : FnOk X.prog X.w X.K X.mg X.base CX k f fd ps sp) (room : Room k X.A) (gl : Gl X x) (is : X.mg x = some (.ref f)) (kept : PySem.W.keepIn X.K (.ref f) = true) (hb : Binds X.K fd ps []) (hx : ∀ σ, PassesAt CX X σ (E σ))
    (args : PA X (e :: es) t) (nd : (x == ("__debug__" : Str)) = false) (ns : starEach (e :: es) X.env = (false, eval e X.env) :: starEach es X.env) (np : (backTo pos (starEach es X.env)).any (·.1) = false) : PE X (.Call (.Name x p) (e :: es) [] pos) (tCallS sp E t) :=
  pe_named (R := fun σ vs H Q => sp vs H Q (E σ)) gl is kept args (fun _ σ _ _ _ _ _ I rv q => run_fnS F room hb (hx σ) I rv q) nd ns np
/-- C(..): the wish is the library's, at values -/
theorem run_make {E : XK} {pins : List (Addr × Obj)} {σ : L2.St} {H : Hp} {s : Shared} {Q : VK} {us : List Value} {vs : List V} (M : L2.Mk X.K C f) (F : FnOk X.prog X.w X.K X.mg X.base CX k f fd ps sp) (room : Room (k + 1) X.A) (hb : Binds X.K fd ps ds) (hd : Vals dvs ds)
    (hx : Passes CX X E) (I : Inv X pins σ H s) (rv : Vals vs us) (q : tMake C sp dvs E (fun _ H Q => Q vs H) σ H Q) : wpAny (model X.prog X.w) X.A (call (.ref C) us) (EP X pins σ Q) X.xe s := by
  have newer : ∀ a, s.heap.objs.size ≤ a → H a = none := fun _ le => I.hok.fresh le
  have wish := q (s.heap.objs.size + 1) s.heap.objs.size (newer _ (Nat.le_succ _)) (newer _ (Nat.le_refl _)) (Nat.succ_ne_self _).symm
  have J := Inv.made (C := C) I
  have all : Vals (V.ref (s.heap.objs.size + 1) :: (vs ++ dvs)) (Value.ref (s.heap.objs.size + 1) :: (us ++ ds)) := .cons rfl (rv.append hd)
  have to := hb _ (Value.ref (s.heap.objs.size + 1) :: us) J.kIn (all.length.symm.trans (F.len wish))
  refine call_asked (make_map (f := f) I.kIn M.makes M.init (beq_iff_eq.mp M.fn) (codeAny_mono (F.keeps (room.make C us []) X.stack _ _ ⟨_ :: us, []⟩ _ _ _ E (J.env0.make C us []) to all wish) fun r z c => ?_))
  match r, c with
  | .error e, c => exact hx pins σ _ _ e z J c
  | .ok (.ret u), c =>
    obtain ⟨v, H2, J2, ru, rfl, w2⟩ := J.after c
    exact ⟨ru, .ref (s.heap.objs.size + 1), H2, J2, rfl, w2⟩
theorem pe_make {E : XK} (M : L2.Mk X.K C f) (F : FnOk X.prog X.w X.K X.mg X.base CX k f fd ps sp) (room : Room (k + 1) X.A) (gl : Gl X x) (is : X.mg x = some (.ref C)) (hb : Binds X.K fd ps ds) (hd : Vals dvs ds) (hx : Passes CX X E)
    (args : PA X (e :: es) t) (nd : (x == ("__debug__" : Str)) = false) (ns : starEach (e :: es) X.env = (false, eval e X.env) :: starEach es X.env) (np : (backTo pos (starEach es X.env)).any (·.1) = false) : PE X (.Call (.Name x p) (e :: es) [] pos) (tMake C sp dvs E t) :=
  pe_named (R := fun σ vs H Q => tMake C sp dvs E (fun _ H Q => Q vs H) σ H Q) gl is M.kp args (fun _ _ _ _ _ _ _ I rv q => run_make M F room hb hd hx I rv q) nd ns np
end
/-- a def keeps what its body's reading wishes -/
theorem fnD_ok {P : Program} {w : World} {K : PySem.W.Frag} {mg : Str → Option Value} {base : Heap} {CX : CXT} {x qual : Str} {pa : Arguments} {body : List Stmt} {sc : Scope} {dvs : List V} {kws : List (Str × V)} {f : Addr} {fd : FuncData} {N ps : List Str} {n : Nat} {sp : Sp}
    (F : FunD K x qual pa body sc dvs kws f fd) (S : FnScope N ps sc) (len : ∀ {vs H Q E}, sp vs H Q E → vs.length = ps.length)
    (reads : ∀ (cdv : Value) (W : Around) (o : List Env) (s : Shared) (H : Hp) (vs : List V) (Q : VK) (E : XK), Room n (W.deeper (envOfC qual sc s.heap.objs.size f cdv)) → sp vs H Q E →
      ∃ t, PSs (cxOf CX P w K mg base N qual sc f cdv W o s H E) body t ∧ t { nx := fun _ H2 => Q .non H2, rt := Q } (start N vs) H) : FnOk P w K mg base CX (n + 1) f fd ps sp := by
  obtain ⟨oc, od, dV, kV, doc, pm, an, cdv, ct, osl, rfl, at1, code, _⟩ := F.ex
  refine { len := len, keeps := fun {W} room o s H a us vs Q E e0 to rv q => ?_ }
  have old := fun b ob z => (e0.bs b ob z).1
  have inK := e0.mod.kin.keeps old
  refine codeAny_call_function room.depth (inK _ _ at1) rfl S.co S.gen rfl (PySem.W.codeRec_of inK code) (to _ _ _ _ (wpAny_newFunctionEnv_cells S.kind (fun y hy => ?_) fun env is s1 ent => ?_))
  · exact (S.par y.1 (List.of_mem_zip (a := y.1) (b := y.2) hy).1).imp id fun c => ⟨c, PySem.W.cellsFrom_some _ _ _ (.inl c)⟩
  · subst is
    obtain ⟨t, rd, wish⟩ := reads cdv W o s H vs Q E (room.deeper _) q
    refine ⟨(e0.mod.nolimit.keeps old).keeps ent.toInCall.keep, codeAny_func (wpAny_mono (rd.run [] s1 (start N vs) H _ (inv_start S room.hd e0 (len q) rv ent) wish) (fun fl z c => ?_) fun _ _ c => c)⟩
    match fl, c with
    | .ret u, ⟨v, _, H2, J, ru, q2⟩ => exact ⟨v, H2, J.os, J.bare, J.base, J.hok, ru, q2⟩
    | .next, ⟨_, H2, J, q2⟩ => exact ⟨.non, H2, J.os, J.bare, J.base, J.hok, rfl, q2⟩
    | .brk, ⟨_, _, _, q2⟩ => exact q2.elim
    | .cont, ⟨_, _, _, q2⟩ => exact q2.elim
/-- a def that keeps a promise over trees: its name, its level, how many parameters it has, the defaults that fill up -/
structure Fv (P : Program) (w : World) (K : PySem.W.Frag) (mg : Str → Option Value) (base : Heap) (x : Str) (k n : Nat) (vsp : VSp) : Prop where
  ex : ∃ f fd ps, mg x = some (.ref f) ∧ PySem.W.keepIn K (.ref f) = true ∧ Binds K fd ps [] ∧ FnOk P w K mg base (VL.CX P w) k f fd ps (Lift K n vsp)
theorem Fv.mono {P w K mg base x j k n vsp} (F : Fv P w K mg base x j n vsp) (h : j ≤ k) : Fv P w K mg base x k n vsp := let ⟨f, fd, ps, a, b, c, d⟩ := F.ex; ⟨f, fd, ps, a, b, c, d.mono h⟩
section
variable {X : Cv}
def vCall (vsp : VSp) (rs : List (Option Nat)) (t : VTA) : VTE := fun N ε Q => t N ε fun ds ε1 => vsp ds (fun r ds' => ds'.length = ds.length ∧ Q r (restore rs ds' ε1)) (fun cls row ds' => ds'.length = ds.length ∧ N cls row (restore rs ds' ε1))
theorem call_run {P : VSp} {n : Nat} {b : Bx X} {σ : L2.St} {H : Hp} {ε : Ep} {T : List D} {Tv : List V} {ds : List D} {vs : List V} {rs : List (Option Nat)} {W : WX} {N : WV} {Q : D → Ep → Prop} {Q' : VK}
    (hl : T.length = Tv.length) (hd : ds.length = vs.length) (hn : ds.length = n) (I : SI X.K b.1 σ H ε (T ++ ds) (Tv ++ vs)) (hh : Held σ rs vs)
    (q : P ds (fun r ds' => ds'.length = ds.length ∧ Q r (restore rs ds' ε)) (fun cls row ds' => ds'.length = ds.length ∧ N cls row (restore rs ds' ε)))
    (mono : ∀ (A A' : D → List D → Prop) (B B' : Value → D → List D → Prop), (∀ r l, A r l → A' r l) → (∀ c r l, B c r l → B' c r l) → P ds A B → P ds A' B')
    (k : ∀ d v ε' H', SI X.K b.1 σ H' ε' (T ++ [d]) (Tv ++ [v]) → Q d ε' → Q' v H') (x : XL X.K b.1 T Tv W N) : Lift X.K n P vs H Q' (fun cls d H' => W cls d σ H') := by
  obtain ⟨G, F, J, out, fr⟩ := I.enter hl
  refine ⟨G, F, ds, J, hn, mono _ _ _ _ (fun r ds' z v H' I' => ?_) (fun cls row ds' z dd v H' I' e n => ?_) q⟩
  · have I2 := out H' _ _ I'
    exact k r v _ H' (SI.restore hl hh (z.1.trans hd) I2) z.2
  · have I2 := out H' _ _ I'
    exact x cls dd σ H' _ row v (SI.restore hl hh (z.1.trans hd) I2) e (fr dd n) z.2
/-- a promise that asks no more of more -/
def Mono (vsp : VSp) : Prop := ∀ (ds : List D) (A A' : D → List D → Prop) (B B' : Value → D → List D → Prop), (∀ r l, A r l → A' r l) → (∀ c r l, B c r l → B' c r l) → vsp ds A B → vsp ds A' B'
theorem ve_call {x : Str} {p pos : Pos} {e : Expr} {es : List Expr} {rs : List (Option Nat)} {t : VTA} {k n : Nat} {vsp : VSp} (F : Fv X.prog X.w X.K X.mg X.base x k n vsp) (m : Mono vsp) (hr : Room k X.A) (hg : Gl X.toCx x) (hn : (e :: es).length = n) (ha : VA X (e :: es) rs t)
    (hrs : rs.length = (e :: es).length := by rfl) (hdb : (x == ("__debug__" : Str)) = false := by decide) (he : starEach (e :: es) X.env = (false, eval e X.env) :: starEach es X.env := by rfl) (hpl : (backTo pos (starEach es X.env)).any (·.1) = false := by rfl) :
    VE X (.Call (.Name x p) (e :: es) [] pos) (vCall vsp rs t) := by
  obtain ⟨f, fd, ps, hm, hk, hb, F⟩ := F.ex
  obtain ⟨t', a1, a2⟩ := ha.ex
  refine ⟨fun W => tCallS (Lift X.K n vsp) (WE W) (t' W), fun W tk => pe_callS F hr hg hm hk hb (fun σ => passAt tk σ) (a1 W tk) hdb he hpl, fun b σ H ε T Tv W N Q Q' I q kk x => ?_⟩
  refine a2 b σ H ε T Tv W N _ _ I q (fun ds vs ε1 H1 J l hd z => ?_) x
  exact call_run I.lenT l (by rw [l, ← hd.len, hrs, hn]) J hd z (m ds) kk x
end
/-- the slots at the entry -/
def startE (N : Nat) (ds : List D) : Ep := ds.map some ++ List.replicate (N - ds.length) none
/-- the arguments behind: those whose slots are kept, as they are; the others, where nothing of them was ours -/
def finalL : List Bool → List D → Ep → List D
  | true :: κ, _ :: ds, od :: ε => (match od with | some d => d | none => .hole) :: finalL κ ds ε
  | false :: κ, d :: ds, _ :: ε => (if isFz d = true then d else .hole) :: finalL κ ds ε
  | [], d :: ds, _ :: ε => (if isFz d = true then d else .hole) :: finalL [] ds ε
  | _, _, _ => []
def keptV : List Bool → List V → List (Option V)
  | true :: κ, v :: vs => some v :: keptV κ vs
  | false :: κ, _ :: vs => none :: keptV κ vs
  | _, _ => []
theorem keptV_get : ∀ {κ : List Bool} {vs : List V} {i : Nat} {u : V}, (keptV κ vs)[i]? = some (some u) → κ[i]? = some true ∧ vs[i]? = some u
  | true :: κ, v :: vs, 0, u, h => by simp [keptV] at h; simp [h]
  | true :: κ, v :: vs, i + 1, u, h => by simpa using keptV_get (κ := κ) (vs := vs) (i := i) (u := u) (by simpa [keptV] using h)
  | false :: κ, v :: vs, 0, u, h => by simp [keptV] at h
  | false :: κ, v :: vs, i + 1, u, h => by simpa using keptV_get (κ := κ) (vs := vs) (i := i) (u := u) (by simpa [keptV] using h)
  | [], _, i, u, h => by simp [keptV] at h
  | true :: _, [], i, u, h => by simp [keptV] at h
  | false :: _, [], i, u, h => by simp [keptV] at h
section
variable {K : PySem.W.Frag} {G G' H H' : Hp}
theorem RpS.start : ∀ {ds : List D} {vs : List V} {F : List Addr} (m : Nat), RpL K G H ds vs F → RpS K G H (ds.map some ++ List.replicate m none) (vs.map some ++ List.replicate m none) F
  | [], vs, F, m, h => by
    obtain ⟨rfl, rfl⟩ := h
    simp only [List.map_nil, List.nil_append]
    induction m with
    | zero => exact ⟨rfl, rfl⟩
    | succ m ih => exact ⟨none, List.replicate m none, [], [], rfl, rfl, rfl, ih⟩
  | d :: ds, vs, F, m, h => by
    obtain ⟨v, vs', F1, F2, rfl, rfl, r, rs⟩ := h
    exact ⟨some v, vs'.map some ++ List.replicate m none, F1, F2, rfl, rfl, ⟨v, rfl, r⟩, RpS.start m rs⟩
/-- what is left of the arguments: a part of what the slots hold -/
theorem final_rp : ∀ {κ : List Bool} {ds : List D} {vs : List V} {F0 : List Addr} {ε : Ep} {σ : L2.St} {F : List Addr}, RpL K G H ds vs F0 → Sub G G' → RpS K G' H' ε σ F → vs.length ≤ ε.length →
    (∀ (j : Nat) v, (keptV κ vs)[j]? = some (some v) → σ[j]? = some (some v)) → ∃ F', RpL K G' H' (finalL κ ds ε) vs F' ∧ F'.Sublist F
  | κ, [], vs, F0, ε, σ, F, h, _, _, _, _ => by
    obtain ⟨rfl, rfl⟩ := h
    refine ⟨[], ?_, List.nil_sublist _⟩
    have : finalL κ [] ε = [] := by
      cases κ with
      | nil => rfl
      | cons c κ => cases c <;> rfl
    rw [this]
    exact ⟨rfl, rfl⟩
  | κ, d :: ds, vs, F0, [], σ, F, h, _, _, hl, _ => by
    obtain ⟨v, vs', F1, F2, rfl, rfl, r, rs⟩ := h
    simp at hl
  | κ, d :: ds, vs, F0, od :: ε, σ, F, h, hs, hS, hl, hk => by
    obtain ⟨v, vs', F1, F2, rfl, rfl, r, rs⟩ := h
    obtain ⟨ov, σ', A, B, rfl, rfl, ro, rS⟩ := hS
    have other : ∀ κ', (∀ (j : Nat) v, (keptV κ' vs')[j]? = some (some v) → σ'[j]? = some (some v)) → ∃ F', RpL K G' H' ((if isFz d = true then d else .hole) :: finalL κ' ds ε) (v :: vs') F' ∧ F'.Sublist (A ++ B) := fun κ' hk' => by
      obtain ⟨F', q, sl⟩ := final_rp (κ := κ') rs hs rS (by simpa using hl) hk'
      have rd : Rp K G' H' (if isFz d = true then d else .hole) v [] := by
        split
        · rename_i z
          have := r.fz z
          subst this
          exact r.mono hs fun _ z => nomatch z
        · exact rfl
      exact ⟨F', ⟨v, vs', [], F', rfl, rfl, rd, q⟩, sl.trans (List.sublist_append_right _ _)⟩
    cases κ with
    | nil => exact other [] fun j u e => by simp [keptV] at e
    | cons c κ =>
      cases c with
      | false => exact other κ fun j u e => by simpa using hk (j + 1) u (by simpa [keptV] using e)
      | true =>
        have h0 := hk 0 v (by simp [keptV])
        simp at h0
        subst h0
        obtain ⟨F', q, sl⟩ := final_rp (κ := κ) rs hs rS (by simpa using hl) fun j u e => by simpa using hk (j + 1) u (by simpa [keptV] using e)
        cases od with
        | none => exact ⟨F', ⟨v, vs', [], F', rfl, rfl, rfl, q⟩, sl.trans (List.sublist_append_right _ _)⟩
        | some d' =>
          obtain ⟨v', e', rd⟩ := ro
          cases e'
          exact ⟨A ++ F', ⟨v, vs', A, F', rfl, rfl, rd, q⟩, (List.Sublist.refl A).append sl⟩
end
/-- a body's end: the answer is held, the slots go -/
theorem SI.leave {K : PySem.W.Frag} {H G : Hp} {F : List Addr} {ds : List D} {vs : List V} {κ : List Bool} {σ : L2.St} {H' : Hp} {ε : Ep} {r : D} {v : V} (J : SIx K (callB H G F) G [] F [] H [] ds vs)
    (I : SI K { callB H G F with kv := keptV κ vs } σ H' ε [r] [v]) (hl : ds.length ≤ ε.length) : SI K (callB H G F) [] H' [] (finalL κ ds ε ++ [r]) (vs ++ [v]) := by
  obtain ⟨G', Fs, Ft, I⟩ := I
  obtain ⟨F', q, sl⟩ := final_rp (κ := κ) J.temps I.s0 I.slots (by rw [← J.lenT]; exact hl) I.kept
  have sb : (F' ++ Ft).Sublist (Fs ++ Ft) := sl.append (List.Sublist.refl _)
  exact ⟨G', [], F' ++ Ft, I.s0, I.sub, ⟨rfl, rfl⟩, q.append I.temps, by simpa using I.nd.sublist sb, fun a z => I.fr a (sb.subset (by simpa using z)), fun a z => I.own a (sb.subset (by simpa using z)), I.gn, I.keep, fun j u e => by simp [callB] at e⟩
section
variable {P : Program} {w : World} {K : PySem.W.Frag} {mg : Str → Option Value} {base : Heap} {x qual : Str} {params : Arguments} {body : List Stmt} {scope : Scope} {dvs : List V} {kws : List (Str × V)} {f : Addr} {fd : FuncData}
/-- the context of a def's body -/
abbrev bodyX (P : Program) (w : World) (K : PySem.W.Frag) (mg : Str → Option Value) (base : Heap) (N : List Str) (κ : List Bool) (qual : Str) (scope : Scope) (f : Addr) (cdv : Value) (A : Around) (outer : List Env) (s : Shared) (H : Hp) (E : XK) : Cv :=
  { cxOf (VL.CX P w) P w K mg base N qual scope f cdv A outer s H E with κ := κ }
/-- THE RULE: a def's body over trees -/
theorem fn_ok {N ps : List Str} {κ : List Bool} {k n : Nat} {vsp : VSp} {t : VTS} (F : FunD K x qual params body scope dvs kws f fd) (S : FnScope N ps scope) (hn : ps.length = n) (hN : n ≤ N.length)
    (hbody : ∀ (cdv : Value) (A : Around) (outer : List Env) (s : Shared) (H : Hp) (E : XK), Room k (A.deeper (envOfC qual scope s.heap.objs.size f cdv)) → VSs (bodyX P w K mg base N κ qual scope f cdv A outer s H E) body t)
    (hm : Mono vsp)
    (hsp : ∀ ds Q Ex, ds.length = n → vsp ds Q Ex → t { nx := fun ε => n ≤ ε.length ∧ Q .non (finalL κ ds ε), rt := fun r ε => n ≤ ε.length ∧ Q r (finalL κ ds ε), rx := fun cls row ε => n ≤ ε.length ∧ Ex cls row (finalL κ ds ε) } (startE N.length ds)) :
    FnOk P w K mg base (VL.CX P w) (k + 1) f fd ps (Lift K n vsp) := by
  refine fnD_ok F S (fun h => by rw [h.len, hn]) fun cdv A outer s H vs Q E hr h => ?_
  obtain ⟨G, F0, ds, J, l, q⟩ := h
  obtain ⟨t', h1, h2⟩ := (hbody cdv A outer s H E hr).ex
  refine ⟨t' (fun cls d _ H => E cls d H), h1 _ (takes_of rfl rfl rfl rfl), ?_⟩
  have hv : vs.length = n := by rw [← J.lenT, l]
  have I0 : SI K { callB H G F0 with kv := keptV κ vs } (L2.start N vs) H (startE N.length ds) [] [] := by
    have hs : RpS K G H (startE N.length ds) (L2.start N vs) F0 := by
      unfold startE L2.start
      rw [J.lenT]
      exact RpS.start _ J.temps
    refine ⟨G, F0, [], Sub.refl, J.sub, hs, ⟨rfl, rfl⟩, by simpa using J.nd, fun a z => J.fr a (by simpa using z), fun a z => J.own a (by simpa using z), J.gn, J.keep, fun j v e => ?_⟩
    obtain ⟨_, e2⟩ := keptV_get e
    unfold L2.start
    have hj := (List.getElem?_eq_some_iff.mp e2).1
    rw [List.getElem?_append_left (by simpa using hj), List.getElem?_map, e2]
    rfl
  refine h2 ⟨_, fun i u e => (keptV_get e).1⟩ _ H _ [] [] _ _ _ I0 (hsp ds _ _ l q) ⟨fun σ H1 ε J1 z => ?_, fun σ H1 ε d v J1 z => ?_, fun _ _ _ _ z => z.elim, fun _ _ _ _ z => z.elim⟩ fun cls dd σ H1 ε row v J1 e n z => ?_
  · exact z.2 _ H1 (SI.leave J (J1.push (d := .non) (v := .non) fun _ => ⟨rfl, rfl⟩) (by rw [l]; exact z.1))
  · exact z.2 v H1 (SI.leave J J1 (by rw [l]; exact z.1))
  · exact z.2 dd v H1 (SI.leave J J1 (by rw [l]; exact z.1)) e n
end
end VL
namespace VL
open PySem PySem.Spec PyProof.Rows L2 VL
mutual
def pd : D → PyData
  | .hole => .none
  | .val _ => .none
  | .non => .none
  | .bl b => .bool b
  | .int i => .int i
  | .str s => .str (toS s)
  | .ty _ => .none
  | .tup xs => .tuple (pdL xs)
  | .lst _ xs => .list (pdL xs)
  | .dK _ _ _ => .none
  | .dT _ _ _ => .none
  | .ins _ _ _ _ => .none
  | .pin _ _ => .none
  | .exn _ _ _ _ => .none
def pdL : List D → List PyData
  | [] => []
  | d :: ds => pd d :: pdL ds
end
mutual
/-- plain data, whose texts have good codes, nested to depth n at most -/
def okD : Nat → D → Bool
  | _, .non => true
  | _, .bl _ => true
  | _, .int _ => true
  | _, .str s => s.all fun c => decide (c < 1114112)
  | n + 1, .tup xs => okDL n xs
  | n + 1, .lst _ xs => okDL n xs
  | _, _ => false
def okDL : Nat → List D → Bool
  | _, [] => true
  | n, d :: ds => okD n d && okDL n ds
end
theorem okDL_all : ∀ (n : Nat) (ds : List D), okDL n ds = ds.all (okD n)
  | _, [] => by rw [okDL]; rfl
  | n, d :: ds => by rw [okDL, okDL_all n ds, List.all_cons]
mutual
theorem okD_shape : ∀ {n : Nat} {d : D}, okD n d = true → (pd d).canLay0 = true ∧ (pd d).depth ≤ n
  | n, .non, h => ⟨rfl, Nat.zero_le _⟩
  | n, .bl b, h => ⟨rfl, Nat.zero_le _⟩
  | n, .int i, h => ⟨rfl, Nat.zero_le _⟩
  | n, .str s, h => by
    refine ⟨?_, Nat.zero_le _⟩
    have h2 : (s.all fun c => decide (c < 1114112)) = true := by simpa [okD] using h
    show ((toS s).cps.all fun c => decide (c < 0x110000)) = true
    unfold toS
    simpa using h2
  | n + 1, .tup xs, h => by
    obtain ⟨h1, h2⟩ := okDL_shape (n := n) (ds := xs) (by simpa [okD] using h)
    exact ⟨h1, Nat.succ_le_succ h2⟩
  | n + 1, .lst m xs, h => by
    obtain ⟨h1, h2⟩ := okDL_shape (n := n) (ds := xs) (by simpa [okD] using h)
    exact ⟨h1, Nat.succ_le_succ h2⟩
  | 0, .tup xs, h => by simp [okD] at h
  | 0, .lst m xs, h => by simp [okD] at h
  | n, .hole, h => by simp [okD] at h
  | n, .val _, h => by simp [okD] at h
  | n, .ty _, h => by simp [okD] at h
  | n, .dK _ _ _, h => by simp [okD] at h
  | n, .dT _ _ _, h => by simp [okD] at h
  | n, .ins _ _ _ _, h => by simp [okD] at h
theorem okDL_shape : ∀ {n : Nat} {ds : List D}, okDL n ds = true → PyData.canLayAll0 (pdL ds) = true ∧ PyData.depthAll (pdL ds) ≤ n
  | n, [], _ => ⟨rfl, Nat.zero_le _⟩
  | n, d :: ds, h => by
    have h2 : (okD n d && okDL n ds) = true := by simpa [okDL] using h
    obtain ⟨h3, h4⟩ := Bool.and_eq_true_iff.mp h2
    obtain ⟨a1, a2⟩ := okD_shape h3
    obtain ⟨b1, b2⟩ := okDL_shape h4
    refine ⟨?_, ?_⟩
    · show ((pd d).canLay0 && PyData.canLayAll0 (pdL ds)) = true
      rw [a1, b1]; rfl
    · show max (pd d).depth (PyData.depthAll (pdL ds)) ≤ n
      omega
end
section
variable {K : PySem.W.Frag} {G H : Hp}
mutual
theorem Rp.dp (hs : Sub G H) : ∀ {n : Nat} {d : D} {v : V} {F : List Addr}, okD n d = true → Rp K G H d v F → Dp K H v (pd d)
  | _, .non, _, _, _, h => by rw [h.1]; exact .non
  | _, .bl b, _, _, _, h => by rw [h.1]; exact .bl b
  | _, .int i, _, _, _, h => by rw [h.1]; exact .int i
  | _, .str s, _, _, _, h => by rw [h.1]; exact .str _
  | n + 1, .tup xs, v, F, k, h => by
    obtain ⟨a, vs, rfl, s, r⟩ := h
    exact .tup (SqT.of (hs _ _ s)) (RpL.dp hs (n := n) (by simpa [okD] using k) r)
  | n + 1, .lst false xs, v, F, k, h => by
    obtain ⟨a, vs, rfl, s, _, r⟩ := h
    exact .lst (hs.sqL s) (RpL.dp hs (n := n) (by simpa [okD] using k) r)
  | n + 1, .lst true xs, v, F, k, h => by
    obtain ⟨a, vs, F', rfl, s, _, r⟩ := h
    exact .lst (SqL.of s) (RpL.dp hs (n := n) (by simpa [okD] using k) r)
  | 0, .tup xs, _, _, k, _ => by simp [okD] at k
  | 0, .lst m xs, _, _, k, _ => by simp [okD] at k
  | n, .hole, _, _, h, _ => by simp [okD] at h
  | n, .val _, _, _, h, _ => by simp [okD] at h
  | n, .ty _, _, _, h, _ => by simp [okD] at h
  | n, .dK _ _ _, _, _, h, _ => by simp [okD] at h
  | n, .dT _ _ _, _, _, h, _ => by simp [okD] at h
  | n, .ins _ _ _ _, _, _, h, _ => by simp [okD] at h
theorem RpL.dp (hs : Sub G H) : ∀ {n : Nat} {ds : List D} {vs : List V} {F : List Addr}, okDL n ds = true → RpL K G H ds vs F → DpAll K H vs (pdL ds)
  | _, [], _, _, _, h => by rw [h.1]; exact .nil
  | n, d :: ds, vs, F, k, h => by
    obtain ⟨v, vs', F1, F2, rfl, rfl, r, rs⟩ := h
    have h2 : (okD n d && okDL n ds) = true := by simpa [okDL] using k
    obtain ⟨h3, h4⟩ := Bool.and_eq_true_iff.mp h2
    exact .cons (Rp.dp hs h3 r) (RpL.dp hs h4 rs)
end
end
mutual
def deq : D → D → Bool
  | .non, .non => true
  | .bl a, .bl b => a == b
  | .bl a, .int j => (if a then 1 else 0) == j
  | .int i, .bl b => i == (if b then 1 else 0)
  | .int i, .int j => i == j
  | .str x, .str y => x == y
  | .lst _ xs, .lst _ ys => deqL xs ys
  | .tup xs, .tup ys => deqL xs ys
  | _, _ => false
def deqL : List D → List D → Bool
  | [], [] => true
  | x :: xs, y :: ys => deq x y && deqL xs ys
  | _, _ => false
end
theorem toS_beq (a b : Cs) : (toS a == toS b) = (a == b) := by
  rw [Bool.eq_iff_iff, beq_iff_eq, beq_iff_eq]
  exact ⟨toS_inj, fun e => by rw [e]⟩
mutual
theorem deq_pd : ∀ {n m : Nat} {x y : D}, okD n x = true → okD m y = true → PyData.eqv (pd x) (pd y) = deq x y
  | n, m, .non, y, hx, hy => by cases y <;> first | rfl | simp [okD] at hy
  | n, m, .bl a, y, hx, hy => by cases y <;> first | rfl | simp [okD] at hy
  | n, m, .int i, y, hx, hy => by cases y <;> first | rfl | simp [okD] at hy
  | n, m, .str s, y, hx, hy => by
    cases y <;> first | rfl | exact toS_beq _ _ | simp [okD] at hy
  | n + 1, m, .tup xs, y, hx, hy => by
    cases m with
    | zero => cases y <;> first | rfl | simp [okD] at hy
    | succ m =>
      cases y with
      | tup ys => exact deqL_pd (n := n) (m := m) (by simpa [okD] using hx) (by simpa [okD] using hy)
      | _ => first | rfl | simp [okD] at hy
  | n + 1, m, .lst q xs, y, hx, hy => by
    cases m with
    | zero => cases y <;> first | rfl | simp [okD] at hy
    | succ m =>
      cases y with
      | lst p ys => exact deqL_pd (n := n) (m := m) (by simpa [okD] using hx) (by simpa [okD] using hy)
      | _ => first | rfl | simp [okD] at hy
  | 0, m, .tup xs, y, hx, hy => by simp [okD] at hx
  | 0, m, .lst q xs, y, hx, hy => by simp [okD] at hx
  | n, m, .hole, y, hx, hy => by simp [okD] at hx
  | n, m, .val _, y, hx, hy => by simp [okD] at hx
  | n, m, .ty _, y, hx, hy => by simp [okD] at hx
  | n, m, .dK _ _ _, y, hx, hy => by simp [okD] at hx
  | n, m, .dT _ _ _, y, hx, hy => by simp [okD] at hx
  | n, m, .ins _ _ _ _, y, hx, hy => by simp [okD] at hx
theorem deqL_pd : ∀ {n m : Nat} {xs ys : List D}, okDL n xs = true → okDL m ys = true → PyData.eqvAll (pdL xs) (pdL ys) = deqL xs ys
  | n, m, [], [], _, _ => rfl
  | n, m, [], y :: ys, _, _ => rfl
  | n, m, x :: xs, [], _, _ => rfl
  | n, m, x :: xs, y :: ys, hx, hy => by
    obtain ⟨a1, a2⟩ := Bool.and_eq_true_iff.mp (show (okD n x && okDL n xs) = true by simpa [okDL] using hx)
    obtain ⟨b1, b2⟩ := Bool.and_eq_true_iff.mp (show (okD m y && okDL m ys) = true by simpa [okDL] using hy)
    show (PyData.eqv (pd x) (pd y) && PyData.eqvAll (pdL xs) (pdL ys)) = (deq x y && deqL xs ys)
    rw [deq_pd a1 b1, deqL_pd a2 b2]
end
/-- the pairs of plain values that == tells apart as values -/
def scalD : D → D → Bool
  | .non, .non => true | .non, .int _ => true | .int _, .non => true | .non, .bl _ => true | .bl _, .non => true | .non, .str _ => true | .str _, .non => true
  | .int _, .int _ => true | .bl _, .bl _ => true | .str _, .str _ => true
  | .int _, .str _ => true | .str _, .int _ => true | .bl _, .str _ => true | .str _, .bl _ => true
  | _, _ => false
theorem Rp.scal {K : PySem.W.Frag} {G H : Hp} {x y : D} {v w : V} {F1 F2 : List Addr} (h : scalD x y = true) (rx : Rp K G H x v F1) (ry : Rp K G H y w F2) : L2.scal v w = true ∧ decide (v = w) = deq x y := by
  cases x <;> cases y <;> first
    | (exfalso; revert h; simp [scalD]; done)
    | (obtain ⟨rfl, _⟩ := rx
       obtain ⟨rfl, _⟩ := ry
       refine ⟨rfl, ?_⟩
       first
         | rfl
         | exact decide_eq_false (fun z => nomatch z)
         | exact dec_int
         | exact dec_bl
         | exact dec_str.trans (toS_beq _ _))
/-- == and != of trees -/
def sEq : List D → (D → Prop) → Prop := fun ds Q => ∃ x y, ds = [x, y] ∧ (scalD x y = true ∨ (okD 64 x = true ∧ okD 64 y = true)) ∧ Q (.bl (deq x y))
def sNe : List D → (D → Prop) → Prop := fun ds Q => ∃ x y, ds = [x, y] ∧ (scalD x y = true ∨ (okD 64 x = true ∧ okD 64 y = true)) ∧ Q (.bl (!deq x y))
theorem RpL.two {K : PySem.W.Frag} {G H : Hp} {x y : D} {vs : List V} {F : List Addr} (h : RpL K G H [x, y] vs F) : ∃ v w F1 F2, vs = [v, w] ∧ Rp K G H x v F1 ∧ Rp K G H y w F2 := by
  obtain ⟨v, vs', F1, F2, rfl, rfl, r, w, vs2, F3, F4, rfl, rfl, r2, rfl, rfl⟩ := h
  exact ⟨v, w, F1, F3, rfl, r, r2⟩
theorem RpL.one' {K : PySem.W.Frag} {G H : Hp} {x : D} {vs : List V} {F : List Addr} (h : RpL K G H [x] vs F) : ∃ v, vs = [v] ∧ Rp K G H x v F := by
  obtain ⟨v, vs', F1, F2, rfl, rfl, r, rfl, rfl⟩ := h
  exact ⟨v, rfl, by rw [List.append_nil]; exact r⟩
theorem shp {d : D} (h : okD 64 d = true) : SeqAt.shaped (pd d) = true := by
  obtain ⟨a, b⟩ := okD_shape h
  unfold SeqAt.shaped
  rw [a, decide_eq_true b]
  rfl
theorem opn_eq {K : PySem.W.Frag} : OpN K (r2N fun x y H Q => rEq x y H Q ∨ rEqD K x y H Q) sEq := OpN.pure fun G H ds vs F Q Q' hs r h k => by
  obtain ⟨x, y, rfl, h1, q⟩ := h
  obtain ⟨v, w, F1, F2, rfl, rx, ry⟩ := r.two
  refine ⟨v, w, rfl, ?_⟩
  rcases h1 with h1 | ⟨h1, h2⟩
  · obtain ⟨e1, e2⟩ := Rp.scal h1 rx ry
    exact .inl ⟨e1, by rw [e2]; exact k (.bl (deq x y)) _ (fun _ _ _ => ⟨rfl, rfl⟩) q⟩
  · refine .inr ⟨pd x, pd y, rx.dp hs h1, ry.dp hs h2, shp h1, shp h2, ?_⟩
    rw [deq_pd h1 h2]
    exact k (.bl (deq x y)) _ (fun _ _ _ => ⟨rfl, rfl⟩) q
theorem opn_ne {K : PySem.W.Frag} : OpN K (r2N fun x y H Q => rNe x y H Q ∨ rNeD K x y H Q) sNe := OpN.pure fun G H ds vs F Q Q' hs r h k => by
  obtain ⟨x, y, rfl, h1, q⟩ := h
  obtain ⟨v, w, F1, F2, rfl, rx, ry⟩ := r.two
  refine ⟨v, w, rfl, ?_⟩
  rcases h1 with h1 | ⟨h1, h2⟩
  · obtain ⟨e1, e2⟩ := Rp.scal h1 rx ry
    exact .inl ⟨e1, by rw [e2]; exact k (.bl (!deq x y)) _ (fun _ _ _ => ⟨rfl, rfl⟩) q⟩
  · refine .inr ⟨pd x, pd y, rx.dp hs h1, ry.dp hs h2, shp h1, shp h2, ?_⟩
    rw [deq_pd h1 h2]
    exact k (.bl (!deq x y)) _ (fun _ _ _ => ⟨rfl, rfl⟩) q
theorem opr_eq {X : Cx} {k : Nat} (hr : Room k X.A) : OpR X (compareOp .Eq) (fun x y H Q => rEq x y H Q ∨ rEqD X.K x y H Q) := OpR.or op_eq (op_eqD hr.units)
theorem opr_ne {X : Cx} {k : Nat} (hr : Room k X.A) : OpR X (compareOp .NotEq) (fun x y H Q => rNe x y H Q ∨ rNeD X.K x y H Q) := OpR.or op_ne (op_neD hr.units)
def sI2 (f : Int → Int → D) : List D → (D → Prop) → Prop := fun ds Q => ∃ i j, ds = [.int i, .int j] ∧ Q (f i j)
theorem opn_i2 {K : PySem.W.Frag} {f : Int → Int → D} {g : Int → Int → V} (h : ∀ i j G H, Rp K G H (f i j) (g i j) []) : OpN K (r2N (rI0 g)) (sI2 f) := OpN.pure fun G H ds vs F Q Q' hs r q k => by
  obtain ⟨i, j, rfl, q⟩ := q
  obtain ⟨v, w, F1, F2, rfl, ⟨rfl, _⟩, ⟨rfl, _⟩⟩ := r.two
  exact ⟨_, _, rfl, i, j, rfl, rfl, k _ _ (fun G' H' _ => h i j G' H') q⟩
def sI2c (c : Int → Int → Prop) (f : Int → Int → D) : List D → (D → Prop) → Prop := fun ds Q => ∃ i j, ds = [.int i, .int j] ∧ c i j ∧ Q (f i j)
theorem opn_i2c {K : PySem.W.Frag} {c c' : Int → Int → Prop} {f : Int → Int → D} {g : Int → Int → V} (hc : ∀ i j, c i j → c' i j) (h : ∀ i j G H, c i j → Rp K G H (f i j) (g i j) []) : OpN K (r2N (rI c' g)) (sI2c c f) := OpN.pure fun G H ds vs F Q Q' hs r q k => by
  obtain ⟨i, j, rfl, hz, q⟩ := q
  obtain ⟨v, w, F1, F2, rfl, ⟨rfl, _⟩, ⟨rfl, _⟩⟩ := r.two
  exact ⟨_, _, rfl, i, j, rfl, rfl, hc _ _ hz, k _ _ (fun G' H' _ => h i j G' H' hz) q⟩
theorem opn_lt {K : PySem.W.Frag} : OpN K (r2N (rI0 fun i j => .bl (decide (i < j)))) (sI2 fun i j => .bl (decide (i < j))) := opn_i2 fun _ _ _ _ => ⟨rfl, rfl⟩
theorem opn_gt {K : PySem.W.Frag} : OpN K (r2N (rI0 fun i j => .bl (decide (j < i)))) (sI2 fun i j => .bl (decide (j < i))) := opn_i2 fun _ _ _ _ => ⟨rfl, rfl⟩
theorem opn_sub {K : PySem.W.Frag} : OpN K (r2N (rI0 fun i j => .int (i - j))) (sI2 fun i j => .int (i - j)) := opn_i2 fun _ _ _ _ => ⟨rfl, rfl⟩
/-- % and // : by a number above 0 as Lean's own -/
def pmod (i j : Int) : Int := if 0 < j then i % j else i.fmod j
def pdiv (i j : Int) : Int := if 0 < j then i / j else i.fdiv j
theorem pmod_eq (i j : Int) : i.fmod j = pmod i j := by
  unfold pmod
  split
  · rw [Int.fmod_eq_emod_of_nonneg i (by omega)]
  · rfl
theorem pdiv_eq (i j : Int) : i.fdiv j = pdiv i j := by
  unfold pdiv
  split
  · rw [Int.fdiv_eq_ediv_of_nonneg i (by omega)]
  · rfl
theorem opn_mod {K : PySem.W.Frag} : OpN K (r2N (rI (fun _ j => j ≠ 0) fun i j => .int (i.fmod j))) (sI2c (fun _ j => j ≠ 0) fun i j => .int (pmod i j)) := opn_i2c (fun _ _ h => h) fun i j _ _ _ => ⟨by rw [pmod_eq], rfl⟩
/-- a divisor that is not 0, of less than 9,000 bits -/
def CDv (_ j : Int) : Prop := j ≠ 0 ∧ j.natAbs.log2 < 9000
theorem opr_div {X : Cx} : OpR X (binaryOp .FloorDiv) (rI CDv fun i j => .int (i.fdiv j)) := opI fun i j _ _ _ _ _ hc q => floordiv_int hc.1 q (.inl (PyProof.noPylong_of_log2 hc.2))
theorem opn_div {K : PySem.W.Frag} : OpN K (r2N (rI CDv fun i j => .int (i.fdiv j))) (sI2c CDv fun i j => .int (pdiv i j)) := opn_i2c (fun _ _ h => h) fun i j _ _ _ => ⟨by rw [pdiv_eq], rfl⟩
/-- a product: one factor below 2 ^ 64, or both below 2 ^ 60,000,000 -/
def CMl (i j : Int) : Prop := (i.natAbs < 2 ^ 64 ∨ j.natAbs < 2 ^ 64) ∨ CMulX i j
theorem ib64 {i : Int} (h : i.natAbs < 2 ^ 64) : Builtin.Int.intBits i ≤ 64 := PyProof.Rows.intBits_le h
theorem opr_mul {X : Cx} : OpR X (binaryOp .Mult) (rI CMl fun i j => .int (i * j)) := opI fun i j _ _ _ _ _ hc q => by
  refine mul_int q ?_
  rcases hc with (h | h) | h
  · exact IntMulOk.of_left (ib64 h)
  · exact IntMulOk.of_right (ib64 h)
  · exact h.ok
theorem opn_pow {K : PySem.W.Frag} : OpN K (r2N (rI CPow fun i j => .int (i ^ j.toNat))) (sI2c CPow fun i j => .int (i ^ j.toNat)) := opn_i2c (fun _ _ h => h) fun _ _ _ _ _ => ⟨rfl, rfl⟩
/-- a is None, a is not None -/
def isNon : D → Bool
  | .non => true
  | .val v => decide (v = .non)
  | .pin v _ => decide (v = .non)
  | _ => false
def sIsN : List D → (D → Prop) → Prop := fun ds Q => ∃ x, ds = [x, .non] ∧ x ≠ .hole ∧ Q (.bl (isNon x))
def sNotN : List D → (D → Prop) → Prop := fun ds Q => ∃ x, ds = [x, .non] ∧ x ≠ .hole ∧ Q (.bl (!isNon x))
end VL
namespace VL
open PySem PySem.Spec PyProof.Rows L2 VL
inductive Stp where
  | ix (j : Nat)
  | fd (f : Cs)
deriving DecidableEq
def fdIx (fs : List Cs) (f : Cs) : Option Nat := fs.idxOf? f
/-- the node at a place, through nodes that are ours -/
def getP : D → List Stp → Option D
  | d, [] => some d
  | .lst true ds, .ix j :: p => match ds[j]? with | some d => getP d p | none => none
  | .tup ds, .ix j :: p => match ds[j]? with | some d => getP d p | none => none
  | .ins true _ fs ds, .fd f :: p => match fdIx fs f with
    | some j => (match ds[j]? with | some d => getP d p | none => none)
    | none => none
  | _, _ => none
def setP : D → List Stp → D → D
  | _, [], e => e
  | .lst true ds, .ix j :: p, e => match ds[j]? with | some d => .lst true (ds.set j (setP d p e)) | none => .lst true ds
  | .tup ds, .ix j :: p, e => match ds[j]? with | some d => .tup (ds.set j (setP d p e)) | none => .tup ds
  | .ins true C fs ds, .fd f :: p, e => match fdIx fs f with
    | some j => (match ds[j]? with | some d => .ins true C fs (ds.set j (setP d p e)) | none => .ins true C fs ds)
    | none => .ins true C fs ds
  | d, _, _ => d
theorem fzip_look : ∀ {fs : List Cs} {vs : List V} {f : Cs} {j : Nat} {v : V}, fdIx fs f = some j → vs[j]? = some v → fs.length = vs.length → (fzip fs vs).lookup (toS f) = some v
  | [], vs, f, j, v, h, _, _ => by simp [fdIx] at h
  | g :: fs, [], f, j, v, _, _, hl => by simp at hl
  | g :: fs, w :: vs, f, j, v, h, hv, hl => by
    unfold fdIx at h
    rw [List.idxOf?_cons] at h
    show ((toS g, w) :: fzip fs vs).lookup (toS f) = some v
    by_cases e : g = f
    · subst e
      simp at h
      subst h
      simp at hv
      subst hv
      simp [List.lookup]
    · have e1 : (g == f) = false := by simpa using e
      rw [e1] at h
      simp at h
      obtain ⟨k, hk, rfl⟩ := h
      have e2 : (toS f == toS g) = false := by
        rw [beq_eq_false_iff_ne]
        intro z
        exact e (toS_inj z.symm)
      simp only [List.lookup, e2]
      exact fzip_look (fs := fs) hk (by simpa using hv) (by simpa using hl)
section
variable {K : PySem.W.Frag}
/-- at v0, along p, one comes to v -/
inductive AtP (H : Hp) : D → V → List Stp → V → Prop where
  | nil {d v} : AtP H d v [] v
  | lst {ds d a vs j p w v} : H a = some (.lst vs) → ds[j]? = some d → ds.length = vs.length → vs[j]? = some w → AtP H d w p v → AtP H (.lst true ds) (.ref a) (.ix j :: p) v
  | tup {ds d a vs j p w v} : H a = some (.tup vs) → ds[j]? = some d → ds.length = vs.length → vs[j]? = some w → AtP H d w p v → AtP H (.tup ds) (.ref a) (.ix j :: p) v
  | ins {C C' fs ds d a dx vs j f p w v} : H a = some (.ins C' dx (fzip fs vs)) → fdIx fs f = some j → ds[j]? = some d → fs.length = vs.length → vs[j]? = some w → AtP H d w p v → AtP H (.ins true C fs ds) (.ref a) (.fd f :: p) v
theorem AtP.grow {H H' : Hp} (h : Sub H H') {d v p u} (a : AtP H d v p u) : AtP H' d v p u := by
  induction a with
  | nil => exact .nil
  | lst e1 e2 e3 e4 _ ih => exact .lst (h _ _ e1) e2 e3 e4 ih
  | tup e1 e2 e3 e4 _ ih => exact .tup (h _ _ e1) e2 e3 e4 ih
  | ins e1 e2 e3 e4 e5 _ ih => exact .ins (h _ _ e1) e2 e3 e4 e5 ih
theorem fzip_inj : ∀ {fs : List Cs} {vs ws : List V}, fs.length = vs.length → fs.length = ws.length → fzip fs vs = fzip fs ws → vs = ws
  | [], [], [], _, _, _ => rfl
  | f :: fs, v :: vs, w :: ws, h1, h2, e => by
    have e2 : (toS f, v) :: fzip fs vs = (toS f, w) :: fzip fs ws := e
    obtain ⟨a, c⟩ := List.cons.inj e2
    rw [(Prod.mk.inj a).2, fzip_inj (Nat.succ.inj h1) (Nat.succ.inj h2) c]
  | [], _ :: _, _, h1, _, _ => by cases h1
  | [], [], _ :: _, _, h2, _ => by cases h2
  | _ :: _, [], _, h1, _, _ => by cases h1
  | _ :: _, _ :: _, [], _, h2, _ => by cases h2
theorem AtP.uniq {H : Hp} : ∀ {p : List Stp} {d v u u'}, AtP H d v p u → AtP H d v p u' → u = u'
  | [], _, _, _, _, .nil, .nil => rfl
  | .ix j :: p, _, _, u, u', .lst a1 a2 a3 a4 a5, .lst b1 b2 b3 b4 b5 => by
    rw [a1] at b1
    cases b1
    rw [a4] at b4
    cases b4
    rw [a2] at b2
    cases b2
    exact a5.uniq b5
  | .ix j :: p, _, _, u, u', .tup a1 a2 a3 a4 a5, .tup b1 b2 b3 b4 b5 => by
    rw [a1] at b1
    cases b1
    rw [a4] at b4
    cases b4
    rw [a2] at b2
    cases b2
    exact a5.uniq b5
  | .fd f :: p, _, _, u, u', .ins a1 a2 a3 a4 a5 a6, .ins b1 b2 b3 b4 b5 b6 => by
    rw [a1] at b1
    have e := HO.ins.inj (Option.some.inj b1)
    have ev := fzip_inj a4 b4 e.2.2
    subst ev
    rw [a2] at b2
    cases b2
    rw [a5] at b5
    cases b5
    rw [a3] at b3
    cases b3
    exact a6.uniq b6
/-- a place within a tree: what stands there, and what stands in its stead -/
theorem Rp.focusP {G H : Hp} (su : Sub G H) : ∀ {p : List Stp} {d0 : D} {v0 : V} {F : List Addr} {d : D}, Rp K G H d0 v0 F → getP d0 p = some d →
    ∃ v A B C, F = A ++ B ++ C ∧ Rp K G H d v B ∧ AtP H d0 v0 p v ∧ ∀ (G' H' : Hp) (d' : D) (B' : List Addr), Sub G G' → (∀ a ∈ A ++ C, H' a = H a) → (B ≠ [] ∨ B' = []) → Rp K G' H' d' v B' → Rp K G' H' (setP d0 p d') v0 (A ++ B' ++ C)
  | [], d0, v0, F, d, h, e => by
    have e : some d0 = some d := by cases d0 <;> exact e
    cases e
    refine ⟨v0, [], F, [], by simp, h, .nil, fun G' H' d' B' _ _ _ r => ?_⟩
    have : setP d0 [] d' = d' := by cases d0 <;> rfl
    rw [this]
    simpa using r
  | .ix j :: p, .lst true ds, v0, F, d, h, e => by
    obtain ⟨a, vs, F', rfl, s, rfl, r⟩ := h
    have e : (match ds[j]? with | some d => getP d p | none => none) = some d := e
    cases hj : ds[j]? with
    | none => rw [hj] at e; cases e
    | some c =>
      rw [hj] at e
      obtain ⟨w, A, B, C, hw, rfl, rw_, back⟩ := r.focus hj
      obtain ⟨v, A2, B2, C2, rfl, rv, at_, back2⟩ := Rp.focusP su rw_ e
      refine ⟨v, a :: A ++ A2, B2, C2 ++ C, by simp only [List.append_assoc, List.cons_append], rv, .lst s hj r.len hw at_, fun G' H' d' B' g k z r' => ?_⟩
      have q := back2 G' H' d' B' g (fun a z => k a (by simp only [List.mem_append, List.mem_cons] at z ⊢; grind)) z r'
      have q2 := back G' H' _ w _ g (fun a z => k a (by simp only [List.mem_append, List.mem_cons] at z ⊢; grind)) q
      show Rp K G' H' (match ds[j]? with | some d => .lst true (ds.set j (setP d p d')) | none => .lst true ds) _ _
      rw [hj]
      rw [setSelf hw] at q2
      exact ⟨a, vs, A ++ (A2 ++ B' ++ C2) ++ C, rfl, (k a (by simp)).trans s, by simp only [List.append_assoc, List.cons_append], q2⟩
  | .fd f :: p, .ins true C0 fs ds, v0, F, d, h, e => by
    obtain ⟨a, dx, vs, F', rfl, s, rfl, l, r⟩ := h
    have e : (match fdIx fs f with | some j => (match ds[j]? with | some d => getP d p | none => none) | none => none) = some d := e
    cases hf : fdIx fs f with
    | none => rw [hf] at e; cases e
    | some j =>
      rw [hf] at e
      have e : (match ds[j]? with | some d => getP d p | none => none) = some d := e
      cases hj : ds[j]? with
      | none => rw [hj] at e; cases e
      | some c =>
        rw [hj] at e
        obtain ⟨w, A, B, C, hw, rfl, rw_, back⟩ := r.focus hj
        obtain ⟨v, A2, B2, C2, rfl, rv, at_, back2⟩ := Rp.focusP su rw_ e
        refine ⟨v, a :: A ++ A2, B2, C2 ++ C, by simp only [List.append_assoc, List.cons_append], rv, .ins s hf hj (l.trans r.len) hw at_, fun G' H' d' B' g k z r' => ?_⟩
        have q := back2 G' H' d' B' g (fun a z => k a (by simp only [List.mem_append, List.mem_cons] at z ⊢; grind)) z r'
        have q2 := back G' H' _ w _ g (fun a z => k a (by simp only [List.mem_append, List.mem_cons] at z ⊢; grind)) q
        show Rp K G' H' (match fdIx fs f with | some j => (match ds[j]? with | some d => .ins true C0 fs (ds.set j (setP d p d')) | none => .ins true C0 fs ds) | none => .ins true C0 fs ds) _ _
        rw [hf]
        show Rp K G' H' (match ds[j]? with | some d => .ins true C0 fs (ds.set j (setP d p d')) | none => .ins true C0 fs ds) _ _
        rw [hj]
        rw [setSelf hw] at q2
        exact ⟨a, dx, vs, A ++ (A2 ++ B' ++ C2) ++ C, rfl, (k a (by simp)).trans s, by simp only [List.append_assoc, List.cons_append], by simpa using l, q2⟩
  | .ix j :: p, .tup ds, v0, F, d, h, e => by
    obtain ⟨a, vs, rfl, s, r⟩ := h
    have e : (match ds[j]? with | some d => getP d p | none => none) = some d := e
    cases hj : ds[j]? with
    | none => rw [hj] at e; cases e
    | some c =>
      rw [hj] at e
      obtain ⟨w, A, B, C, hw, rfl, rw_, back⟩ := r.focus hj
      obtain ⟨v, A2, B2, C2, rfl, rv, at_, back2⟩ := Rp.focusP su rw_ e
      refine ⟨v, A ++ A2, B2, C2 ++ C, by simp only [List.append_assoc], rv, .tup (su _ _ s) hj r.len hw at_, fun G' H' d' B' g k z r' => ?_⟩
      have q := back2 G' H' d' B' g (fun a z => k a (by simp only [List.mem_append] at z ⊢; grind)) z r'
      have q2 := back G' H' _ w _ g (fun a z => k a (by simp only [List.mem_append] at z ⊢; grind)) q
      show Rp K G' H' (match ds[j]? with | some d => .tup (ds.set j (setP d p d')) | none => .tup ds) _ _
      rw [hj]
      rw [setSelf hw] at q2
      have ea : A ++ A2 ++ B' ++ (C2 ++ C) = A ++ (A2 ++ B' ++ C2) ++ C := by simp only [List.append_assoc]
      rw [ea]
      exact ⟨a, vs, rfl, g _ _ s, q2⟩
  | .fd _ :: p, .tup ds, v0, F, d, h, e => by cases e
  | s :: p, .lst false ds, v0, F, d, h, e => by cases s <;> cases e
  | s :: p, .ins false C fs ds, v0, F, d, h, e => by cases s <;> cases e
  | .fd _ :: p, .lst true ds, v0, F, d, h, e => by cases e
  | .ix _ :: p, .ins true C fs ds, v0, F, d, h, e => by cases e
  | s :: p, .hole, v0, F, d, h, e => by cases s <;> cases e
  | s :: p, .val _, v0, F, d, h, e => by cases s <;> cases e
  | s :: p, .non, v0, F, d, h, e => by cases s <;> cases e
  | s :: p, .bl _, v0, F, d, h, e => by cases s <;> cases e
  | s :: p, .int _, v0, F, d, h, e => by cases s <;> cases e
  | s :: p, .str _, v0, F, d, h, e => by cases s <;> cases e
  | s :: p, .ty _, v0, F, d, h, e => by cases s <;> cases e
  | s :: p, .pin _ _, v0, F, d, h, e => by cases s <;> cases e
  | s :: p, .exn _ _ _ _, v0, F, d, h, e => by cases s <;> cases e
  | s :: p, .dK _ _ _, v0, F, d, h, e => by cases s <;> cases e
  | s :: p, .dT _ _ _, v0, F, d, h, e => by cases s <;> cases e
end
section
variable {K : PySem.W.Frag} {b : Bs} {σ : L2.St} {H : Hp} {ε : Ep} {T R : List D} {Tv Rv : List V}
/-- the node at a place of slot i, and what stands in its stead, made of it and of what is held last -/
theorem SI.focus (I : SI K b σ H ε (T ++ R) (Tv ++ Rv)) (hl : T.length = Tv.length) {i : Nat} {d0 d : D} {p : List Stp} (e : ε[i]? = some (some d0)) (g : getP d0 p = some d) :
    ∃ v0 v G B FR, σ[i]? = some (some v0) ∧ AtP H d0 v0 p v ∧ Sub G H ∧ Rp K G H d v B ∧ RpL K G H R Rv FR ∧ (B ++ FR).Nodup ∧ (∀ a ∈ B ++ FR, G a = none) ∧
      ∀ H' d' B' res w Fr, (∀ a, a ∉ B → H' a = H a) → Rp K G H' d' v B' → Rp K G H' res w Fr → (B ≠ [] ∨ B' = []) → (∃ L, (B' ++ (Fr ++ L)).Perm (B ++ FR)) → SI K b σ H' (ε.set i (some (setP d0 p d'))) (T ++ [res]) (Tv ++ [w]) := by
  obtain ⟨G, F, Ft, J⟩ := I
  obtain ⟨F1, FR, rfl, r1, r2⟩ := J.temps.split2 hl
  obtain ⟨ov, A0, B0, C0, hs, rfl, ro, back⟩ := J.slots.focus e
  obtain ⟨v0, rfl, r0⟩ := ro
  obtain ⟨v, A, B, C, rfl, rv, at_, back2⟩ := r0.focusP J.sub g
  have pm : (A0 ++ (A ++ B ++ C) ++ C0 ++ (F1 ++ FR)).Perm ((A0 ++ A ++ C ++ C0 ++ F1) ++ (B ++ FR)) := by
    apply List.perm_iff_count.mpr
    intro a
    simp only [List.count_append]
    omega
  have nd := pm.nodup_iff.mp J.nd
  obtain ⟨nd1, nd2, dj⟩ := List.nodup_append.mp nd
  have mem : ∀ a, a ∈ (A0 ++ A ++ C ++ C0 ++ F1) ++ (B ++ FR) → a ∈ A0 ++ (A ++ B ++ C) ++ C0 ++ (F1 ++ FR) := fun a z => pm.mem_iff.mpr z
  refine ⟨v0, v, G, B, FR, hs, at_, J.sub, rv, r2, nd2, fun a z => J.fr a (mem a (List.mem_append_right _ z)), fun H' d' B' res w Fr kp rd rres z sp => ?_⟩
  have out : ∀ a ∈ A0 ++ A ++ C ++ C0 ++ F1, H' a = H a := fun a z => kp a fun hb => dj a z a (List.mem_append_left _ hb) rfl
  have sH : Sub G H' := fun a o q => by
    have : a ∉ B := fun hb => by
      rw [J.fr a (mem a (List.mem_append_right _ (List.mem_append_left _ hb)))] at q
      cases q
    rw [kp a this]
    exact J.sub a o q
  have q1 := back2 G H' d' B' Sub.refl (fun a z => out a (by simp only [List.mem_append] at z ⊢; grind)) z rd
  have q2 := back G H' (some (setP d0 p d')) (some v0) (A ++ B' ++ C) Sub.refl (fun a z => out a (by simp only [List.mem_append] at z ⊢; grind)) ⟨v0, rfl, q1⟩
  rw [setSelf hs] at q2
  obtain ⟨L, sp⟩ := sp
  have pm2 : ((A0 ++ (A ++ B' ++ C) ++ C0 ++ (F1 ++ Fr)) ++ L).Perm (A0 ++ (A ++ B ++ C) ++ C0 ++ (F1 ++ FR)) := by
    apply List.perm_iff_count.mpr
    intro a
    have := sp.count_eq a
    simp only [List.count_append] at this ⊢
    omega
  have sb : ∀ a, a ∈ A0 ++ (A ++ B' ++ C) ++ C0 ++ (F1 ++ Fr) → a ∈ A0 ++ (A ++ B ++ C) ++ C0 ++ (F1 ++ FR) := fun a z => pm2.mem_iff.mp (List.mem_append_left _ z)
  refine ⟨G, A0 ++ (A ++ B' ++ C) ++ C0, F1 ++ Fr, J.s0, sH, q2, (r1.mono Sub.refl fun a z => out a (List.mem_append_right _ z)).append (RpL.one.mpr rres), (List.nodup_append.mp (pm2.nodup_iff.mpr J.nd)).1, fun a z => J.fr a (sb a z), fun a z => J.own a (sb a z), J.gn, fun a o q n => ?_, J.kept⟩
  · have : a ∉ B := fun hb => by
      rcases J.own a (mem a (List.mem_append_right _ (List.mem_append_left _ hb))) with h | h
      · exact n h
      · rw [q] at h; cases h
    rw [kp a this]
    exact J.keep a o q n
end
end VL
namespace VL
open PySem PySem.Spec PyProof.Rows L2 VL
/-- the place of a key -/
def kIx {α : Type} [DecidableEq α] : List α → α → Option Nat
  | [], _ => none
  | a :: ks, k => if a = k then some 0 else (kIx ks k).map (· + 1)
section
variable {κ : Type} [DecidableEq κ] {α : Type} [DecidableEq α] {f : α → κ}
theorem kIx_lt : ∀ {ks : List α} {k : α} {j : Nat}, kIx ks k = some j → j < ks.length
  | [], _, _, h => by cases h
  | a :: ks, k, j, h => by
    unfold kIx at h
    split at h
    · cases h; simp
    · cases e : kIx ks k with
      | none => rw [e] at h; cases h
      | some i =>
        rw [e] at h
        cases h
        have := kIx_lt e
        simp only [List.length_cons]
        omega
theorem map_zip_set (hf : ∀ a b, f a = f b → a = b) : ∀ {ks : List α} {vs : List V} {k : α} {y : V} {j : Nat}, ks.Nodup → ks.length = vs.length → kIx ks k = some j →
    ((ks.map f).zip vs).map (fun kv => if kv.1 = f k then (kv.1, y) else kv) = (ks.map f).zip (vs.set j y)
  | [], _, k, y, j, _, _, e => by cases e
  | _ :: _, [], k, y, j, _, h, _ => by cases h
  | a :: ks, v :: vs, k, y, j, nd, h, e => by
    obtain ⟨n1, n2⟩ := List.nodup_cons.mp nd
    unfold kIx at e
    by_cases q : a = k
    · subst q
      rw [if_pos rfl] at e
      cases e
      simp only [List.map_cons, List.zip_cons_cons, if_true, List.set_cons_zero, List.cons.injEq, true_and]
      have : ∀ p ∈ (ks.map f).zip vs, (if p.1 = f a then (p.1, y) else p) = p := fun p hp => by
        have h1 := (List.of_mem_zip hp).1
        obtain ⟨b, hb, e2⟩ := List.mem_map.mp h1
        rw [if_neg]
        intro z
        rw [← e2] at z
        exact n1 (hf _ _ z ▸ hb)
      rw [List.map_congr_left this, List.map_id']
    · rw [if_neg q] at e
      cases e1 : kIx ks k with
      | none => rw [e1] at e; cases e
      | some i =>
        rw [e1] at e
        cases e
        simp only [List.map_cons, List.zip_cons_cons, List.set_cons_succ, List.cons.injEq]
        refine ⟨if_neg fun z => q (hf _ _ z), ?_⟩
        exact map_zip_set hf n2 (Nat.succ.inj h) e1
theorem valV_zip (hf : ∀ a b, f a = f b → a = b) : ∀ {ks : List α} {vs : List V} {k : α}, ks.length = vs.length → valV ((ks.map f).zip vs) (f k) = (kIx ks k).bind fun j => vs[j]?
  | [], [], _, _ => rfl
  | a :: ks, v :: vs, k, h => by
    unfold kIx
    show valV ((f a, v) :: (ks.map f).zip vs) (f k) = _
    by_cases e : a = k
    · subst e
      rw [valV_pos rfl, if_pos rfl]
      rfl
    · rw [valV_neg fun z => e (hf _ _ z), valV_zip hf (Nat.succ.inj h), if_neg e]
      cases kIx ks k <;> simp
  | [], _ :: _, _, h => by cases h
  | _ :: _, [], _, h => by cases h
theorem zip_any (hf : ∀ a b, f a = f b → a = b) {ks : List α} {vs : List V} {k : α} (h : ks.length = vs.length) : (((ks.map f).zip vs).any fun kv => decide (kv.1 = f k)) = (kIx ks k).isSome := by
  rw [valV_any, valV_zip hf h]
  cases e : kIx ks k with
  | none => rfl
  | some j =>
    have : j < vs.length := by
      rw [← h]
      exact kIx_lt e
    simp [this]
theorem putK_zip (hf : ∀ a b, f a = f b → a = b) : ∀ {ks : List α} {vs : List V} {k : α} {y : V}, ks.Nodup → ks.length = vs.length →
    putK ((ks.map f).zip vs) (f k) y = match kIx ks k with | some j => (ks.map f).zip (vs.set j y) | none => ((ks ++ [k]).map f).zip (vs ++ [y]) := by
  intro ks vs k y nd hl
  unfold putK
  rw [zip_any hf hl]
  cases e : kIx ks k with
  | none =>
    simp only [Option.isSome_none, Bool.false_eq_true, if_false]
    rw [List.map_append, List.zip_append (by simpa using hl)]
    rfl
  | some j =>
    simp only [Option.isSome_some, if_true]
    exact map_zip_set hf nd hl e
end
def tkc (k : List Kc) : List Key := k.map kc
theorem tkc_inj : ∀ {a b : List Kc}, tkc a = tkc b → a = b
  | [], [], _ => rfl
  | x :: a, y :: b, h => by
    obtain ⟨h1, h2⟩ := List.cons.inj (show kc x :: tkc a = kc y :: tkc b from h)
    rw [kc_inj h1, tkc_inj h2]
  | [], _ :: _, h => by cases h
  | _ :: _, [], h => by cases h
theorem kzip_val {ks : List Kc} {vs : List V} {k : Kc} (h : ks.length = vs.length) : valV (kzip ks vs) (kc k) = (kIx ks k).bind fun j => vs[j]? := valV_zip (fun _ _ => kc_inj) h
theorem tzip_val {ks : List (List Kc)} {vs : List V} {k : List Kc} (h : ks.length = vs.length) : valV (tzip ks vs) (tkc k) = (kIx ks k).bind fun j => vs[j]? := valV_zip (f := tkc) (fun _ _ => tkc_inj) h
theorem kzip_put {ks : List Kc} {vs : List V} {k : Kc} {y : V} (nd : ks.Nodup) (h : ks.length = vs.length) : putK (kzip ks vs) (kc k) y = match kIx ks k with | some j => kzip ks (vs.set j y) | none => kzip (ks ++ [k]) (vs ++ [y]) := putK_zip (fun _ _ => kc_inj) nd h
theorem tzip_put {ks : List (List Kc)} {vs : List V} {k : List Kc} {y : V} (nd : ks.Nodup) (h : ks.length = vs.length) : putK (tzip ks vs) (tkc k) y = match kIx ks k with | some j => tzip ks (vs.set j y) | none => tzip (ks ++ [k]) (vs ++ [y]) := putK_zip (f := tkc) (fun _ _ => tkc_inj) nd h
/-- a tree as a key -/
def keyD : D → Option Kc
  | .int i => some (.inl i)
  | .str s => some (.inr s)
  | _ => none
def keyL : List D → Option (List Kc)
  | [] => some []
  | d :: ds => (keyD d).bind fun k => (keyL ds).map (k :: ·)
def keyT : D → Option (List Kc)
  | .tup ds => keyL ds
  | _ => none
section
variable {K : PySem.W.Frag} {G H : Hp}
theorem Rp.keyD {d : D} {v : V} {F : List Addr} {k : Kc} (r : Rp K G H d v F) (h : VL.keyD d = some k) : v = kV (kc k) ∧ F = [] := by
  cases d <;> simp only [VL.keyD, reduceCtorEq, Option.some.injEq] at h
  · subst h; exact r
  · subst h; exact r
theorem RpL.keyL : ∀ {ds : List D} {vs : List V} {F : List Addr} {ks : List Kc}, RpL K G H ds vs F → VL.keyL ds = some ks → vs = (tkc ks).map kV ∧ F = []
  | [], vs, F, ks, r, h => by
    obtain ⟨rfl, rfl⟩ := r
    cases h
    exact ⟨rfl, rfl⟩
  | d :: ds, vs, F, ks, r, h => by
    obtain ⟨v, vs', F1, F2, rfl, rfl, rd, rs⟩ := r
    have h : ((VL.keyD d).bind fun k => (VL.keyL ds).map (k :: ·)) = some ks := h
    cases e : VL.keyD d with
    | none => rw [e] at h; cases h
    | some k =>
      rw [e] at h
      cases e2 : VL.keyL ds with
      | none => rw [e2] at h; cases h
      | some ks' =>
        rw [e2] at h
        cases h
        obtain ⟨rfl, rfl⟩ := rd.keyD e
        obtain ⟨rfl, rfl⟩ := RpL.keyL rs e2
        exact ⟨rfl, rfl⟩
theorem Rp.keyT (hs : Sub G H) {d : D} {v : V} {F : List Addr} {k : List Kc} (r : Rp K G H d v F) (h : VL.keyT d = some k) : ∃ b, v = .ref b ∧ H b = some (.tup ((tkc k).map kV)) ∧ F = [] := by
  cases d with
  | tup ds =>
    obtain ⟨a, vs, rfl, s, rs⟩ := r
    obtain ⟨rfl, rfl⟩ := rs.keyL h
    exact ⟨a, rfl, hs _ _ s, rfl⟩
  | _ => cases h
end
/-- what a container holds under a key; behind a store -/
def getD : D → D → Option D
  | .lst _ ds, .int k => (ixN ds.length k).bind fun j => ds[j]?
  | .pin _ (.lst _ ds), .int k => (ixN ds.length k).bind fun j => ds[j]?
  | .tup ds, .int k => (ixN ds.length k).bind fun j => ds[j]?
  | .dK _ ks ds, k => (keyD k).bind fun k => (kIx ks k).bind fun j => ds[j]?
  | .dT _ ks ds, k => (keyT k).bind fun k => (kIx ks k).bind fun j => ds[j]?
  | _, _ => none
def putD : D → D → D → Option D
  | .lst true ds, .int k, y => (ixN ds.length k).map fun j => .lst true (ds.set j y)
  | .pin u (.lst true ds), .int k, y => (ixN ds.length k).map fun j => .pin u (.lst true (ds.set j y))
  | .dK true ks ds, k, y => if ds.length < 1000000 then (keyD k).map fun k => match kIx ks k with | some j => .dK true ks (ds.set j y) | none => .dK true (ks ++ [k]) (ds ++ [y]) else none
  | .dT true ks ds, k, y => if ds.length < 1000000 then (keyT k).map fun k => match kIx ks k with | some j => .dT true ks (ds.set j y) | none => .dT true (ks ++ [k]) (ds ++ [y]) else none
  | _, _, _ => none
section
variable {X : Cv}
structure VQ (X : Cv) (e : Expr) (t : VTE) : Prop where
  ex : ∃ t' : WX → TE, (∀ W, Takes X.toCx W → PE X.toCx e (t' W)) ∧ ∀ (b : Bx X) σ H ε T Tv W N (Q : D → Ep → Prop) (Q' : VK), SI X.K b.1 σ H ε T Tv → t N ε Q →
    (∀ d v ε' H', Sub H H' → SI X.K b.1 σ H' ε' (T ++ [d]) (Tv ++ [v]) → Q d ε' → Q' v H') → XL X.K b.1 T Tv W N → t' W σ H Q'
structure VAQ (X : Cv) (es : List Expr) (t : VTA) : Prop where
  ex : ∃ t' : WX → TA, (∀ W, Takes X.toCx W → PA X.toCx es (t' W)) ∧ ∀ (b : Bx X) σ H ε T Tv W N (Q : List D → Ep → Prop) (Q' : List V → Hp → Prop), SI X.K b.1 σ H ε T Tv → t N ε Q →
    (∀ ds vs ε' H', Sub H H' → SI X.K b.1 σ H' ε' (T ++ ds) (Tv ++ vs) → ds.length = vs.length → Q ds ε' → Q' vs H') → XL X.K b.1 T Tv W N → t' W σ H Q'
theorem ve_q {e : Expr} {t : VTE} (h : VQ X e t) : VE X e t := let ⟨t', a, c⟩ := h.ex; ⟨t', a, fun b σ H ε T Tv W N Q Q' I q k x => c b σ H ε T Tv W N Q Q' I q (fun d v ε' H' _ J z => k d v ε' H' J z) x⟩
theorem vq_var {i : Nat} {x : Str} {pos : Pos} (hN : X.N[i]? = some x) (hv : Vis X.env.scope x) (hd : (x == ("__debug__" : Str)) = false := by decide) (hcd : (x == ("__classdict__" : Str)) = false := by decide) : VQ X (.Name x pos) (vVar i) := by
  refine ⟨fun _ => tVar i, fun _ _ => pe_var hN hv hd hcd, fun b σ H ε T Tv W N Q Q' I h k _ => ?_⟩
  obtain ⟨d, e, z, q⟩ := h
  obtain ⟨v, hs, J⟩ := I.var e z
  exact ⟨v, hs, k d v ε H Sub.refl J q⟩
theorem vq_of {e : Expr} {v : V} {d : D} (h : PE X.toCx e (tC v)) (r : ∀ G H, Rp X.K G H d v []) : VQ X e (vC d) :=
  ⟨fun _ => tC v, fun _ _ => h, fun b σ H ε T Tv W N Q Q' I q k _ => k d v ε H Sub.refl (I.push fun G => r G H) q⟩
theorem vq_int {i j pos} : VQ X (.Constant (.int i) j pos) (vC (.int i)) := vq_of pe_int fun _ _ => ⟨rfl, rfl⟩
theorem vaq_nil : VAQ X [] vaNil := ⟨fun _ => tNil, fun _ _ => pa_nil, fun b σ H ε T Tv W N Q Q' I h k _ => k [] [] ε H Sub.refl (by simpa using I) rfl h⟩
theorem vaq_cons {e : Expr} {es : List Expr} {t : VTE} {u : VTA} (h : VQ X e t) (k : VAQ X es u) (hs : starEach (e :: es) X.env = (false, eval e X.env) :: starEach es X.env := by rfl) : VAQ X (e :: es) (vaCons t u) := by
  obtain ⟨t', h1, h2⟩ := h.ex
  obtain ⟨u', k1, k2⟩ := k.ex
  refine ⟨fun W => tCons (t' W) (u' W), fun W tk => pa_cons (h1 W tk) (k1 W tk) hs, fun b σ H ε T Tv W N Q Q' I q z x => ?_⟩
  refine h2 b σ H ε T Tv W N _ _ I q (fun d v ε1 H1 s1 J q1 => ?_) x
  refine k2 b σ H1 ε1 (T ++ [d]) (Tv ++ [v]) W N _ _ J q1 (fun ds vs ε2 H2 s2 J2 l q2 => ?_) (x.more I.lenT rfl)
  exact z (d :: ds) (v :: vs) ε2 H2 (s1.trans s2) (by simpa only [List.append_assoc, List.cons_append, List.nil_append] using J2) (by simp [l]) q2
theorem vq_tup {es : List Expr} {t : VTA} {x1 : Nat} {pos : Pos} (h : VAQ X es t) : VQ X (.Tuple es x1 pos) (vTup t) := by
  obtain ⟨t', h1, h2⟩ := h.ex
  refine ⟨fun W => tTup (t' W), fun W tk => pe_tup (h1 W tk), fun b σ H ε T Tv W N Q Q' I q k x => ?_⟩
  refine h2 b σ H ε T Tv W N _ _ I q (fun ds vs ε1 H1 s1 J l z => ?_) x
  obtain ⟨z1, z⟩ := z
  exact ⟨k1000 (by rw [← l]; exact z1), fun p hp => k _ _ ε1 _ (s1.trans (Sub.laid hp)) (J.tup I.lenT hp) z⟩
theorem OpN.runQ {K : PySem.W.Frag} {r : List V → Hp → VK → Prop} {op : List D → (D → Prop) → Prop} (h : OpN K r op) {b : Bs} {σ : L2.St} {H0 H : Hp} {ε : Ep} {T : List D} {Tv : List V} {ds : List D} {vs : List V} {Q : D → Ep → Prop} {Q' : VK}
    (hl : T.length = Tv.length) (hd : ds.length = vs.length) (s : Sub H0 H) (I : SI K b σ H ε (T ++ ds) (Tv ++ vs)) (q : op ds fun d => Q d ε) (k : ∀ d v ε' H', Sub H0 H' → SI K b σ H' ε' (T ++ [d]) (Tv ++ [v]) → Q d ε' → Q' v H') : r vs H Q' :=
  h b σ H ε T Tv ds vs _ Q' hl hd I q fun d v H' s' J z => k d v _ H' (s.trans s') (SI.midDrops J hl hd) z
def vOpQ (op : List D → (D → Prop) → Prop) (t : VTA) : VTE := fun N ε Q => t N ε fun ds ε1 => op ds fun d => Q d ε1
theorem vq_callTy {x : Str} {ty : String} {p pos : Pos} {e : Expr} {es : List Expr} {t : VTA} {r : List V → Hp → VK → Prop} {op : List D → (D → Prop) → Prop} (hc : CallR X.toCx (.type ty) r) (hp : OpN X.K r op) (hg : Gl X.toCx x) (hm : X.mg x = none) (hv : bootBuiltins x = some (.type ty)) (ha : VAQ X (e :: es) t)
    (hn : x ≠ "__name__" := by decide) (hdb : (x == ("__debug__" : Str)) = false := by decide) (he : starEach (e :: es) X.env = (false, eval e X.env) :: starEach es X.env := by rfl) (hpl : (backTo pos (starEach es X.env)).any (·.1) = false := by rfl) :
    VQ X (.Call (.Name x p) (e :: es) [] pos) (vOpQ op t) := by
  obtain ⟨t', a1, a2⟩ := ha.ex
  refine ⟨fun W => tCB r (t' W), fun W tk => pe_callTy hc hg hm hv (a1 W tk) hn hdb he hpl, fun b σ H ε T Tv W N Q Q' I q k x => ?_⟩
  exact a2 b σ H ε T Tv W N _ _ I q (fun ds vs ε1 H1 s1 J l z => hp.runQ I.lenT l s1 J z k) x
abbrev VTP := WV → Ep → (List Stp → Prop) → Prop
structure VP (X : Cv) (e : Expr) (i : Nat) (t : VTP) : Prop where
  ex : ∃ t' : WX → TE, (∀ W, Takes X.toCx W → PE X.toCx e (t' W)) ∧ ∀ (b : Bx X) σ H ε T Tv W N (Q : List Stp → Prop) (Q' : VK), SI X.K b.1 σ H ε T Tv → t N ε Q →
    (∀ p d0 d v0 v H', Sub H H' → SI X.K b.1 σ H' ε T Tv → ε[i]? = some (some d0) → getP d0 p = some d → σ[i]? = some (some v0) → AtP H' d0 v0 p v → Q p → Q' v H') → XL X.K b.1 T Tv W N → t' W σ H Q'
def vpName (i : Nat) : VTP := fun _ ε Q => (∃ d0, ε[i]? = some (some d0)) ∧ Q []
theorem getP_nil (d : D) : getP d [] = some d := by cases d <;> rfl
theorem vp_name {i : Nat} {x : Str} {pos : Pos} (hN : X.N[i]? = some x) (hv : Vis X.env.scope x) (hd : (x == ("__debug__" : Str)) = false := by decide) (hcd : (x == ("__classdict__" : Str)) = false := by decide) : VP X (.Name x pos) i (vpName i) := by
  refine ⟨fun _ => tVar i, fun _ _ => pe_var hN hv hd hcd, fun b σ H ε T Tv W N Q Q' I h k _ => ?_⟩
  obtain ⟨⟨d0, e⟩, q⟩ := h
  obtain ⟨v, hs, J⟩ := I.mov e
  exact ⟨v, hs, k [] d0 d0 v v H Sub.refl I e (getP_nil _) hs .nil q⟩
theorem getP_ix : ∀ {p : List Stp} {d0 : D} {ds : List D} {j : Nat}, getP d0 p = some (.lst true ds) → getP d0 (p ++ [.ix j]) = ds[j]?
  | [], d0, ds, j, h => by
    rw [getP_nil] at h
    cases h
    show (match ds[j]? with | some d => getP d [] | none => none) = ds[j]?
    cases ds[j]? with
    | none => rfl
    | some d => exact getP_nil d
  | .ix k :: p, .lst true es, ds, j, h => by
    have h : (match es[k]? with | some d => getP d p | none => none) = some (.lst true ds) := h
    show (match es[k]? with | some d => getP d (p ++ [.ix j]) | none => none) = ds[j]?
    cases e : es[k]? with
    | none => rw [e] at h; cases h
    | some c => rw [e] at h; exact getP_ix h
  | .fd f :: p, .ins true C fs es, ds, j, h => by
    have h : (match fdIx fs f with | some j => (match es[j]? with | some d => getP d p | none => none) | none => none) = some (.lst true ds) := h
    show (match fdIx fs f with | some k => (match es[k]? with | some d => getP d (p ++ [.ix j]) | none => none) | none => none) = ds[j]?
    cases e : fdIx fs f with
    | none => rw [e] at h; cases h
    | some c =>
      rw [e] at h
      have h : (match es[c]? with | some d => getP d p | none => none) = some (.lst true ds) := h
      show (match es[c]? with | some d => getP d (p ++ [.ix j]) | none => none) = ds[j]?
      cases e2 : es[c]? with
      | none => rw [e2] at h; cases h
      | some c => rw [e2] at h; exact getP_ix h
  | .fd _ :: p, .lst true es, ds, j, h => by cases h
  | .ix _ :: p, .ins true C fs es, ds, j, h => by cases h
  | s :: p, .lst false es, ds, j, h => by cases s <;> cases h
  | s :: p, .ins false C fs es, ds, j, h => by cases s <;> cases h
  | .ix k :: p, .tup es, ds, j, h => by
    have h : (match es[k]? with | some d => getP d p | none => none) = some (.lst true ds) := h
    show (match es[k]? with | some d => getP d (p ++ [.ix j]) | none => none) = ds[j]?
    cases e : es[k]? with
    | none => rw [e] at h; cases h
    | some c => rw [e] at h; exact getP_ix h
  | .fd _ :: p, .tup es, ds, j, h => by cases h
  | s :: p, .hole, ds, j, h => by cases s <;> cases h
  | s :: p, .val _, ds, j, h => by cases s <;> cases h
  | s :: p, .non, ds, j, h => by cases s <;> cases h
  | s :: p, .bl _, ds, j, h => by cases s <;> cases h
  | s :: p, .int _, ds, j, h => by cases s <;> cases h
  | s :: p, .str _, ds, j, h => by cases s <;> cases h
  | s :: p, .ty _, ds, j, h => by cases s <;> cases h
  | s :: p, .pin _ _, ds, j, h => by cases s <;> cases h
  | s :: p, .exn _ _ _ _, ds, j, h => by cases s <;> cases h
  | s :: p, .dK _ _ _, ds, j, h => by cases s <;> cases h
  | s :: p, .dT _ _ _, ds, j, h => by cases s <;> cases h
theorem AtP.ix {H : Hp} {d0 v0 p a ds vs w} {j : Nat} : AtP H d0 v0 p (.ref a) → getP d0 p = some (.lst true ds) → H a = some (.lst vs) → ds.length = vs.length → vs[j]? = some w → AtP H d0 v0 (p ++ [.ix j]) w := by
  intro at_ g ha hl hw
  generalize hv : V.ref a = v at at_
  induction at_ with
  | nil =>
    subst hv
    rw [getP_nil] at g
    cases g
    have hj : j < ds.length := by rw [hl]; exact (List.getElem?_eq_some_iff.mp hw).1
    exact .lst ha (List.getElem?_eq_getElem hj) hl hw .nil
  | lst e1 e2 e3 e4 _ ih =>
    refine .lst e1 e2 e3 e4 (ih ?_ hv)
    rename_i es c a' us k p' w' v' at'
    have g : (match es[k]? with | some d => getP d p' | none => none) = some (.lst true ds) := g
    rw [e2] at g
    exact g
  | tup e1 e2 e3 e4 _ ih =>
    refine .tup e1 e2 e3 e4 (ih ?_ hv)
    rename_i es c a' us k p' w' v' at'
    have g : (match es[k]? with | some d => getP d p' | none => none) = some (.lst true ds) := g
    rw [e2] at g
    exact g
  | ins e1 e2 e3 e4 e5 _ ih =>
    refine .ins e1 e2 e3 e4 e5 (ih ?_ hv)
    rename_i C fs es c a' dx us k f p' w' v' at'
    have g : (match fdIx fs f with | some j => (match es[j]? with | some d => getP d p' | none => none) | none => none) = some (.lst true ds) := g
    rw [e2] at g
    have g : (match es[k]? with | some d => getP d p' | none => none) = some (.lst true ds) := g
    rw [e3] at g
    exact g
end
end VL
namespace VL
open PySem PySem.Spec PyProof.Rows L2 VL
theorem getP_fd : ∀ {p : List Stp} {d0 : D} {C : Addr} {fs : List Cs} {ds : List D} {f : Cs} {j : Nat}, getP d0 p = some (.ins true C fs ds) → fdIx fs f = some j → getP d0 (p ++ [.fd f]) = ds[j]?
  | [], d0, C, fs, ds, f, j, h, hf => by
    rw [getP_nil] at h
    cases h
    show (match fdIx fs f with | some j => (match ds[j]? with | some d => getP d [] | none => none) | none => none) = ds[j]?
    rw [hf]
    show (match ds[j]? with | some d => getP d [] | none => none) = ds[j]?
    cases ds[j]? with
    | none => rfl
    | some d => exact getP_nil d
  | .ix k :: p, .lst true es, C, fs, ds, f, j, h, hf => by
    have h : (match es[k]? with | some d => getP d p | none => none) = some (.ins true C fs ds) := h
    show (match es[k]? with | some d => getP d (p ++ [.fd f]) | none => none) = ds[j]?
    cases e : es[k]? with
    | none => rw [e] at h; cases h
    | some c => rw [e] at h; exact getP_fd h hf
  | .fd g :: p, .ins true C' gs es, C, fs, ds, f, j, h, hf => by
    have h : (match fdIx gs g with | some j => (match es[j]? with | some d => getP d p | none => none) | none => none) = some (.ins true C fs ds) := h
    show (match fdIx gs g with | some k => (match es[k]? with | some d => getP d (p ++ [.fd f]) | none => none) | none => none) = ds[j]?
    cases e : fdIx gs g with
    | none => rw [e] at h; cases h
    | some c =>
      rw [e] at h
      have h : (match es[c]? with | some d => getP d p | none => none) = some (.ins true C fs ds) := h
      show (match es[c]? with | some d => getP d (p ++ [.fd f]) | none => none) = ds[j]?
      cases e2 : es[c]? with
      | none => rw [e2] at h; cases h
      | some c => rw [e2] at h; exact getP_fd h hf
  | .fd _ :: p, .lst true es, C, fs, ds, f, j, h, hf => by cases h
  | .ix _ :: p, .ins true C' gs es, C, fs, ds, f, j, h, hf => by cases h
  | s :: p, .lst false es, C, fs, ds, f, j, h, hf => by cases s <;> cases h
  | s :: p, .ins false _ _ _, C, fs, ds, f, j, h, hf => by cases s <;> cases h
  | .ix k :: p, .tup es, C, fs, ds, f, j, h, hf => by
    have h : (match es[k]? with | some d => getP d p | none => none) = some (.ins true C fs ds) := h
    show (match es[k]? with | some d => getP d (p ++ [.fd f]) | none => none) = ds[j]?
    cases e : es[k]? with
    | none => rw [e] at h; cases h
    | some c => rw [e] at h; exact getP_fd h hf
  | .fd _ :: p, .tup es, C, fs, ds, f, j, h, hf => by cases h
  | s :: p, .hole, C, fs, ds, f, j, h, hf => by cases s <;> cases h
  | s :: p, .val _, C, fs, ds, f, j, h, hf => by cases s <;> cases h
  | s :: p, .non, C, fs, ds, f, j, h, hf => by cases s <;> cases h
  | s :: p, .bl _, C, fs, ds, f, j, h, hf => by cases s <;> cases h
  | s :: p, .int _, C, fs, ds, f, j, h, hf => by cases s <;> cases h
  | s :: p, .str _, C, fs, ds, f, j, h, hf => by cases s <;> cases h
  | s :: p, .ty _, C, fs, ds, f, j, h, hf => by cases s <;> cases h
  | s :: p, .pin _ _, C, fs, ds, f, j, h, hf => by cases s <;> cases h
  | s :: p, .exn _ _ _ _, C, fs, ds, f, j, h, hf => by cases s <;> cases h
  | s :: p, .dK _ _ _, C, fs, ds, f, j, h, hf => by cases s <;> cases h
  | s :: p, .dT _ _ _, C, fs, ds, f, j, h, hf => by cases s <;> cases h
theorem AtP.fd {H : Hp} {d0 v0 p a dx C C2 fs ds vs w f} {j : Nat} : AtP H d0 v0 p (.ref a) → getP d0 p = some (.ins true C fs ds) → H a = some (.ins C2 dx (fzip fs vs)) → fdIx fs f = some j → fs.length = vs.length → ds.length = vs.length → vs[j]? = some w → AtP H d0 v0 (p ++ [.fd f]) w := by
  intro at_ g ha hf hl hd hw
  generalize hv : V.ref a = v at at_
  induction at_ with
  | nil =>
    subst hv
    rw [getP_nil] at g
    cases g
    have hj : j < ds.length := by rw [hd]; exact (List.getElem?_eq_some_iff.mp hw).1
    exact .ins ha hf (List.getElem?_eq_getElem hj) hl hw .nil
  | lst e1 e2 e3 e4 _ ih =>
    refine .lst e1 e2 e3 e4 (ih ?_ hv)
    rename_i es c a' us k p' w' v' at'
    have g : (match es[k]? with | some d => getP d p' | none => none) = some (.ins true C fs ds) := g
    rw [e2] at g
    exact g
  | tup e1 e2 e3 e4 _ ih =>
    refine .tup e1 e2 e3 e4 (ih ?_ hv)
    rename_i es c a' us k p' w' v' at'
    have g : (match es[k]? with | some d => getP d p' | none => none) = some (.ins true C fs ds) := g
    rw [e2] at g
    exact g
  | ins e1 e2 e3 e4 e5 _ ih =>
    refine .ins e1 e2 e3 e4 e5 (ih ?_ hv)
    rename_i C' C3 gs es c a' dx' us k f' p' w' v' at'
    have g : (match fdIx gs f' with | some j => (match es[j]? with | some d => getP d p' | none => none) | none => none) = some (.ins true C fs ds) := g
    rw [e2] at g
    have g : (match es[k]? with | some d => getP d p' | none => none) = some (.ins true C fs ds) := g
    rw [e3] at g
    exact g
section
variable {K : PySem.W.Frag} {b : Bs} {σ : L2.St} {H : Hp} {ε : Ep} {T R : List D} {Tv Rv : List V}
/-- the node at a place, where its address is known -/
theorem SI.focusAt (I : SI K b σ H ε (T ++ R) (Tv ++ Rv)) (hl : T.length = Tv.length) {i : Nat} {d0 d : D} {p : List Stp} {v0 v : V} (e : ε[i]? = some (some d0)) (g : getP d0 p = some d) (hs : σ[i]? = some (some v0)) (at_ : AtP H d0 v0 p v) :
    ∃ G B FR, Sub G H ∧ Rp K G H d v B ∧ RpL K G H R Rv FR ∧ (B ++ FR).Nodup ∧ (∀ a ∈ B ++ FR, G a = none) ∧
      ∀ H' d' B' res w Fr, (∀ a, a ∉ B → H' a = H a) → Rp K G H' d' v B' → Rp K G H' res w Fr → (B ≠ [] ∨ B' = []) → (∃ L, (B' ++ (Fr ++ L)).Perm (B ++ FR)) → SI K b σ H' (ε.set i (some (setP d0 p d'))) (T ++ [res]) (Tv ++ [w]) := by
  obtain ⟨v0', v', G, B, FR, hs', at', su, r, rr, nd, fr, back⟩ := I.focus hl e g
  rw [hs] at hs'
  cases hs'
  have := at_.uniq at'
  subst this
  exact ⟨G, B, FR, su, r, rr, nd, fr, back⟩
theorem SI.nil0 (I : SI K b σ H ε T Tv) : SI K b σ H ε (T ++ []) (Tv ++ []) := by simpa using I
end
theorem ixN_lt {n : Nat} {i : Int} {j : Nat} (h : ixN n i = some j) : j < n := (ixN_seq h).2.1
section
variable {X : Cv}
/-- a step into a list that is ours -/
def vpIx (i : Nat) (t : VTP) (ti : VTE) : VTP := fun N ε Q => t N ε fun p => ti N ε fun k ε2 => ε2 = ε ∧ ∃ d0 ds z j, ε[i]? = some (some d0) ∧ getP d0 p = some (.lst true ds) ∧ k = .int z ∧ ixN ds.length z = some j ∧ Q (p ++ [.ix j])
theorem vp_ix {e idx : Expr} {i : Nat} {t : VTP} {ti : VTE} {pos : Pos} (h : VP X e i t) (hi : VQ X idx ti) (hs : PlainIx idx) : VP X (.Subscript e idx pos) i (vpIx i t ti) := by
  obtain ⟨t', a1, a2⟩ := h.ex
  obtain ⟨u', b1, b2⟩ := hi.ex
  refine ⟨fun W => tOp (rIxL X.K) (t' W) (u' W), fun W tk => pe_ix ix_list (a1 W tk) (b1 W tk) hs, fun b σ H ε T Tv W N Q Q' I q k x => ?_⟩
  refine a2 b σ H ε T Tv W N _ _ I q (fun p d0 d v0 v H1 s1 I1 e g hs at_ q1 => ?_) x
  refine b2 b σ H1 ε T Tv W N _ _ I1 q1 (fun dk vk ε2 H2 s2 I2 q2 => ?_) x
  obtain ⟨rfl, d0', ds, z, j, e', g', rfl, hj, q2⟩ := q2
  rw [e] at e'
  cases e'
  obtain ⟨_, _, _, rfl, _⟩ := I2.last I.lenT
  have I3 := I2.pop I.lenT
  have at2 := at_.grow s2
  obtain ⟨G, B, FR, su, r, _⟩ := I3.nil0.focusAt I.lenT e g' hs at2
  obtain ⟨a, vs, F', rfl, ha, rfl, rl⟩ := r
  have hl := rl.len
  have hj2 := ixN_lt hj
  obtain ⟨w, hw⟩ : ∃ w, vs[j]? = some w := ⟨vs[j]'(by omega), List.getElem?_eq_getElem (by omega)⟩
  refine ⟨a, vs, z, w, rfl, rfl, SqL.of ha, ?_, ?_⟩
  · unfold atI
    rw [← hl, hj]
    exact hw
  · exact k (p ++ [.ix j]) d0 (ds[j]'hj2) v0 w H2 (s1.trans s2) I3 e (by rw [getP_ix g']; exact List.getElem?_eq_getElem hj2) hs (at2.ix g' ha hl hw) q2
/-- a step into a field of an instance that is ours -/
def vpFd (i : Nat) (C : Addr) (f : Cs) (t : VTP) : VTP := fun N ε Q => t N ε fun p => ∃ d0 fs ds j, ε[i]? = some (some d0) ∧ getP d0 p = some (.ins true C fs ds) ∧ fdIx fs f = some j ∧ j < ds.length ∧ Q (p ++ [.fd f])
theorem vp_fd {e : Expr} {i : Nat} {t : VTP} {x : Str} {f : Cs} {C : Addr} {pos : Pos} (h : VP X e i t) (cl : Cls X.K (cA X.K C)) (na : NoAttr X.K (cA X.K C) x) (hx : x = toS f) (hb : attributeBase e x X.env (eval e X.env) = eval e X.env := by rfl) : VP X (.Attribute e x pos) i (vpFd i C f t) := by
  obtain ⟨t', a1, a2⟩ := h.ex
  refine ⟨fun W => tFld X.K (t' W) x, fun W tk => pe_fld (a1 W tk) hb, fun b σ H ε T Tv W N Q Q' I q k xx => ?_⟩
  refine a2 b σ H ε T Tv W N _ _ I q (fun p d0 d v0 v H1 s1 I1 e g hs at_ q1 => ?_) xx
  obtain ⟨d0', fs, ds, j, e', g', hf, hj, q1⟩ := q1
  rw [e] at e'
  cases e'
  obtain ⟨G, B, FR, su, r, _⟩ := I1.nil0.focusAt I.lenT e g' hs at_
  obtain ⟨a, dx, vs, F', rfl, ha, rfl, hl, rl⟩ := r
  have hl2 := rl.len
  obtain ⟨w, hw⟩ : ∃ w, vs[j]? = some w := ⟨vs[j]'(by omega), List.getElem?_eq_getElem (by omega)⟩
  refine ⟨a, cA X.K C, dx, _, w, rfl, ha, cl, na, ?_, ?_⟩
  · rw [hx]
    exact fzip_look hf hw (hl.trans hl2)
  · exact k (p ++ [.fd f]) d0 (ds[j]'hj) v0 w H1 s1 I1 e (by rw [getP_fd g' hf]; exact List.getElem?_eq_getElem hj) hs (at_.fd g' ha hf (hl.trans hl2) hl2 hw) q1
/-- what stands at a place and stands still, read -/
def vAt (i : Nat) (t : VTP) : VTE := fun N ε Q => t N ε fun p => ∃ d0 d, ε[i]? = some (some d0) ∧ getP d0 p = some d ∧ isFz d = true ∧ Q d ε
theorem vq_at {e : Expr} {i : Nat} {t : VTP} (h : VP X e i t) : VQ X e (vAt i t) := by
  obtain ⟨t', a1, a2⟩ := h.ex
  refine ⟨t', a1, fun b σ H ε T Tv W N Q Q' I q k x => ?_⟩
  refine a2 b σ H ε T Tv W N _ _ I q (fun p d0 d v0 v H1 s1 I1 e g hs at_ q1 => ?_) x
  obtain ⟨d0', d', e', g', hz, q1⟩ := q1
  rw [e] at e'
  cases e'
  rw [g] at g'
  cases g'
  obtain ⟨v0', v', G, B, FR, hs', at', su, r, _⟩ := I1.nil0.focus I.lenT e g
  rw [hs] at hs'
  cases hs'
  have := at_.uniq at'
  subst this
  refine k d v ε H1 s1 ?_ q1
  obtain ⟨G, F, Ft, J⟩ := I1
  obtain ⟨ov, A0, B0, C0, hs2, eF, ro, _⟩ := J.slots.focus e
  obtain ⟨v0', rfl, r0⟩ := ro
  rw [hs] at hs2
  cases hs2
  obtain ⟨v2, A, B2, C, eB, rv, at2, _⟩ := r0.focusP J.sub g
  have := at_.uniq at2
  subst this
  have e2 := rv.fz hz
  subst e2
  exact ⟨G, F, Ft, J.push rv⟩
theorem pa_list : PlainAttrs "list" := PySem.F.plainAttrs_list
theorem k1m {n : Nat} (h : n < 1000000) : n < sizeLine := Nat.lt_trans h (by decide)
/-- a method that changes a list: the items and the arguments give the new items and the answer -/
def MutOk (K : PySem.W.Frag) (r : V → List V → Hp → VK → Prop) (mu : List D → List D → Option (List D × D)) : Prop :=
  ∀ (G H : Hp) (a : Addr) (ds : List D) (vs : List V) (F : List Addr) (R : List D) (Rv : List V) (FR : List Addr) (ds' : List D) (res : D) (Q : VK), Sub G H → H a = some (.lst vs) → RpL K G H ds vs F → RpL K G H R Rv FR → (a :: (F ++ FR)).Nodup → G a = none → mu ds R = some (ds', res) →
    (∀ vs' w F' Fr, RpL K G H ds' vs' F' → Rp K G H res w Fr → (∃ L, (F' ++ (Fr ++ L)).Perm (F ++ FR)) → Q w (upd H a (.lst vs'))) → r (.ref a) Rv H Q
def vMut (mu : List D → List D → Option (List D × D)) (i : Nat) (t : VTP) (te : VTA) : VTE := fun N ε Q => t N ε fun p => ∃ d0 ds, ε[i]? = some (some d0) ∧ getP d0 p = some (.lst true ds) ∧ te N ε fun es ε1 => ∃ ds' res, ε1[i]? = some (some d0) ∧ mu ds es = some (ds', res) ∧ Q res (ε1.set i (some (setP d0 p (.lst true ds'))))
theorem mut_run {K : PySem.W.Frag} {b : Bs} {σ : L2.St} {H : Hp} {ε : Ep} {T R : List D} {Tv Rv : List V} {r : V → List V → Hp → VK → Prop} {mu : List D → List D → Option (List D × D)} (m : MutOk K r mu) (I : SI K b σ H ε (T ++ R) (Tv ++ Rv)) (hl : T.length = Tv.length) {i : Nat} {d0 : D} {p : List Stp} {v0 v : V} {ds ds' : List D} {res : D} {Q : VK}
    (e : ε[i]? = some (some d0)) (g : getP d0 p = some (.lst true ds)) (hs : σ[i]? = some (some v0)) (at_ : AtP H d0 v0 p v) (hm : mu ds R = some (ds', res))
    (k : ∀ w H', SI K b σ H' (ε.set i (some (setP d0 p (.lst true ds')))) (T ++ [res]) (Tv ++ [w]) → Q w H') : r v Rv H Q := by
  obtain ⟨G, B, FR, su, rr, rR, nd, fr, back⟩ := I.focusAt hl e g hs at_
  obtain ⟨a, vs, F', rfl, ha, rfl, rl⟩ := rr
  have nd2 : (a :: (F' ++ FR)).Nodup := nd
  refine m G H a ds vs F' R Rv FR ds' res Q su ha rl rR nd2 (fr a (by simp)) hm fun vs' w F2 Fr q1 q2 sp => ?_
  obtain ⟨L, sp⟩ := sp
  have na : ∀ c ∈ F2 ++ (Fr ++ L), c ≠ a := fun c hc z => (List.nodup_cons.mp nd2).1 (z ▸ sp.mem_iff.mp hc)
  have mv : ∀ c ∈ F2 ++ (Fr ++ L), upd H a (.lst vs') c = H c := fun c hc => upd_ne (na c hc)
  refine k w _ (back (upd H a (.lst vs')) (.lst true ds') (a :: F2) res w Fr (fun c hc => upd_ne fun z => hc (by rw [z]; simp)) ⟨a, vs', F2, rfl, upd_same, rfl, q1.mono Sub.refl fun c hc => mv c (List.mem_append_left _ hc)⟩ (q2.mono Sub.refl fun c hc => mv c (List.mem_append_right _ (List.mem_append_left _ hc))) (.inl (by simp)) ⟨L, ?_⟩)
  exact List.Perm.cons a sp
theorem tyV_list {K : PySem.W.Frag} {b : Bs} {σ : L2.St} {H : Hp} {ε : Ep} {T : List D} {Tv : List V} (I : SI K b σ H ε T Tv) {i : Nat} {d0 : D} {p : List Stp} {v0 v : V} {ds : List D} (e : ε[i]? = some (some d0)) (g : getP d0 p = some (.lst true ds)) (hs : σ[i]? = some (some v0)) (at_ : AtP H d0 v0 p v) : tyV K "list" v H := by
  obtain ⟨G, B, FR, su, rr, _⟩ := I.nil0.focusAt I.lenT e g hs at_
  obtain ⟨a, vs, F', rfl, ha, _⟩ := rr
  exact Or.inl ⟨rfl, vs, SqL.of ha⟩
theorem ve_mut {o e : Expr} {es : List Expr} {i : Nat} {t : VTP} {te : VTA} {name : Str} {id : String} {r : V → List V → Hp → VK → Prop} {mu : List D → List D → Option (List D × D)} {apos cpos : Pos} (h : VP X o i t) (he : VAQ X (e :: es) te) (m : MutOk X.K r mu) (sl : Slot "list" name id) (ty : typeOf (.builtin id) = pure (.type "method_descriptor")) (mt : MtR X.toCx id r)
    (hbase : attributeBase o name X.env (eval o X.env) = eval o X.env := by rfl)
    (hfew : ((backTo cpos (starEach (e :: es) X.env)).all (fun x => !x.1) && (backToKw cpos (keywordEach [] X.env)).all (fun x => x.1.isSome) && decide ((e :: es).length + ([] : List Keyword).length + (if ([] : List Keyword).isEmpty then 0 else 1) < 30)) = true := by rfl)
    (hline : (apos.endLine == cpos.line) = true := by rfl) (hs : starEach (e :: es) X.env = (false, eval e X.env) :: starEach es X.env := by rfl) (hplain : (backTo cpos (starEach es X.env)).any (·.1) = false := by rfl) :
    VE X (.Call (.Attribute o name apos) (e :: es) [] cpos) (vMut mu i t te) := by
  obtain ⟨t', a1, a2⟩ := h.ex
  obtain ⟨u', b1, b2⟩ := he.ex
  refine ⟨fun W => tBM X.K "list" r (t' W) (u' W), fun W tk => pe_bm pa_list sl ty mt (a1 W tk) (b1 W tk) hbase hfew hline hs hplain, fun b σ H ε T Tv W N Q Q' I q k x => ?_⟩
  refine a2 b σ H ε T Tv W N _ _ I q (fun p d0 d v0 v H1 s1 I1 e0 g hs at_ q1 => ?_) x
  obtain ⟨d0', ds, e1, g', q1⟩ := q1
  rw [e0] at e1
  cases e1
  refine ⟨tyV_list I1 e0 g' hs at_, b2 b σ H1 ε T Tv W N _ _ I1 q1 (fun ys ws ε2 H2 s2 I2 l q2 => ?_) x⟩
  obtain ⟨ds', res, e2, hm, q2⟩ := q2
  exact mut_run m I2 I.lenT e2 g' hs (at_.grow s2) hm fun w H' J => k res w _ H' J q2
/-- without arguments -/
theorem ve_mut0 {o : Expr} {i : Nat} {t : VTP} {name : Str} {id : String} {r : V → List V → Hp → VK → Prop} {mu : List D → List D → Option (List D × D)} {apos cpos : Pos} (h : VP X o i t) (m : MutOk X.K r mu) (sl : Slot "list" name id) (ty : typeOf (.builtin id) = pure (.type "method_descriptor")) (mt : MtR X.toCx id r)
    (hbase : attributeBase o name X.env (eval o X.env) = eval o X.env := by rfl) (hline : (apos.endLine == cpos.line) = true := by rfl) :
    VE X (.Call (.Attribute o name apos) [] [] cpos) (vMut mu i t vaNil) := by
  obtain ⟨t', a1, a2⟩ := h.ex
  refine ⟨fun W => tBM0 X.K "list" r (t' W), fun W tk => pe_bm0 pa_list sl ty mt (a1 W tk) hbase hline, fun b σ H ε T Tv W N Q Q' I q k x => ?_⟩
  refine a2 b σ H ε T Tv W N _ _ I q (fun p d0 d v0 v H1 s1 I1 e0 g hs at_ q1 => ?_) x
  obtain ⟨d0', ds, e1, g', ds', res, e2, hm, q2⟩ := q1
  rw [e0] at e1
  cases e1
  exact ⟨tyV_list I1 e0 g' hs at_, mut_run m I1.nil0 I.lenT e0 g' hs at_ hm fun w H' J => k res w _ H' J q2⟩
/-- x.append(e) and its like, x a name, e anything -/
def vMutN (mu : List D → List D → Option (List D × D)) (i : Nat) (te : VTA) : VTE := fun N ε Q => (∃ ds, ε[i]? = some (some (.lst true ds))) ∧ te N ε fun es ε1 => ∃ ds ds' res, ε1[i]? = some (some (.lst true ds)) ∧ mu ds es = some (ds', res) ∧ Q res (ε1.set i (some (.lst true ds')))
theorem ve_mutN {y : Str} {opos : Pos} {e : Expr} {es : List Expr} {i : Nat} {rs : List (Option Nat)} {te : VTA} {name : Str} {id : String} {r : V → List V → Hp → VK → Prop} {mu : List D → List D → Option (List D × D)} {apos cpos : Pos} (hN : X.N[i]? = some y) (hv : Vis X.env.scope y) (he : VA X (e :: es) rs te) (hrs : rs.all (· == none) = true) (m : MutOk X.K r mu) (sl : Slot "list" name id) (ty : typeOf (.builtin id) = pure (.type "method_descriptor")) (mt : MtR X.toCx id r)
    (hd : (y == ("__debug__" : Str)) = false := by decide) (hcd : (y == ("__classdict__" : Str)) = false := by decide)
    (hbase : attributeBase (.Name y opos) name X.env (eval (.Name y opos) X.env) = eval (.Name y opos) X.env := by rfl)
    (hfew : ((backTo cpos (starEach (e :: es) X.env)).all (fun x => !x.1) && (backToKw cpos (keywordEach [] X.env)).all (fun x => x.1.isSome) && decide ((e :: es).length + ([] : List Keyword).length + (if ([] : List Keyword).isEmpty then 0 else 1) < 30)) = true := by rfl)
    (hline : (apos.endLine == cpos.line) = true := by rfl) (hs : starEach (e :: es) X.env = (false, eval e X.env) :: starEach es X.env := by rfl) (hplain : (backTo cpos (starEach es X.env)).any (·.1) = false := by rfl) :
    VE X (.Call (.Attribute (.Name y opos) name apos) (e :: es) [] cpos) (vMutN mu i te) := by
  obtain ⟨u', b1, b2⟩ := he.ex
  refine ⟨fun W => tBM X.K "list" r (tVar i) (u' W), fun W tk => pe_bm pa_list sl ty mt (pe_var hN hv hd hcd) (b1 W tk) hbase hfew hline hs hplain, fun b σ H ε T Tv W N Q Q' I q k x => ?_⟩
  obtain ⟨⟨ds0, e0⟩, q⟩ := q
  obtain ⟨v, hs, _⟩ := I.mov e0
  refine ⟨v, hs, tyV_list I e0 (getP_nil _) hs .nil, b2 b σ H ε T Tv W N _ _ I q (fun ys ws ε2 H2 I2 l hh q2 => ?_) x⟩
  obtain ⟨ds, ds', res, e2, hm, q2⟩ := q2
  exact mut_run m I2 I.lenT e2 (getP_nil _) hs .nil hm fun w H' J => k res w _ H' J q2
def muAppend : List D → List D → Option (List D × D) := fun ds es => match es with | [y] => if ds.length < 1000000 then some (ds ++ [y], .non) else none | _ => none
def muPop : List D → List D → Option (List D × D) := fun ds es => match es with | [] => (ds[ds.length - 1]?).map fun y => (ds.dropLast, y) | _ => none
theorem mu_append {K : PySem.W.Frag} : MutOk K rAppend muAppend := by
  intro G H a ds vs F R Rv FR ds' res Q su ha rl rR nd ga hm k
  match R, hm with
  | [y], hm =>
    have hm : (if ds.length < 1000000 then some (ds ++ [y], D.non) else none) = some (ds', res) := hm
    by_cases hz : ds.length < 1000000
    · rw [if_pos hz] at hm
      cases hm
      obtain ⟨w, rfl, rw_⟩ := rR.one'
      exact ⟨a, vs, w, rfl, rfl, ha, k1m (by rw [← rl.len]; exact hz), k _ _ _ [] (rl.append rR) ⟨rfl, rfl⟩ ⟨[], by simp⟩⟩
    · rw [if_neg hz] at hm; cases hm
theorem mu_pop {K : PySem.W.Frag} : MutOk K rPop muPop := by
  intro G H a ds vs F R Rv FR ds' res Q su ha rl rR nd ga hm k
  match R, hm with
  | [], hm =>
    have hm : (ds[ds.length - 1]?).map (fun y => (ds.dropLast, y)) = some (ds', res) := hm
    obtain ⟨rfl, rfl⟩ := rR
    cases e : ds[ds.length - 1]? with
    | none => rw [e] at hm; cases hm
    | some y =>
      rw [e] at hm
      cases hm
      have hne : ds ≠ [] := fun z => by subst z; cases e
      have e2 : ds = ds.dropLast ++ [res] := by
        have h1 := List.dropLast_concat_getLast hne
        have h2 : ds.getLast hne = res := by
          rw [List.getLast_eq_getElem]
          have := List.getElem?_eq_some_iff.mp e
          exact this.2
        rw [h2] at h1
        exact h1.symm
      have rl2 := rl
      rw [e2] at rl2
      obtain ⟨us, ws, F1, F2, rfl, rfl, r1, r2⟩ := RpL.split rl2
      obtain ⟨w, rfl, rw_⟩ := r2.one'
      refine ⟨a, us ++ [w], w, rfl, rfl, ha, by simp, ?_⟩
      rw [List.dropLast_concat]
      have e3 : (ds.dropLast ++ [res]).dropLast = ds.dropLast := List.dropLast_concat
      exact k us w F1 F2 r1 rw_ ⟨[], by simp⟩
end
end VL
namespace VL
open PySem PySem.Spec PyProof.Rows L2 VL
/-- a[i] = v, of a list or a dict -/
def rSetAny : V → V → V → Hp → (Hp → Prop) → Prop := fun o i v H Q => rSetL o i v H Q ∨ ∃ a H4, o = .ref a ∧ DPut H a i v H4 ∧ Q H4
theorem pset_any {X : Cx} (hu : X.A.units + 1 < cLine) : PSet X rSetAny := by
  intro pins s σ H o i v ov iv u Q I ro ri rv h
  rcases h with h | ⟨a, H4, rfl, g, q⟩
  · exact set_list pins s σ H o i v ov iv u Q I ro ri rv h
  · obtain rfl : ov = Value.ref a := ro
    exact d_setItem hu I g ri rv fun s4 I4 => ⟨H4, I4, q⟩
theorem RpL.setAt {K : PySem.W.Frag} {G H : Hp} {ds : List D} {vs : List V} {F : List Addr} {j : Nat} {y : D} {w : V} {Fy : List Addr} (r : RpL K G H ds vs F) (hj : j < ds.length) (ry : Rp K G H y w Fy) : ∃ F', RpL K G H (ds.set j y) (vs.set j w) F' ∧ ∃ L, (F' ++ L).Perm (F ++ Fy) := by
  obtain ⟨v, A, B, C, hv, rfl, rv, back⟩ := r.focus (i := j) (List.getElem?_eq_getElem hj)
  refine ⟨A ++ Fy ++ C, back G H y w Fy Sub.refl (fun _ _ => rfl) ry, B, ?_⟩
  apply List.perm_iff_count.mpr
  intro a
  simp only [List.count_append]
  omega
section
variable {K : PySem.W.Frag} {b : Bs} {σ : L2.St} {H : Hp} {ε : Ep} {T : List D} {Tv : List V} {y k : D} {w kv : V}
theorem idx_nodup {α : Type} [DecidableEq α] : ∀ {ks : List α} {k : α}, kIx ks k = none → ks.Nodup → (ks ++ [k]).Nodup
  | ks, k, h, n => by
    have : ∀ {ks : List α}, kIx ks k = none → k ∉ ks := by
      intro ks
      induction ks with
      | nil => intro _; simp
      | cons a ks ih =>
        intro h
        unfold kIx at h
        split at h
        · cases h
        · rename_i na
          cases e : kIx ks k with
          | some i => rw [e] at h; cases h
          | none =>
            intro hm
            rcases List.mem_cons.mp hm with z | z
            · exact na z.symm
            · exact ih e z
    refine List.nodup_append.mpr ⟨n, by simp, fun a ha c hc e => ?_⟩
    have hc : c = k := by simpa using hc
    subst hc e
    exact this h ha
/-- a store runs -/
theorem put_run (I : SI K b σ H ε (T ++ [y, k]) (Tv ++ [w, kv])) (hl : T.length = Tv.length) {i : Nat} {d0 c c' : D} {p : List Stp} {v0 v : V} {Q : Hp → Prop}
    (e : ε[i]? = some (some d0)) (g : getP d0 p = some c) (hs : σ[i]? = some (some v0)) (at_ : AtP H d0 v0 p v) (hm : putD c k y = some c')
    (q : ∀ H', SI K b σ H' (ε.set i (some (setP d0 p c'))) T Tv → Q H') : rSetAny v kv w H Q := by
  obtain ⟨G, B, FR, su, rr, rR, nd, fr, back⟩ := I.focusAt hl e g hs at_
  obtain ⟨w', vs1, Fy, A2, e1, rfl, ry, k', vs2, Fk, A3, e2, rfl, rk, rfl, rfl⟩ := rR
  cases e1
  cases e2
  -- the new node at a
  have fin : ∀ (a : Addr) (F' : List Addr) (o : HO) (F2 : List Addr), B = a :: F' → (∀ H', H' a = some o → (∀ z ∈ F2, H' z = H z) → Rp K G H' c' v (a :: F2)) → (∃ L, (F2 ++ L).Perm (F' ++ Fy)) → SI K b σ (upd H a o) (ε.set i (some (setP d0 p c'))) T Tv := by
    intro a F' o F2 eB mk sp
    subst eB
    obtain ⟨L, sp⟩ := sp
    have nd2 : (a :: (F' ++ (Fy ++ (Fk ++ [])))).Nodup := nd
    have na : ∀ z ∈ F2, z ≠ a := fun z hz e => by
      have h1 : z ∈ F' ++ Fy := sp.mem_iff.mp (List.mem_append_left _ hz)
      refine (List.nodup_cons.mp nd2).1 (e ▸ ?_)
      simp only [List.mem_append] at h1 ⊢
      grind
    have J := back (upd H a o) c' (a :: F2) .non .non [] (fun z hz => upd_ne fun e => hz (by rw [e]; simp)) (mk _ upd_same fun z hz => upd_ne (na z hz)) ⟨rfl, rfl⟩ (.inl (by simp)) ⟨L ++ Fk, ?_⟩
    · exact J.drop hl
    · apply List.perm_iff_count.mpr
      intro z
      have := sp.count_eq z
      simp only [List.count_append, List.count_cons, List.cons_append, List.nil_append, List.count_nil] at this ⊢
      omega
  have growF : ∀ {A L Fy' : List Addr}, (A ++ L).Perm (Fy' ++ Fy) → ∃ L, (A ++ L).Perm (Fy' ++ Fy) := fun h => ⟨_, h⟩
  cases c with
  | lst m ds =>
    cases m with
    | false => cases hm
    | true =>
      cases k with
      | int kk =>
        obtain ⟨rfl, rfl⟩ := rk
        have hm : (ixN ds.length kk).map (fun j => D.lst true (ds.set j y)) = some c' := hm
        cases hj : ixN ds.length kk with
        | none => rw [hj] at hm; cases hm
        | some j =>
          rw [hj] at hm
          cases hm
          obtain ⟨a, vs, F', rfl, ha, rfl, rl⟩ := rr
          have hlt := ixN_lt hj
          obtain ⟨F2, r2, sp⟩ := rl.setAt hlt ry
          exact .inl ⟨a, vs, kk, j, rfl, rfl, ha, by rw [← rl.len]; exact hj, q _ (fin a F' _ F2 rfl (fun H' h1 h2 => ⟨a, _, F2, rfl, h1, rfl, r2.mono Sub.refl h2⟩) sp)⟩
      | _ => cases hm
  | pin u c1 =>
    cases c1 with
    | lst m ds =>
      cases m with
      | false => cases hm
      | true =>
        cases k with
        | int kk =>
          obtain ⟨rfl, rfl⟩ := rk
          have hm : (ixN ds.length kk).map (fun j => D.pin u (.lst true (ds.set j y))) = some c' := hm
          cases hj : ixN ds.length kk with
          | none => rw [hj] at hm; cases hm
          | some j =>
            rw [hj] at hm
            cases hm
            obtain ⟨rfl, a, vs, F', rfl, ha, rfl, rl⟩ := rr
            have hlt := ixN_lt hj
            obtain ⟨F2, r2, sp⟩ := rl.setAt hlt ry
            exact .inl ⟨a, vs, kk, j, rfl, rfl, ha, by rw [← rl.len]; exact hj, q _ (fin a F' _ F2 rfl (fun H' h1 h2 => ⟨rfl, a, _, F2, rfl, h1, rfl, r2.mono Sub.refl h2⟩) sp)⟩
        | _ => cases hm
    | _ => cases hm
  | dK m ks ds =>
    cases m with
    | false => cases hm
    | true =>
      have hm : (if ds.length < 1000000 then (keyD k).map fun k => (match kIx ks k with | some j => D.dK true ks (ds.set j y) | none => D.dK true (ks ++ [k]) (ds ++ [y])) else none) = some c' := hm
      by_cases hz : ds.length < 1000000
      · rw [if_pos hz] at hm
        cases hk : keyD k with
        | none => rw [hk] at hm; cases hm
        | some kc0 =>
          rw [hk] at hm
          obtain ⟨a, vs, F', rfl, ha, rfl, l1, n1, rl⟩ := rr
          obtain ⟨rfl, rfl⟩ := rk.keyD hk
          have l2 : ks.length = vs.length := l1.trans rl.len
          refine .inr ⟨a, _, rfl, DPut.k ha (k1m (by unfold kzip; rw [List.length_zip, List.length_map, l2, Nat.min_self, ← rl.len]; exact hz)), ?_⟩
          rw [kzip_put n1 l2]
          cases hi : kIx ks kc0 with
          | some j =>
            have hm : some (D.dK true ks (ds.set j y)) = some c' := by rw [← hm, Option.map_some, hi]
            cases hm
            have hlt : j < ds.length := by rw [← l1]; exact kIx_lt hi
            obtain ⟨F2, r2, sp⟩ := rl.setAt hlt ry
            exact q _ (fin a F' _ F2 rfl (fun H' h1 h2 => ⟨a, _, F2, rfl, h1, rfl, by simpa using l1, n1, r2.mono Sub.refl h2⟩) sp)
          | none =>
            have hm : some (D.dK true (ks ++ [kc0]) (ds ++ [y])) = some c' := by rw [← hm, Option.map_some, hi]
            cases hm
            exact q _ (fin a F' _ (F' ++ Fy) rfl (fun H' h1 h2 => ⟨a, _, F' ++ Fy, rfl, h1, rfl, by simp [l1], idx_nodup hi n1, (rl.append (RpL.one.mpr ry)).mono Sub.refl h2⟩) ⟨[], by simp⟩)
      · rw [if_neg hz] at hm; cases hm
  | dT m ks ds =>
    cases m with
    | false => cases hm
    | true =>
      have hm : (if ds.length < 1000000 then (keyT k).map fun k => (match kIx ks k with | some j => D.dT true ks (ds.set j y) | none => D.dT true (ks ++ [k]) (ds ++ [y])) else none) = some c' := hm
      by_cases hz : ds.length < 1000000
      · rw [if_pos hz] at hm
        cases hk : keyT k with
        | none => rw [hk] at hm; cases hm
        | some kc0 =>
          rw [hk] at hm
          obtain ⟨a, vs, F', rfl, ha, rfl, l1, n1, rl⟩ := rr
          obtain ⟨kb, rfl, hkb, rfl⟩ := rk.keyT su hk
          have l2 : ks.length = vs.length := l1.trans rl.len
          refine .inr ⟨a, _, rfl, DPut.t ha hkb (k1m (by unfold tzip; rw [List.length_zip, List.length_map, l2, Nat.min_self, ← rl.len]; exact hz)), ?_⟩
          rw [tzip_put n1 l2]
          cases hi : kIx ks kc0 with
          | some j =>
            have hm : some (D.dT true ks (ds.set j y)) = some c' := by rw [← hm, Option.map_some, hi]
            cases hm
            have hlt : j < ds.length := by rw [← l1]; exact kIx_lt hi
            obtain ⟨F2, r2, sp⟩ := rl.setAt hlt ry
            exact q _ (fin a F' _ F2 rfl (fun H' h1 h2 => ⟨a, _, F2, rfl, h1, rfl, by simpa using l1, n1, r2.mono Sub.refl h2⟩) sp)
          | none =>
            have hm : some (D.dT true (ks ++ [kc0]) (ds ++ [y])) = some c' := by rw [← hm, Option.map_some, hi]
            cases hm
            exact q _ (fin a F' _ (F' ++ Fy) rfl (fun H' h1 h2 => ⟨a, _, F' ++ Fy, rfl, h1, rfl, by simp [l1], idx_nodup hi n1, (rl.append (RpL.one.mpr ry)).mono Sub.refl h2⟩) ⟨[], by simp⟩)
      · rw [if_neg hz] at hm; cases hm
  | _ => cases hm
end
section
variable {X : Cv}
/-- place[k] = e -/
def vSet (i : Nat) (te : VTE) (tp : VTP) (tk : VTE) : VTS := fun N ε => te N.rx ε fun d ε1 => tp N.rx ε1 fun p => tk N.rx ε1 fun k ε2 => ∃ d0 c c', ε2[i]? = some (some d0) ∧ ε1[i]? = some (some d0) ∧ getP d0 p = some c ∧ putD c k d = some c' ∧ N.nx (ε2.set i (some (setP d0 p c')))
theorem vs_set {o ie e : Expr} {i : Nat} {te tk : VTE} {tp : VTP} {pos tpos : Pos} {k : Nat} (hr : Room k X.A) (he : VE X e te) (hp : VP X o i tp) (hk : VQ X ie tk)
    (hsw : swapsWithSole [.Subscript o ie tpos] e pos.line X.env = pure false := by rfl) (hw : swappedStores [.Subscript o ie tpos] e X.env = pure none := by rfl)
    (h1 : (assignEach [.Subscript o ie tpos] X.env).map (·.2) = [assign (.Subscript o ie tpos) X.env] := by rfl)
    (ha : ∀ v, assign (.Subscript o ie tpos) X.env v = (do
      let ov ← holding [v] (eval o X.env)
      let iv ← holding [v, ov] (eval ie X.env)
      standAt tpos
      holding [v, ov, iv] (setItem ov iv v)
      release [v, ov, iv] []) := by intro _; rfl) : VS X (.Assign [.Subscript o ie tpos] e pos) (vSet i te tp tk) := by
  obtain ⟨te', e1, e2⟩ := he.ex
  obtain ⟨tp', p1, p2⟩ := hp.ex
  obtain ⟨tk', k1, k2⟩ := hk.ex
  refine ⟨fun W => tAsg (te' W) (gSub (tp' W) (tk' W) rSetAny), fun W tk => ps_asg (e1 W tk) (pg_sub (p1 W tk) (k1 W tk) (pset_any (by have := hr.units; omega)) ha) hsw hw h1, fun b σ H ε T Tv W N E I q l x => ?_⟩
  refine e2 b σ H ε T Tv W N.rx _ _ I q (fun d v ε1 H1 I1 q1 => ?_) x
  have x1 : XL X.K b.1 (T ++ [d]) (Tv ++ [v]) W N.rx := x.more I.lenT rfl
  refine p2 b σ H1 ε1 (T ++ [d]) (Tv ++ [v]) W N.rx _ _ I1 q1 (fun p d0 c v0 vc H2 s2 I2 ei g hs at_ q2 => ?_) x1
  refine k2 b σ H2 ε1 (T ++ [d]) (Tv ++ [v]) W N.rx _ _ I2 q2 (fun kd kv ε2 H3 s3 I3 q3 => ?_) x1
  obtain ⟨d0', c0, c', ei2, ei1, g', hm, q3⟩ := q3
  rw [ei] at ei1
  cases ei1
  rw [g] at g'
  cases g'
  exact put_run (by simpa only [List.append_assoc, List.cons_append, List.nil_append] using I3) I.lenT ei2 g hs (at_.grow s3) hm fun H' J => l.nx σ H' _ J q3
end
end VL
namespace VL
open PySem PySem.Spec PyProof.Rows L2 VL
section
variable {K : PySem.W.Frag} {b : Bs} {σ : L2.St} {H : Hp} {ε : Ep} {T : List D} {Tv : List V}
theorem SIx.pushL {G F Ft} : ∀ {ds : List D} {vs : List V} {T : List D} {Tv : List V}, SIx K b G F Ft σ H ε T Tv → RpL K G H ds vs [] → SIx K b G F Ft σ H ε (T ++ ds) (Tv ++ vs)
  | [], vs, T, Tv, I, r => by
    obtain ⟨rfl, _⟩ := r
    simpa using I
  | d :: ds, vs, T, Tv, I, r => by
    obtain ⟨v, vs', F1, F2, rfl, f, rd, rs⟩ := r
    obtain ⟨rfl, rfl⟩ := List.append_eq_nil_iff.mp f.symm
    have := SIx.pushL (I.push rd) rs
    simpa only [List.append_assoc, List.cons_append, List.nil_append] using this
end
/-- the answer of an operation: a value, or a new object of things that stand still -/
inductive Nw (K : PySem.W.Frag) (G H : Hp) : D → V → Hp → Prop where
  | val {d v} : (∀ G' H', Sub G G' → Rp K G' H' d v []) → Nw K G H d v H
  | lst {ys : List D} {ws : List V} {p : Addr} : RpL K G H ys ws [] → H p = none → Nw K G H (.lst true ys) (.ref p) (upd H p (.lst ws))
  | tup {ys : List D} {ws : List V} {p : Addr} : RpL K G H ys ws [] → H p = none → Nw K G H (.tup ys) (.ref p) (upd H p (.tup ws))
  | dK {ks : List Kc} {ys : List D} {ws : List V} {p : Addr} : RpL K G H ys ws [] → H p = none → ks.length = ys.length → ks.Nodup → Nw K G H (.dK true ks ys) (.ref p) (upd H p (.dK (kzip ks ws)))
  | dT {ks : List (List Kc)} {ys : List D} {ws : List V} {p : Addr} : RpL K G H ys ws [] → H p = none → ks.length = ys.length → ks.Nodup → Nw K G H (.dT true ks ys) (.ref p) (upd H p (.dT (tzip ks ws)))
theorem OpN.mk {K : PySem.W.Frag} {r : List V → Hp → VK → Prop} {op : List D → (D → Prop) → Prop}
    (h : ∀ (G H : Hp) (ds : List D) (vs : List V) (F : List Addr) (Q : D → Prop) (Q' : VK), Sub G H → RpL K G H ds vs F → op ds Q → (∀ d v H', Nw K G H d v H' → Q d → Q' v H') → r vs H Q') : OpN K r op :=
  fun b σ H ε T Tv ds vs Q Q' hl hd I q k => by
    obtain ⟨G, F, Ft, J⟩ := I
    obtain ⟨F1, F2, rfl, r1, r2⟩ := J.temps.split2 hl
    have hl2 : (T ++ ds).length = (Tv ++ vs).length := by simp [hl, hd]
    refine h G H ds vs F2 Q Q' J.sub r2 q fun d v H' nw z => ?_
    cases nw with
    | val rd =>
      refine k d v H Sub.refl ⟨G, F, F1 ++ F2, ?_⟩ z
      have := J.push (d := d) (v := v) (rd G H Sub.refl)
      simpa only [List.append_assoc] using this
    | lst ry hp =>
      refine k _ _ _ (Sub.laid hp) ?_ z
      have := SI.laid (ds := _) (vs := _) ⟨G, F, F1 ++ F2, J.pushL ry⟩ hl2 hp (.lst _) (fun G H' F e r => (show Rp K G H' (.lst true _) _ _ from ⟨_, _, F, rfl, e, rfl, r⟩))
      simpa only [List.append_assoc] using this
    | tup ry hp =>
      refine k _ _ _ (Sub.laid hp) ?_ z
      have := SI.tup (ds := _) (vs := _) ⟨G, F, F1 ++ F2, J.pushL ry⟩ hl2 hp
      simpa only [List.append_assoc] using this
    | dK ry hp l n =>
      refine k _ _ _ (Sub.laid hp) ?_ z
      have := SI.laid (ds := _) (vs := _) ⟨G, F, F1 ++ F2, J.pushL ry⟩ hl2 hp (.dK _) (fun G H' F e r => (show Rp K G H' (.dK true _ _) _ _ from ⟨_, _, F, rfl, e, rfl, l, n, r⟩))
      simpa only [List.append_assoc] using this
    | dT ry hp l n =>
      refine k _ _ _ (Sub.laid hp) ?_ z
      have := SI.laid (ds := _) (vs := _) ⟨G, F, F1 ++ F2, J.pushL ry⟩ hl2 hp (.dT _) (fun G H' F e r => (show Rp K G H' (.dT true _ _) _ _ from ⟨_, _, F, rfl, e, rfl, l, n, r⟩))
      simpa only [List.append_assoc] using this
theorem kzip_len {ks : List Kc} {vs : List V} (h : ks.length = vs.length) : (kzip ks vs).length = vs.length := by
  unfold kzip; rw [List.length_zip, List.length_map, h, Nat.min_self]
theorem tzip_len {ks : List (List Kc)} {vs : List V} (h : ks.length = vs.length) : (tzip ks vs).length = vs.length := by
  unfold tzip; rw [List.length_zip, List.length_map, h, Nat.min_self]
def seqD : D → Option (List D)
  | .lst _ ds => some ds
  | .tup ds => some ds
  | _ => none
theorem Rp.seqD {K : PySem.W.Frag} {G H : Hp} (hs : Sub G H) {d : D} {v : V} {F : List Addr} {ds : List D} (r : Rp K G H d v F) (h : VL.seqD d = some ds) : ∃ p vs F', v = .ref p ∧ (SqL K H p vs ∨ SqT K H p vs) ∧ RpL K G H ds vs F' := by
  cases d with
  | lst m xs =>
    cases h
    cases m with
    | false => obtain ⟨a, vs, rfl, s, rfl, r⟩ := r; exact ⟨a, vs, _, rfl, .inl (hs.sqL s), r⟩
    | true => obtain ⟨a, vs, F', rfl, s, rfl, r⟩ := r; exact ⟨a, vs, _, rfl, .inl (SqL.of s), r⟩
  | tup xs =>
    cases h
    obtain ⟨a, vs, rfl, s, r⟩ := r
    exact ⟨a, vs, _, rfl, .inr (SqT.of (hs _ _ s)), r⟩
  | _ => cases h
def seqP : D → Option (List D)
  | .pin _ (.lst m ds) => some ds
  | d => seqD d
theorem Rp.seqP {K : PySem.W.Frag} {G H : Hp} (hs : Sub G H) {d : D} {v : V} {F : List Addr} {ds : List D} (r : Rp K G H d v F) (h : VL.seqP d = some ds) : ∃ p vs F', v = .ref p ∧ (SqL K H p vs ∨ SqT K H p vs) ∧ RpL K G H ds vs F' := by
  cases d with
  | pin u c =>
    obtain ⟨rfl, r⟩ := r
    cases c with
    | lst m xs =>
      cases h
      exact r.seqD hs rfl
    | _ => cases h
  | lst m xs => exact r.seqD hs h
  | tup xs => exact r.seqD hs h
  | _ => cases h
def lenD : D → Option Nat
  | .str s => if s.length < 1000000 then some s.length else none
  | .lst _ ds => some ds.length
  | .tup ds => some ds.length
  | .dK _ _ ds => some ds.length
  | .dT _ _ ds => some ds.length
  | _ => none
def sLen : List D → (D → Prop) → Prop := fun ds Q => ∃ x n, ds = [x] ∧ lenD x = some n ∧ Q (.int n)
def rLenA (K : PySem.W.Frag) : List V → Hp → VK → Prop := fun xs H Q => (∃ x n, xs = [x] ∧ LenV K x H n ∧ Q (.int n) H) ∨ (∃ a kvs, xs = [V.ref a] ∧ Rd H a (.dK kvs) ∧ Q (.int kvs.length) H) ∨ rLenT xs H Q
theorem call_lenR {X : Cx} : CallR X (.builtin "len") (fun xs H Q => ∃ a kvs, xs = [V.ref a] ∧ Rd H a (.dK kvs) ∧ Q (.int kvs.length) H) := by
  intro pins s σ H xs us Q I r h
  obtain ⟨a, kvs, rfl, e, q⟩ := h
  obtain ⟨u, rfl, ru⟩ := vals1 r
  cases ru
  exact d_len I e fun t s' J => ⟨.int kvs.length, H, J, ⟨t, rfl⟩, q⟩
theorem call_lenA {X : Cx} : CallR X (.builtin "len") (rLenA X.K) := CallR.or call_len (CallR.or call_lenR call_len_dT)
theorem toS_len (s : Cs) : (toS s).length = s.length := by
  show (toS s).cps.size = s.length
  simp [toS]
theorem opn_len {K : PySem.W.Frag} : OpN K (rLenA K) sLen := OpN.pure fun G H ds vs F Q Q' hs r q k => by
  obtain ⟨x, n, rfl, hn, q⟩ := q
  obtain ⟨v, rfl, rx⟩ := r.one'
  have fin : Q' (.int n) H := k (.int n) _ (fun _ _ _ => ⟨rfl, rfl⟩) q
  cases x with
  | str s =>
    obtain ⟨rfl, _⟩ := rx
    by_cases hz : s.length < 1000000
    · have hn : (if s.length < 1000000 then some s.length else none) = some n := hn
      rw [if_pos hz] at hn
      cases hn
      exact .inl ⟨_, s.length, rfl, ⟨by rw [toS_len]; exact Nat.le_of_lt (k1m hz), (toS_len s).symm⟩, fin⟩
    · have hn : (if s.length < 1000000 then some s.length else none) = some n := hn
      rw [if_neg hz] at hn
      cases hn
  | lst m xs =>
    cases hn
    obtain ⟨p, us, F', rfl, hq, rl⟩ := rx.seqD hs rfl
    rw [rl.len] at fin
    refine .inl ⟨_, us.length, rfl, ?_, fin⟩
    rcases hq with hq | hq
    · exact .inl ⟨us, hq, rfl⟩
    · exact .inr ⟨us, hq, rfl⟩
  | tup xs =>
    cases hn
    obtain ⟨p, us, F', rfl, hq, rl⟩ := rx.seqD hs rfl
    rw [rl.len] at fin
    refine .inl ⟨_, us.length, rfl, ?_, fin⟩
    rcases hq with hq | hq
    · exact .inl ⟨us, hq, rfl⟩
    · exact .inr ⟨us, hq, rfl⟩
  | dK m ks xs =>
    cases hn
    have : ∃ a us F', v = .ref a ∧ Rd H a (.dK (kzip ks us)) ∧ ks.length = xs.length ∧ RpL K G H xs us F' := by
      cases m with
      | false => obtain ⟨a, us, e, s, _, l, _, r⟩ := rx; exact ⟨a, us, _, e, hs.rd s, l, r⟩
      | true => obtain ⟨a, us, F', e, s, _, l, _, r⟩ := rx; exact ⟨a, us, _, e, .inl s, l, r⟩
    obtain ⟨a, us, F', rfl, e, l, rl⟩ := this
    refine .inr (.inl ⟨a, _, rfl, e, ?_⟩)
    rw [kzip_len (l.trans rl.len), ← rl.len]
    exact fin
  | dT m ks xs =>
    cases hn
    have : ∃ a us F', v = .ref a ∧ H a = some (.dT (tzip ks us)) ∧ ks.length = xs.length ∧ RpL K G H xs us F' := by
      cases m with
      | false => obtain ⟨a, us, e, s, _, l, _, r⟩ := rx; exact ⟨a, us, _, e, hs _ _ s, l, r⟩
      | true => obtain ⟨a, us, F', e, s, _, l, _, r⟩ := rx; exact ⟨a, us, _, e, s, l, r⟩
    obtain ⟨a, us, F', rfl, e, l, rl⟩ := this
    refine .inr (.inr ⟨a, _, rfl, e, ?_⟩)
    rw [tzip_len (l.trans rl.len), ← rl.len]
    exact fin
  | _ => cases hn
def rIxD : R2 := fun x y H Q => ∃ a v, x = .ref a ∧ DGet H a y (some v) ∧ Q v H
theorem ix_dict {X : Cx} (hu : X.A.units + 1 < cLine) : IxR X rIxD := by
  intro value slice pins s σ H x y v u Q I rx ry h hs
  obtain ⟨a, z, rfl, g, q⟩ := h
  obtain rfl : v = Value.ref a := rx
  exact tail_any (dict_typeIs I g) slot_dict_getitem.lookup (d_getItem hu I g ry fun w' s' I' rw' => ⟨z, H, I', rw', q⟩) hs
def rIxA (K : PySem.W.Frag) : R2 := fun x y H Q => rIx K x y H Q ∨ rIxD x y H Q
theorem ix_any {X : Cx} {k : Nat} (hr : Room k X.A) : IxR X (rIxA X.K) := ix_seq.or (ix_dict (by have := hr.units; omega))
/-- a subscript: the item, which stands still -/
def ixD : D → D → Option D
  | .str s, .int i => if s.length < 1000000 then (ixN s.length i).bind fun j => (s[j]?).map fun c => .str [c] else none
  | c, k => getD c k
def sIx : List D → (D → Prop) → Prop := fun ds Q => ∃ c k d, ds = [c, k] ∧ ixD c k = some d ∧ isFz d = true ∧ Q d
theorem RpL.at {K : PySem.W.Frag} {G H : Hp} {ds : List D} {vs : List V} {F : List Addr} {j : Nat} {d : D} (r : RpL K G H ds vs F) (h : ds[j]? = some d) (z : isFz d = true) : ∃ v, vs[j]? = some v ∧ Rp K G H d v [] := by
  obtain ⟨v, A, B, C, hv, rfl, rv, _⟩ := r.focus h
  have := rv.fz z
  subst this
  exact ⟨v, hv, rv⟩
theorem Rp.fzUp {K : PySem.W.Frag} {G H G' H' : Hp} {d : D} {v : V} (r : Rp K G H d v []) (s : Sub G G') : Rp K G' H' d v [] := r.mono s fun _ z => nomatch z
theorem getD_run {K : PySem.W.Frag} {G H : Hp} (hs : Sub G H) {c k d : D} {v w : V} {F1 F2 : List Addr} (rc : Rp K G H c v F1) (rk : Rp K G H k w F2) (h : getD c k = some d) (z : isFz d = true) :
    ∃ u, Rp K G H d u [] ∧ ∀ Q : VK, Q u H → rIxA K v w H Q := by
  have seq : ∀ (ds : List D) (i : Int), VL.seqP c = some ds → k = .int i → ((ixN ds.length i).bind fun j => ds[j]?) = some d → ∃ u, Rp K G H d u [] ∧ ∀ Q : VK, Q u H → rIxA K v w H Q := by
    intro ds i e1 e2 e3
    subst e2
    obtain ⟨p, vs, F', rfl, hq, rl⟩ := rc.seqP hs e1
    obtain ⟨rfl, _⟩ := rk
    cases hj : ixN ds.length i with
    | none => rw [hj] at e3; cases e3
    | some j =>
      rw [hj] at e3
      have e3 : ds[j]? = some d := e3
      obtain ⟨u, hu, ru⟩ := rl.at e3 z
      have ha : atI vs i = some u := by
        unfold atI
        rw [← rl.len, hj]
        exact hu
      refine ⟨u, ru, fun Q q => ?_⟩
      rcases hq with hq | hq
      · exact .inl (.inl ⟨p, vs, i, u, rfl, rfl, hq, ha, q⟩)
      · exact .inl (.inr (.inl ⟨p, vs, i, u, rfl, rfl, hq, ha, q⟩))
  cases c with
  | lst m ds => cases k <;> first | exact seq ds _ rfl rfl h | cases h
  | pin u c1 =>
    cases c1 with
    | lst m ds => cases k <;> first | exact seq ds _ rfl rfl h | cases h
    | _ => cases h
  | tup ds => cases k <;> first | exact seq ds _ rfl rfl h | cases h
  | dK m ks xs =>
    have : ∃ a us F', v = .ref a ∧ Rd H a (.dK (kzip ks us)) ∧ ks.length = xs.length ∧ RpL K G H xs us F' := by
      cases m with
      | false => obtain ⟨a, us, e, s, _, l, _, r⟩ := rc; exact ⟨a, us, _, e, hs.rd s, l, r⟩
      | true => obtain ⟨a, us, F', e, s, _, l, _, r⟩ := rc; exact ⟨a, us, _, e, .inl s, l, r⟩
    obtain ⟨a, us, F', rfl, e, l, rl⟩ := this
    have h : ((keyD k).bind fun k => (kIx ks k).bind fun j => xs[j]?) = some d := h
    cases hk : keyD k with
    | none => rw [hk] at h; cases h
    | some k0 =>
      rw [hk] at h
      have h : ((kIx ks k0).bind fun j => xs[j]?) = some d := h
      cases hj : kIx ks k0 with
      | none => rw [hj] at h; cases h
      | some j =>
        rw [hj] at h
        obtain ⟨u, hu, ru⟩ := rl.at h z
        obtain ⟨rfl, _⟩ := rk.keyD hk
        refine ⟨u, ru, fun Q q => .inr ⟨a, u, rfl, ?_, q⟩⟩
        have : DGet H a (kV (kc k0)) (valV (kzip ks us) (kc k0)) := .inl ⟨_, _, e, rfl, rfl⟩
        rw [kzip_val (l.trans rl.len), hj] at this
        have e5 : ((some j).bind fun j => us[j]?) = some u := hu
        rw [e5] at this
        exact this
  | dT m ks xs =>
    have : ∃ a us F', v = .ref a ∧ H a = some (.dT (tzip ks us)) ∧ ks.length = xs.length ∧ RpL K G H xs us F' := by
      cases m with
      | false => obtain ⟨a, us, e, s, _, l, _, r⟩ := rc; exact ⟨a, us, _, e, hs _ _ s, l, r⟩
      | true => obtain ⟨a, us, F', e, s, _, l, _, r⟩ := rc; exact ⟨a, us, _, e, s, l, r⟩
    obtain ⟨a, us, F', rfl, e, l, rl⟩ := this
    have h : ((keyT k).bind fun k => (kIx ks k).bind fun j => xs[j]?) = some d := h
    cases hk : keyT k with
    | none => rw [hk] at h; cases h
    | some k0 =>
      rw [hk] at h
      have h : ((kIx ks k0).bind fun j => xs[j]?) = some d := h
      cases hj : kIx ks k0 with
      | none => rw [hj] at h; cases h
      | some j =>
        rw [hj] at h
        obtain ⟨u, hu, ru⟩ := rl.at h z
        obtain ⟨kb, rfl, hkb, _⟩ := rk.keyT hs hk
        refine ⟨u, ru, fun Q q => .inr ⟨a, u, rfl, ?_, q⟩⟩
        have := DGet.t (k := tkc k0) e hkb
        rw [tzip_val (l.trans rl.len), hj] at this
        have e5 : ((some j).bind fun j => us[j]?) = some u := hu
        rw [e5] at this
        exact this
  | _ => cases h
theorem opn_ix {K : PySem.W.Frag} : OpN K (r2N (rIxA K)) sIx := OpN.pure fun G H ds vs F Q Q' hs r q k => by
  obtain ⟨c, kk, d, rfl, hd, hz, q⟩ := q
  obtain ⟨v, w, F1, F2, rfl, rc, rk⟩ := r.two
  refine ⟨v, w, rfl, ?_⟩
  have gen : getD c kk = some d → rIxA K v w H Q' := fun h => by
    obtain ⟨u, ru, go⟩ := getD_run hs rc rk h hz
    exact go Q' (k d u (fun G' H' s => ru.fzUp s) q)
  cases c with
  | str s =>
    cases kk with
    | int i =>
      have hd : (if s.length < 1000000 then (ixN s.length i).bind fun j => (s[j]?).map fun c => D.str [c] else none) = some d := hd
      by_cases hl : s.length < 1000000
      · rw [if_pos hl] at hd
        cases hj : ixN s.length i with
        | none => rw [hj] at hd; cases hd
        | some j =>
          rw [hj] at hd
          have hd : (s[j]?).map (fun c => D.str [c]) = some d := hd
          cases hc : s[j]? with
          | none => rw [hc] at hd; cases hd
          | some c =>
            rw [hc] at hd
            cases hd
            obtain ⟨rfl, _⟩ := rc
            obtain ⟨rfl, _⟩ := rk
            refine .inl (.inr (.inr ⟨toS s, i, c, rfl, rfl, by rw [toS_len]; exact Nat.le_of_lt (k1m hl), ?_, k (.str [c]) _ (fun _ _ _ => ⟨rfl, rfl⟩) q⟩))
            unfold atI
            have e1 : (toS s).cps.toList = s := by simp [toS]
            rw [e1, hj]
            exact hc
      · rw [if_neg hl] at hd; cases hd
    | _ => cases hd
  | _ => exact gen hd
section
variable {X : Cv}
theorem ve_ix {a bb : Expr} {ra rb : Option Nat} {ta tb : VTE} {pos : Pos} {k : Nat} (hr : Room k X.A) (ha : VG X a ra ta) (hb : VG X bb rb tb) (hs : PlainIx bb) : VE X (.Subscript a bb pos) (vOp sIx [ra, rb] (va2 ta tb)) := by
  obtain ⟨ta', tb', h1, h2, h3⟩ := two_args ha hb
  refine ⟨fun W => tOp (rIxA X.K) (ta' W) (tb' W), fun W tk => pe_ix (ix_any hr) (h1 W tk) (h2 W tk) hs, fun b σ H ε T Tv W N Q Q' I q k x => ?_⟩
  exact h3 b σ H ε T Tv W N _ _ I q (fun x y v w ε' H' J hv hw z => two_run opn_ix I.lenT J hv hw z k) x
theorem vq_ix {a bb : Expr} {ta tb : VTE} {pos : Pos} {k : Nat} (hr : Room k X.A) (ha : VQ X a ta) (hb : VQ X bb tb) (hs : PlainIx bb) : VQ X (.Subscript a bb pos) (vOpQ sIx (va2 ta tb)) := by
  obtain ⟨ta', a1, a2⟩ := ha.ex
  obtain ⟨tb', b1, b2⟩ := hb.ex
  refine ⟨fun W => tOp (rIxA X.K) (ta' W) (tb' W), fun W tk => pe_ix (ix_any hr) (a1 W tk) (b1 W tk) hs, fun b σ H ε T Tv W N Q Q' I q k x => ?_⟩
  refine a2 b σ H ε T Tv W N _ _ I q (fun d v ε1 H1 s1 J q1 => ?_) x
  refine b2 b σ H1 ε1 (T ++ [d]) (Tv ++ [v]) W N _ _ J q1 (fun d2 w ε2 H2 s2 J2 q2 => ?_) (x.more I.lenT rfl)
  obtain ⟨v', w', e, z⟩ := opn_ix.runQ (ds := [d, d2]) (vs := [v, w]) I.lenT rfl (s1.trans s2) (by simpa only [List.append_assoc, List.cons_append, List.nil_append] using J2) q2 k
  obtain ⟨rfl, e2⟩ := List.cons.inj e
  obtain ⟨rfl, _⟩ := List.cons.inj e2
  exact z
end
end VL
namespace VL
open PySem PySem.Spec PyProof.Rows L2 VL
def flatD : D → Bool
  | .non => true
  | .bl _ => true
  | .int _ => true
  | .str _ => true
  | _ => false
/-- whether x is in c, where it can be told -/
def memD (x : D) : D → Option Bool
  | .lst m ys => if flatD x && ys.all flatD then some (ys.any fun y => deq y x) else if okD 64 x && okD 64 (.lst m ys) then some (ys.any fun y => deq y x) else none
  | .tup ys => if flatD x && ys.all flatD then some (ys.any fun y => deq y x) else none
  | .dK _ ks _ => (keyD x).map fun k => (kIx ks k).isSome
  | .dT _ ks _ => (keyT x).map fun k => (kIx ks k).isSome
  | .str s => match x with | .str [c] => some (decide (c ∈ s)) | _ => none
  | _ => none
section
variable {K : PySem.W.Frag} {G H : Hp}
theorem Rp.flat {x : D} {v : V} {F : List Addr} (h : flatD x = true) (r : Rp K G H x v F) : flatV v = true := by
  cases x <;> first | (exfalso; revert h; simp [flatD]; done) | (obtain ⟨rfl, _⟩ := r; rfl)
theorem Rp.flatEq {x y : D} {v w : V} {F F' : List Addr} (hx : flatD x = true) (hy : flatD y = true) (r : Rp K G H x v F) (q : Rp K G H y w F') : eqV v w = deq x y := by
  cases x <;> cases y <;> first
    | (exfalso; revert hx; simp [flatD]; done)
    | (exfalso; revert hy; simp [flatD]; done)
    | (obtain ⟨rfl, _⟩ := r
       obtain ⟨rfl, _⟩ := q
       first | rfl | exact toS_beq _ _)
theorem RpL.flat : ∀ {ds : List D} {vs : List V} {F : List Addr}, ds.all flatD = true → RpL K G H ds vs F → vs.all flatV = true ∧ ∀ {x : D} {v : V} {F' : List Addr}, flatD x = true → Rp K G H x v F' → inV v vs = ds.any fun y => deq y x
  | [], vs, F, h, r => by
    obtain ⟨rfl, _⟩ := r
    exact ⟨rfl, fun _ _ => rfl⟩
  | d :: ds, vs, F, h, r => by
    obtain ⟨v, vs', F1, F2, rfl, rfl, rd, rs⟩ := r
    rw [List.all_cons, Bool.and_eq_true] at h
    obtain ⟨i1, i2⟩ := RpL.flat h.2 rs
    refine ⟨by rw [List.all_cons, rd.flat h.1, i1]; rfl, fun hx rx => ?_⟩
    show (eqV v _ || inV _ vs') = _
    rw [List.any_cons, rd.flatEq h.1 hx rx, i2 hx rx]
theorem any_pd {x : D} (hx : okD 64 x = true) : ∀ {n : Nat} {ys : List D}, okDL n ys = true → ((pdL ys).any fun z => PyData.eqv z (pd x)) = ys.any fun y => deq y x
  | n, [], _ => rfl
  | n, y :: ys, h => by
    obtain ⟨a1, a2⟩ := Bool.and_eq_true_iff.mp (show (okD n y && okDL n ys) = true by simpa [okDL] using h)
    show (PyData.eqv (pd y) (pd x) || _) = _
    rw [List.any_cons, deq_pd a1 hx, any_pd hx a2]
def rInX (K : PySem.W.Frag) (neg : Bool) : R2 := fun x y H Q => rIn K neg x y H Q ∨ (if neg then rNotInD K x y H Q else rInD K x y H Q) ∨ (∃ (c : Nat) (z : Str), x = .str ⟨#[c]⟩ ∧ y = .str z ∧ Q (.bl (if neg then !decide (c ∈ z.cps.toList) else decide (c ∈ z.cps.toList))) H) ∨
  ∃ a o, y = .ref a ∧ DGet H a x o ∧ Q (.bl (if neg then !o.isSome else o.isSome)) H
theorem opr_in {X : Cx} {k : Nat} (hr : Room k X.A) : OpR X (compareOp .In) (rInX X.K false) := by
  refine OpR.or op_in_seq (OpR.or (op_inD (by have := hr.un; omega)) (OpR.or op_in_sign ?_))
  intro pins s σ H x y v u Q I rx ry h
  obtain ⟨a, o, rfl, g, q⟩ := h
  obtain rfl : u = Value.ref a := ry
  exact d_in (by have := hr.units; omega) I g rx fun s' I' => ⟨.bl o.isSome, H, I', rfl, q⟩
theorem opr_notIn {X : Cx} {k : Nat} (hr : Room k X.A) : OpR X (compareOp .NotIn) (rInX X.K true) := by
  refine OpR.or op_notIn_seq (OpR.or (op_notInD (by have := hr.un; omega)) (OpR.or op_notIn_sign ?_))
  intro pins s σ H x y v u Q I rx ry h
  obtain ⟨a, o, rfl, g, q⟩ := h
  obtain rfl : u = Value.ref a := ry
  exact d_notIn (by have := hr.units; omega) I g rx fun s' I' => ⟨.bl (!o.isSome), H, I', rfl, q⟩
def sIn (neg : Bool) : List D → (D → Prop) → Prop := fun ds Q => ∃ x c r, ds = [x, c] ∧ memD x c = some r ∧ Q (.bl (if neg then !r else r))
theorem mem_run (hs : Sub G H) {neg : Bool} {x c : D} {v w : V} {F1 F2 : List Addr} {r : Bool} {Q' : VK} (rx : Rp K G H x v F1) (rc : Rp K G H c w F2) (h : memD x c = some r) (q : Q' (.bl (if neg then !r else r)) H) : rInX K neg v w H Q' := by
  have flatS : ∀ ys, VL.seqD c = some ys → flatD x = true → ys.all flatD = true → (ys.any fun y => deq y x) = r → rInX K neg v w H Q' := by
    intro ys e hx hy e2
    obtain ⟨p, vs, F', rfl, hq, rl⟩ := rc.seqD hs e
    obtain ⟨i1, i2⟩ := rl.flat hy
    refine .inl ⟨p, vs, rfl, hq, rx.flat hx, i1, ?_⟩
    rw [i2 hx rx, e2]
    exact q
  cases c with
  | lst m ys =>
    have h : (if (flatD x && ys.all flatD) = true then some (ys.any fun y => deq y x) else if (okD 64 x && okD 64 (.lst m ys)) = true then some (ys.any fun y => deq y x) else none) = some r := h
    by_cases h1 : (flatD x && ys.all flatD) = true
    · rw [if_pos h1] at h
      obtain ⟨a1, a2⟩ := Bool.and_eq_true_iff.mp h1
      exact flatS ys rfl a1 a2 (Option.some.inj h)
    · rw [if_neg h1] at h
      by_cases h2 : (okD 64 x && okD 64 (.lst m ys)) = true
      · rw [if_pos h2] at h
        cases h
        obtain ⟨a1, a2⟩ := Bool.and_eq_true_iff.mp h2
        refine .inr (.inl ?_)
        have e3 : ((pdL ys).any fun z => PyData.eqv z (pd x)) = ys.any fun y => deq y x := any_pd a1 (n := 63) (by simpa [okD] using a2)
        cases neg with
        | true => exact ⟨pd x, pdL ys, rx.dp hs a1, rc.dp hs a2, shp a1, shp a2, by rw [e3]; exact q⟩
        | false => exact ⟨pd x, pdL ys, rx.dp hs a1, rc.dp hs a2, shp a1, shp a2, by rw [e3]; exact q⟩
      · rw [if_neg h2] at h; cases h
  | tup ys =>
    have h : (if (flatD x && ys.all flatD) = true then some (ys.any fun y => deq y x) else none) = some r := h
    by_cases h1 : (flatD x && ys.all flatD) = true
    · rw [if_pos h1] at h
      obtain ⟨a1, a2⟩ := Bool.and_eq_true_iff.mp h1
      exact flatS ys rfl a1 a2 (Option.some.inj h)
    · rw [if_neg h1] at h; cases h
  | str s =>
    cases x with
    | str cs =>
      match cs, h with
      | [c], h =>
        have h : some (decide (c ∈ s)) = some r := h
        cases h
        obtain ⟨rfl, _⟩ := rx
        obtain ⟨rfl, _⟩ := rc
        refine .inr (.inr (.inl ⟨c, toS s, rfl, rfl, ?_⟩))
        have e1 : (toS s).cps.toList = s := by simp [toS]
        rw [e1]
        exact q
    | _ => cases h
  | dK m ks xs =>
    have : ∃ a us F', w = .ref a ∧ Rd H a (.dK (kzip ks us)) ∧ ks.length = xs.length ∧ RpL K G H xs us F' := by
      cases m with
      | false => obtain ⟨a, us, e, s, _, l, _, r⟩ := rc; exact ⟨a, us, _, e, hs.rd s, l, r⟩
      | true => obtain ⟨a, us, F', e, s, _, l, _, r⟩ := rc; exact ⟨a, us, _, e, .inl s, l, r⟩
    obtain ⟨a, us, F', rfl, e, l, rl⟩ := this
    have h : ((keyD x).map fun k => (kIx ks k).isSome) = some r := h
    cases hk : keyD x with
    | none => rw [hk] at h; cases h
    | some k0 =>
      rw [hk] at h
      cases h
      obtain ⟨rfl, _⟩ := rx.keyD hk
      refine .inr (.inr (.inr ⟨a, _, rfl, (.inl ⟨_, kc k0, e, rfl, rfl⟩ : DGet H a (kV (kc k0)) _), ?_⟩))
      rw [kzip_val (l.trans rl.len)]
      have e5 : ((kIx ks k0).bind fun j => us[j]?).isSome = (kIx ks k0).isSome := by
        cases hj : kIx ks k0 with
        | none => rfl
        | some j =>
          have := kIx_lt hj
          have : j < us.length := by rw [← rl.len, ← l]; exact this
          simp [this]
      rw [e5]
      exact q
  | dT m ks xs =>
    have : ∃ a us F', w = .ref a ∧ H a = some (.dT (tzip ks us)) ∧ ks.length = xs.length ∧ RpL K G H xs us F' := by
      cases m with
      | false => obtain ⟨a, us, e, s, _, l, _, r⟩ := rc; exact ⟨a, us, _, e, hs _ _ s, l, r⟩
      | true => obtain ⟨a, us, F', e, s, _, l, _, r⟩ := rc; exact ⟨a, us, _, e, s, l, r⟩
    obtain ⟨a, us, F', rfl, e, l, rl⟩ := this
    have h : ((keyT x).map fun k => (kIx ks k).isSome) = some r := h
    cases hk : keyT x with
    | none => rw [hk] at h; cases h
    | some k0 =>
      rw [hk] at h
      cases h
      obtain ⟨kb, rfl, hkb, _⟩ := rx.keyT hs hk
      refine .inr (.inr (.inr ⟨a, _, rfl, DGet.t (k := tkc k0) e hkb, ?_⟩))
      rw [tzip_val (l.trans rl.len)]
      have e5 : ((kIx ks k0).bind fun j => us[j]?).isSome = (kIx ks k0).isSome := by
        cases hj : kIx ks k0 with
        | none => rfl
        | some j =>
          have := kIx_lt hj
          have : j < us.length := by rw [← rl.len, ← l]; exact this
          simp [this]
      rw [e5]
      exact q
  | _ => cases h
theorem opn_in {neg : Bool} : OpN K (r2N (rInX K neg)) (sIn neg) := OpN.pure fun G H ds vs F Q Q' hs r q k => by
  obtain ⟨x, c, z, rfl, hz, q⟩ := q
  obtain ⟨v, w, F1, F2, rfl, rx, rc⟩ := r.two
  exact ⟨v, w, rfl, mem_run hs rx rc hz (k (.bl _) _ (fun _ _ _ => ⟨rfl, rfl⟩) q)⟩
end
/-- list + list, any two that are read -/
def rCatR (K : PySem.W.Frag) : R2 := fun x y H Q => ∃ l c xs zs, x = .ref l ∧ y = .ref c ∧ SqL K H l xs ∧ SqL K H c zs ∧ xs.length + zs.length ≤ sizeLine ∧ ∀ p, H p = none → Q (.ref p) (upd H p (.lst (xs ++ zs)))
theorem op_catR {X : Cx} : OpR X (binaryOp .Add) (rCatR X.K) := by
  intro pins s σ H x y v u Q I rx ry h
  obtain ⟨l, c, xs, zs, rfl, rfl, hx, hy, hz, q⟩ := h
  cases rx
  cases ry
  obtain ⟨its, r, pl, hl⟩ := I.list hx
  obtain ⟨its2, r2, pl2, hl2⟩ := I.list hy
  obtain ⟨⟨cls, dd, data, sl⟩, ho, hc, n, hd⟩ := pl.isList
  obtain ⟨⟨cls2, dd2, data2, sl2⟩, ho2, hc2, n2, hd2⟩ := pl2.isList
  simp only at hc hd hc2 hd2
  subst hc hd hc2 hd2
  have e : its.toArray ++ its2.toArray = (its ++ its2).toArray := by simp
  refine concat_meets ⟨_, ho, rfl⟩ ⟨_, ho2, rfl⟩ noFill_list_add seq_list_add PySem.F.slot_list_add PySem.F.entry_list_add (PySem.F.args_list_add_2 _ _) (list_addW l c its.toArray its2.toArray n n2 dd dd2 sl sl2 (by have := r.length; have := r2.length; simp only [List.size_toArray]; omega)) ⟨ho, ho2, ?_⟩
  rw [e]
  refine ⟨.ref s.heap.objs.size, _, I.laid (t' := s.toks) (o := .lst (xs ++ zs)) (fun b ob q => Heap.get?_push_of_some _ q) (Nat.le_refl _) ?_, rfl, q _ (I.hok.fresh (Nat.le_refl _))⟩
  exact ⟨by rw [List.length_append]; exact hz, its ++ its2, 0, r.append r2, Heap.get?_push_size _ rfl⟩
end VL
namespace VL
open PySem PySem.Spec PyProof.Rows L2 VL
section
variable {K : PySem.W.Frag} {G H : Hp}
theorem toS_app (s t : Cs) : toS s ++ toS t = toS (s ++ t) := by
  show (⟨(toS s).cps ++ (toS t).cps⟩ : Str) = _
  simp [toS]
theorem nwI (i : Int) : Nw K G H (.int i) (.int i) H := .val fun _ _ _ => ⟨rfl, rfl⟩
theorem nwB (c : Bool) : Nw K G H (.bl c) (.bl c) H := .val fun _ _ _ => ⟨rfl, rfl⟩
theorem nwS (s : Cs) : Nw K G H (.str s) (.str (toS s)) H := .val fun _ _ _ => ⟨rfl, rfl⟩
/-- x + y -/
def addD : D → D → Option D
  | .int i, .int j => some (.int (i + j))
  | .str s, .str t => if s.length + t.length < 1000000 then some (.str (s ++ t)) else none
  | .lst _ xs, .lst _ ys => if (isFzL xs && isFzL ys) = true then (if xs.length + ys.length < 1000000 then some (.lst true (xs ++ ys)) else none) else none
  | .tup xs, .tup ys => if (isFzL xs && isFzL ys) = true then (if xs.length + ys.length < 1000000 then some (.tup (xs ++ ys)) else none) else none
  | _, _ => none
def rAddA (K : PySem.W.Frag) : R2 := fun x y H Q => rI0 (fun i j => .int (i + j)) x y H Q ∨ (∃ i j, x = .str i ∧ y = .str j ∧ i.length + j.length ≤ sizeLine ∧ Q (.str (i ++ j)) H) ∨ rCatR K x y H Q ∨ rCatA K x y H Q
theorem opr_add {X : Cx} : OpR X (binaryOp .Add) (rAddA X.K) := OpR.or op_add (OpR.or op_add_str (OpR.or op_catR op_catA))
def sAdd : List D → (D → Prop) → Prop := fun ds Q => ∃ x y d, ds = [x, y] ∧ addD x y = some d ∧ Q d
theorem opn_add : OpN K (r2N (rAddA K)) sAdd := OpN.mk fun G H ds vs F Q Q' hs r q k => by
  obtain ⟨x, y, d, rfl, h, q⟩ := q
  obtain ⟨v, w, F1, F2, rfl, rx, ry⟩ := r.two
  refine ⟨v, w, rfl, ?_⟩
  cases x with
  | int i =>
    cases y with
    | int j =>
      cases h
      obtain ⟨rfl, _⟩ := rx
      obtain ⟨rfl, _⟩ := ry
      exact .inl ⟨i, j, rfl, rfl, k _ _ _ (nwI _) q⟩
    | _ => cases h
  | str s =>
    cases y with
    | str t =>
      have h : (if s.length + t.length < 1000000 then some (D.str (s ++ t)) else none) = some d := h
      by_cases hz : s.length + t.length < 1000000
      · rw [if_pos hz] at h
        cases h
        obtain ⟨rfl, _⟩ := rx
        obtain ⟨rfl, _⟩ := ry
        refine .inr (.inl ⟨_, _, rfl, rfl, by rw [toS_len, toS_len]; exact Nat.le_of_lt (k1m hz), ?_⟩)
        rw [toS_app]
        exact k _ _ _ (nwS _) q
      · rw [if_neg hz] at h; cases h
    | _ => cases h
  | lst m xs =>
    cases y with
    | lst m2 ys =>
      have h : (if (isFzL xs && isFzL ys) = true then (if xs.length + ys.length < 1000000 then some (D.lst true (xs ++ ys)) else none) else none) = some d := h
      by_cases hf : (isFzL xs && isFzL ys) = true
      · rw [if_pos hf] at h
        by_cases hz : xs.length + ys.length < 1000000
        · rw [if_pos hz] at h
          cases h
          obtain ⟨f1, f2⟩ := Bool.and_eq_true_iff.mp hf
          have hx : ∃ a us, v = .ref a ∧ SqL K H a us ∧ RpL K G H xs us [] := by
            cases m with
            | false => obtain ⟨a, us, e, s, _, r⟩ := rx; exact ⟨a, us, e, hs.sqL s, r⟩
            | true => obtain ⟨a, us, F', e, s, _, r⟩ := rx; have := r.fz f1; subst this; exact ⟨a, us, e, SqL.of s, r⟩
          have hy : ∃ a us, w = .ref a ∧ SqL K H a us ∧ RpL K G H ys us [] := by
            cases m2 with
            | false => obtain ⟨a, us, e, s, _, r⟩ := ry; exact ⟨a, us, e, hs.sqL s, r⟩
            | true => obtain ⟨a, us, F', e, s, _, r⟩ := ry; have := r.fz f2; subst this; exact ⟨a, us, e, SqL.of s, r⟩
          obtain ⟨a, us, rfl, s1, r1⟩ := hx
          obtain ⟨a2, us2, rfl, s2, r2⟩ := hy
          refine .inr (.inr (.inl ⟨a, a2, us, us2, rfl, rfl, s1, s2, by rw [← r1.len, ← r2.len]; exact Nat.le_of_lt (k1m hz), fun p hp => k _ _ _ (.lst (by simpa using r1.append r2) hp) q⟩))
        · rw [if_neg hz] at h; cases h
      · rw [if_neg hf] at h; cases h
    | _ => cases h
  | tup xs =>
    cases y with
    | tup ys =>
      have h : (if (isFzL xs && isFzL ys) = true then (if xs.length + ys.length < 1000000 then some (D.tup (xs ++ ys)) else none) else none) = some d := h
      by_cases hf : (isFzL xs && isFzL ys) = true
      · rw [if_pos hf] at h
        by_cases hz : xs.length + ys.length < 1000000
        · rw [if_pos hz] at h
          cases h
          obtain ⟨f1, f2⟩ := Bool.and_eq_true_iff.mp hf
          obtain ⟨a, us, rfl, s1, r1⟩ := rx
          obtain ⟨a2, us2, rfl, s2, r2⟩ := ry
          have := r1.fz f1; subst this
          have := r2.fz f2; subst this
          have n1 : us = [] → xs = [] := fun z => by have := r1.len; subst z; simpa using this
          have n2 : us2 = [] → ys = [] := fun z => by have := r2.len; subst z; simpa using this
          refine .inr (.inr (.inr ⟨a, a2, us, us2, rfl, rfl, SqT.of (hs _ _ s1), SqT.of (hs _ _ s2), by rw [← r1.len, ← r2.len]; exact Nat.le_of_lt (k1m hz), fun z => ?_, fun z z2 => ?_, fun _ _ p hp => k _ _ _ (.tup (by simpa using r1.append r2) hp) q⟩))
          · have := n1 z
            subst this
            exact k (.tup ys) _ _ (.val fun G' H' s => ⟨a2, us2, rfl, s _ _ s2, r2.mono s fun _ z => nomatch z⟩) q
          · have := n2 z2
            subst this
            refine k _ _ _ (.val fun G' H' s => ?_) q
            rw [List.append_nil]
            exact ⟨a, us, rfl, s _ _ s1, r1.mono s fun _ z => nomatch z⟩
        · rw [if_neg hz] at h; cases h
      · rw [if_neg hf] at h; cases h
    | _ => cases h
  | _ => cases h
def rMulA : R2 := fun x y H Q => rI CMl (fun i j => .int (i * j)) x y H Q ∨ rRep x y H Q
theorem opr_mulA {X : Cx} : OpR X (binaryOp .Mult) rMulA := OpR.or opr_mul op_rep
/-- x * y: ints, or a list of our own that is repeated -/
def sMul : List D → (D → Prop) → Prop := fun ds Q => (∃ i j, ds = [.int i, .int j] ∧ CMl i j ∧ Q (.int (i * j))) ∨
  ∃ xs n, ds = [.lst true xs, .int n] ∧ isFzL xs = true ∧ n < 1000000 ∧ xs.length * n.toNat < 1000000 ∧ -1000000 < n ∧ Q (.lst true (List.replicate n.toNat xs).flatten)
theorem RpL.rep {xs : List D} {us : List V} (r : RpL K G H xs us []) : ∀ n : Nat, RpL K G H (List.replicate n xs).flatten (List.replicate n us).flatten []
  | 0 => ⟨rfl, rfl⟩
  | n + 1 => by
    rw [List.replicate_succ, List.replicate_succ, List.flatten_cons, List.flatten_cons]
    have := r.append (RpL.rep r n)
    simpa using this
theorem opn_mul : OpN K (r2N rMulA) sMul := OpN.mk fun G H ds vs F Q Q' hs r q k => by
  rcases q with ⟨i, j, rfl, hc, q⟩ | ⟨xs, n, rfl, f1, h1, h2, h3, q⟩
  · obtain ⟨v, w, F1, F2, rfl, ⟨rfl, _⟩, ⟨rfl, _⟩⟩ := r.two
    exact ⟨_, _, rfl, .inl ⟨i, j, rfl, rfl, hc, k _ _ _ (nwI _) q⟩⟩
  · obtain ⟨v, w, F1, F2, rfl, rx, ⟨rfl, _⟩⟩ := r.two
    obtain ⟨a, us, F', rfl, s, rfl, r⟩ := rx
    have := r.fz f1; subst this
    refine ⟨_, _, rfl, .inr ⟨a, n, us, rfl, rfl, s, by omega, by omega, by rw [← r.len]; exact Nat.le_of_lt (k1m h2), fun p hp => k _ _ _ (.lst (r.rep _) hp) q⟩⟩
def sDivmod : List D → (D → Prop) → Prop := fun ds Q => ∃ i j, ds = [.int i, .int j] ∧ CDv i j ∧ Q (.tup [.int (pdiv i j), .int (pmod i j)])
def tyNm : D → Option String
  | .non => some "NoneType"
  | .bl _ => some "bool"
  | .int _ => some "int"
  | .str _ => some "str"
  | .tup _ => some "tuple"
  | .lst _ _ => some "list"
  | .dK _ _ _ => some "dict"
  | .dT _ _ _ => some "dict"
  | _ => none
def tys : List String := ["int", "bool", "str", "list", "tuple", "dict"]
/-- the type t is T, or bool as an int -/
def isT (t T : String) : Bool := t == T || (t == "bool" && T == "int")
theorem kit_tab : (("NoneType" :: tys).all fun t => tys.all fun T => decide (kitB t T = some (isT t T))) = true := by decide +kernel
theorem kit_isT {t T : String} (ht : t ∈ "NoneType" :: tys) (hT : T ∈ tys) : kitB t T = some (isT t T) :=
  of_decide_eq_true (List.all_eq_true.mp (List.all_eq_true.mp kit_tab t ht) T hT)
theorem tyNm_mem {d : D} {t : String} (h : tyNm d = some t) : t ∈ "NoneType" :: tys := by
  cases d <;> simp only [tyNm, reduceCtorEq, Option.some.injEq] at h <;> subst h <;> decide
theorem Rp.tyX (hs : Sub G H) {d : D} {v : V} {F : List Addr} {t : String} (r : Rp K G H d v F) (h : tyNm d = some t) : TyX K H v (.type t) := by
  cases d with
  | non => cases h; obtain ⟨rfl, _⟩ := r; exact .base .non
  | bl b => cases h; obtain ⟨rfl, _⟩ := r; exact .base (.bl b)
  | int i => cases h; obtain ⟨rfl, _⟩ := r; exact .base (.int i)
  | str s => cases h; obtain ⟨rfl, _⟩ := r; exact .base (.str _)
  | tup xs => cases h; obtain ⟨a, vs, rfl, s, _⟩ := r; exact .base (.tup (hs _ _ s))
  | lst m xs =>
    cases h
    cases m with
    | true => obtain ⟨a, vs, F', rfl, s, _⟩ := r; exact .base (.lst s)
    | false =>
      obtain ⟨a, vs, rfl, s, _⟩ := r
      rcases hs.sqL s with (s | ⟨o, s⟩) | ⟨o, its, n, hk, hc, _⟩
      · exact .base (.lst s)
      · exact .base (.frz s)
      · exact .kList hk hc
  | dK m ks xs =>
    cases h
    cases m with
    | true => obtain ⟨a, vs, F', rfl, s, _⟩ := r; exact .base (.dK s)
    | false =>
      obtain ⟨a, vs, rfl, s, _⟩ := r
      rcases hs.rd s with s | ⟨o, s⟩
      · exact .base (.dK s)
      · exact .fDict s
  | dT m ks xs =>
    cases h
    cases m with
    | true => obtain ⟨a, vs, F', rfl, s, _⟩ := r; exact .base (.dT s)
    | false => obtain ⟨a, vs, rfl, s, _⟩ := r; exact .base (.dT (hs _ _ s))
  | _ => cases h
def sIsi : List D → (D → Prop) → Prop := fun ds Q => ∃ x t T, ds = [x, .ty T] ∧ tyNm x = some t ∧ T ∈ tys ∧ Q (.bl (isT t T))
theorem opn_isi : OpN K (rIsi K) sIsi := OpN.mk fun G H ds vs F Q Q' hs r q k => by
  obtain ⟨x, t, T, rfl, ht, hT, q⟩ := q
  obtain ⟨v, w, F1, F2, rfl, rx, ⟨rfl, _⟩⟩ := r.two
  exact ⟨v, .ty T, .type t, .type T, isT t T, rfl, .ty T, rx.tyX hs ht, kit_ty (kit_isT (tyNm_mem ht) hT), k _ _ _ (nwB _) q⟩
def listD : D → Option (List D)
  | .dK _ ks _ => some (ks.map fun | .inl i => .int i | .inr s => .str s)
  | d => seqD d
def rListA (K : PySem.W.Frag) : List V → Hp → VK → Prop := fun xs H Q => (∃ p ys, xs = [.ref p] ∧ (SqL K H p ys ∨ SqT K H p ys) ∧ ∀ l, H l = none → Q (.ref l) (upd H l (.lst ys))) ∨
  ∃ (a : Addr) (kvs : List (Key × V)), xs = [.ref a] ∧ Rd H a (.dK kvs) ∧ ∀ p, H p = none → Q (.ref p) (upd H p (.lst (kvs.map fun kv => kV kv.1)))
theorem call_listA {X : Cx} (hc : X.calm = true) : CallR X (.type "list") (rListA X.K) := CallR.or call_list_of (call_listD hc)
def sList : List D → (D → Prop) → Prop := fun ds Q => ∃ x ys, ds = [x] ∧ listD x = some ys ∧ isFzL ys = true ∧ Q (.lst true ys)
theorem keys_rp : ∀ {ks : List Kc} {us : List V}, ks.length = us.length → RpL K G H (ks.map fun | .inl i => .int i | .inr s => .str s) ((kzip ks us).map fun kv => kV kv.1) []
  | [], [], _ => ⟨rfl, rfl⟩
  | k :: ks, u :: us, h => by
    refine ⟨_, _, [], [], rfl, rfl, ?_, keys_rp (ks := ks) (us := us) (Nat.succ.inj h)⟩
    cases k with
    | inl i => exact ⟨rfl, rfl⟩
    | inr s => exact ⟨rfl, rfl⟩
  | [], _ :: _, h => by cases h
  | _ :: _, [], h => by cases h
theorem opn_list : OpN K (rListA K) sList := OpN.mk fun G H ds vs F Q Q' hs r q k => by
  obtain ⟨x, ys, rfl, hy, hf, q⟩ := q
  obtain ⟨v, rfl, rx⟩ := r.one'
  have seq : VL.seqD x = some ys → rListA K [v] H Q' := fun h => by
    obtain ⟨p, us, F', rfl, hq, rl⟩ := rx.seqD hs h
    have := rl.fz hf; subst this
    exact .inl ⟨p, us, rfl, hq, fun l hl => k _ _ _ (.lst rl hl) q⟩
  cases x with
  | dK m ks xs =>
    cases hy
    have : ∃ a us F', v = .ref a ∧ Rd H a (.dK (kzip ks us)) ∧ ks.length = xs.length ∧ RpL K G H xs us F' := by
      cases m with
      | false => obtain ⟨a, us, e, s, _, l, _, r⟩ := rx; exact ⟨a, us, _, e, hs.rd s, l, r⟩
      | true => obtain ⟨a, us, F', e, s, _, l, _, r⟩ := rx; exact ⟨a, us, _, e, .inl s, l, r⟩
    obtain ⟨a, us, F', rfl, e, l, rl⟩ := this
    exact .inr ⟨a, _, rfl, e, fun p hp => k _ _ _ (.lst (keys_rp (l.trans rl.len)) hp) q⟩
  | _ => exact seq hy
def sTuple : List D → (D → Prop) → Prop := fun ds Q => ∃ x ys, ds = [x] ∧ seqD x = some ys ∧ isFzL ys = true ∧ Q (.tup ys)
def sDict : List D → (D → Prop) → Prop := fun ds Q => ∃ m ks ys, ds = [.dK m ks ys] ∧ isFzL ys = true ∧ Q (.dK true ks ys)
theorem opn_dict : OpN K (fun xs H Q => ∃ (a : Addr) (kvs : List (Key × V)), xs = [.ref a] ∧ Rd H a (.dK kvs) ∧ ∀ p, H p = none → Q (.ref p) (upd H p (.dK kvs))) sDict := OpN.mk fun G H ds vs F Q Q' hs r q k => by
  obtain ⟨m, ks, ys, rfl, hf, q⟩ := q
  obtain ⟨v, rfl, rx⟩ := r.one'
  have : ∃ a us, v = .ref a ∧ Rd H a (.dK (kzip ks us)) ∧ ks.length = ys.length ∧ ks.Nodup ∧ RpL K G H ys us [] := by
    cases m with
    | false => obtain ⟨a, us, e, s, _, l, n, r⟩ := rx; exact ⟨a, us, e, hs.rd s, l, n, r⟩
    | true => obtain ⟨a, us, F', e, s, _, l, n, r⟩ := rx; have := r.fz hf; subst this; exact ⟨a, us, e, .inl s, l, n, r⟩
  obtain ⟨a, us, rfl, e, l, n, rl⟩ := this
  exact ⟨a, _, rfl, e, fun p hp => k _ _ _ (.dK rl hp l n) q⟩
def sMin : List D → (D → Prop) → Prop := fun ds Q => ∃ i j : Int, ds = [.int i, .int j] ∧ Q (.int (min i j))
def sMax : List D → (D → Prop) → Prop := fun ds Q => ∃ i j : Int, ds = [.int i, .int j] ∧ Q (.int (max i j))
theorem opn_min : OpN K (fun xs H Q => ∃ i j, xs = [.int i, .int j] ∧ Q (.int (if j < i then j else i)) H) sMin := OpN.mk fun G H ds vs F Q Q' hs r q k => by
  obtain ⟨i, j, rfl, q⟩ := q
  obtain ⟨v, w, F1, F2, rfl, ⟨rfl, _⟩, ⟨rfl, _⟩⟩ := r.two
  refine ⟨i, j, rfl, ?_⟩
  have e : (if j < i then j else i) = min i j := by split <;> omega
  rw [e]
  exact k _ _ _ (nwI _) q
theorem opn_max : OpN K (fun xs H Q => ∃ i j, xs = [.int i, .int j] ∧ Q (.int (if j > i then j else i)) H) sMax := OpN.mk fun G H ds vs F Q Q' hs r q k => by
  obtain ⟨i, j, rfl, q⟩ := q
  obtain ⟨v, w, F1, F2, rfl, ⟨rfl, _⟩, ⟨rfl, _⟩⟩ := r.two
  refine ⟨i, j, rfl, ?_⟩
  have e : (if j > i then j else i) = max i j := by split <;> omega
  rw [e]
  exact k _ _ _ (nwI _) q
def sInt : List D → (D → Prop) → Prop := fun ds Q => (∃ i, ds = [.int i] ∧ Q (.int i)) ∨ ∃ b, ds = [.bl b] ∧ Q (.int (if b then 1 else 0))
theorem opn_int : OpN K (fun xs H Q => (∃ i, xs = [.int i] ∧ Q (.int i) H) ∨ ∃ k, xs = [.bl k] ∧ Q (.int (if k then 1 else 0)) H) sInt := OpN.mk fun G H ds vs F Q Q' hs r q k => by
  rcases q with ⟨i, rfl, q⟩ | ⟨b, rfl, q⟩
  · obtain ⟨v, rfl, rfl, _⟩ := r.one'
    exact .inl ⟨i, rfl, k _ _ _ (nwI _) q⟩
  · obtain ⟨v, rfl, rfl, _⟩ := r.one'
    exact .inr ⟨b, rfl, k _ _ _ (nwI _) q⟩
end
section
variable {X : Cv}
/-- a built-in type by its name -/
theorem ve_ty {x : Str} {T : String} {pos : Pos} (hg : Gl X.toCx x) (hm : X.mg x = none) (hv : bootBuiltins x = some (.type T)) (hn : x ≠ "__name__" := by decide) (hd : (x == ("__debug__" : Str)) = false := by decide) : VE X (.Name x pos) (vC (.ty T)) :=
  vc_of (pe_bltn hg hm hv (v := .ty T) rfl hn hd) fun _ _ => ⟨rfl, rfl⟩
end
end VL
namespace VL
open PySem PySem.Spec PyProof.Rows L2 VL
def forgetE : List Nat → Ep → Ep
  | [], ε => ε
  | i :: is, ε => forgetE is (ε.set i none)
def pull : List Nat → Ep → List (Option Nat) × List D × Ep
  | [], ε => ([], [], ε)
  | i :: is, ε => match ε[i]? with
    | some (some d) => let r := pull is (ε.set i none); (some i :: r.1, d :: r.2.1, r.2.2)
    | _ => pull is ε
theorem wipe_get {σ : L2.St} {j : Nat} : ∀ {vs : List Nat}, (wipe σ vs)[j]? = if j ∈ vs then (σ[j]?).map fun _ => none else σ[j]?
  | [] => by simp [wipe]
  | v :: vs => by
    unfold wipe
    by_cases h : v = j
    · subst h
      rw [List.getElem?_set_self', wipe_get]
      simp only [List.mem_cons, true_or, if_true]
      split <;> cases σ[v]? <;> rfl
    · rw [List.getElem?_set_ne h, wipe_get]
      have : j ≠ v := fun e => h e.symm
      simp [this]
theorem wipe_set {σ : L2.St} {i : Nat} {x : Option V} {vs : List Nat} (h : i ∈ vs) : wipe (σ.set i x) vs = wipe σ vs := by
  apply List.ext_getElem?
  intro j
  rw [wipe_get, wipe_get]
  by_cases e : i = j
  · subst e
    rw [if_pos h, if_pos h, List.getElem?_set_self']
    cases σ[i]? <;> rfl
  · rw [List.getElem?_set_ne e]
theorem wipe_wipe {σ : L2.St} {vs : List Nat} : wipe (wipe σ vs) vs = wipe σ vs := by
  apply List.ext_getElem?
  intro j
  rw [wipe_get, wipe_get]
  split
  · cases σ[j]? <;> rfl
  · rfl
section
variable {K : PySem.W.Frag} {b : Bs} {σ : L2.St} {H H' : Hp} {ε : Ep} {T : List D} {Tv : List V}
/-- a slot is told no more -/
theorem SI.forget1 (I : SI K b σ H ε T Tv) (i : Nat) : SI K b σ H (ε.set i none) T Tv := by
  by_cases hi : i < ε.length
  · obtain ⟨G, F, Ft, J⟩ := I
    obtain ⟨ov, A, B, C, hs, rfl, r, back⟩ := J.slots.focus (i := i) (List.getElem?_eq_getElem hi)
    have s2 := back G H none ov [] Sub.refl (fun _ _ => rfl) rfl
    rw [setSelf hs, List.append_nil] at s2
    have sb : ∀ a, a ∈ A ++ C ++ Ft → a ∈ A ++ B ++ C ++ Ft := fun a z => by
      simp only [List.mem_append] at z ⊢
      grind
    have nd : (A ++ C ++ Ft).Nodup := by
      have h1 : (A ++ B ++ C ++ Ft).Perm (B ++ (A ++ C ++ Ft)) := by
        apply List.perm_iff_count.mpr
        intro a
        simp only [List.count_append]
        omega
      exact (List.nodup_append.mp (h1.nodup_iff.mp J.nd)).2.1
    exact ⟨G, _, Ft, J.s0, J.sub, s2, J.temps, nd, fun a z => J.fr a (sb a z), fun a z => J.own a (sb a z), J.gn, J.keep, J.kept⟩
  · rw [List.set_eq_of_length_le (by omega)]
    exact I
theorem SI.forget : ∀ {is : List Nat} {ε : Ep}, SI K b σ H ε T Tv → SI K b σ H (forgetE is ε) T Tv
  | [], ε, I => I
  | i :: is, ε, I => SI.forget (is := is) (I.forget1 i)
theorem forgetE_get {j : Nat} : ∀ {is : List Nat} {ε : Ep}, (forgetE is ε)[j]? = if j ∈ is then (ε[j]?).map fun _ => none else ε[j]?
  | [], ε => by simp [forgetE]
  | i :: is, ε => by
    unfold forgetE
    rw [forgetE_get]
    by_cases h : i = j
    · subst h
      simp only [List.mem_cons, true_or, if_true, List.getElem?_set_self']
      split <;> cases ε[i]? <;> rfl
    · rw [List.getElem?_set_ne h]
      have : j ≠ i := fun e => h e.symm
      simp [this]
theorem SI.pull (hl : T.length = Tv.length) : ∀ {is : List Nat} {ε : Ep} {R : List D} {Rv : List V}, R.length = Rv.length → SI K b σ H ε (T ++ R) (Tv ++ Rv) →
    ∃ vs, SI K b σ H (VL.pull is ε).2.2 (T ++ (R ++ (VL.pull is ε).2.1)) (Tv ++ (Rv ++ vs)) ∧ Held σ (VL.pull is ε).1 vs ∧ (VL.pull is ε).2.1.length = vs.length ∧ (∀ j, (VL.pull is ε).2.2[j]? = if j ∈ is then (ε[j]?).map fun _ => none else ε[j]?)
  | [], ε, R, Rv, hr, I => ⟨[], by simpa [VL.pull] using I, trivial, rfl, fun j => by simp [VL.pull]⟩
  | i :: is, ε, R, Rv, hr, I => by
    unfold VL.pull
    cases e : ε[i]? with
    | none =>
      obtain ⟨vs, J, hh, hl2, hg⟩ := SI.pull hl (is := is) hr I
      refine ⟨vs, J, hh, hl2, fun j => ?_⟩
      show (VL.pull is ε).2.2[j]? = _
      rw [hg]
      by_cases h : j = i
      · subst h
        rw [e]
        simp
      · simp [h]
    | some od =>
      cases od with
      | none =>
        obtain ⟨vs, J, hh, hl2, hg⟩ := SI.pull hl (is := is) hr I
        refine ⟨vs, J, hh, hl2, fun j => ?_⟩
        show (VL.pull is ε).2.2[j]? = _
        rw [hg]
        by_cases h : j = i
        · subst h
          rw [e]
          simp
        · simp [h]
      | some d =>
        obtain ⟨v, hs, J⟩ := I.mov e
        obtain ⟨vs, J2, hh, hl2, hg⟩ := SI.pull hl (is := is) (R := R ++ [d]) (Rv := Rv ++ [v]) (by simp [hr]) (by simpa only [List.append_assoc] using J)
        refine ⟨v :: vs, ?_, ⟨hs, hh⟩, by simp [hl2], fun j => ?_⟩
        · simpa only [List.append_assoc, List.cons_append, List.nil_append] using J2
        · show (VL.pull is (ε.set i none)).2.2[j]? = _
          rw [hg]
          by_cases h : i = j
          · subst h
            simp only [List.mem_cons, true_or, if_true, List.getElem?_set_self']
            split <;> cases ε[i]? <;> rfl
          · rw [List.getElem?_set_ne h]
            have : j ≠ i := fun e => h e.symm
            simp [this]
/-- slots that are not told may hold anything -/
theorem RpS.reslot {G : Hp} : ∀ {ε : Ep} {σ σ' : L2.St} {F : List Addr}, RpS K G H ε σ F → σ'.length = σ.length → (∀ (j : Nat) d, ε[j]? = some (some d) → σ'[j]? = σ[j]?) → RpS K G H ε σ' F
  | [], σ, σ', F, h, hl, _ => by
    obtain ⟨rfl, rfl⟩ := h
    exact ⟨List.length_eq_zero_iff.mp hl, rfl⟩
  | od :: ε, σ, σ', F, h, hl, k => by
    obtain ⟨ov, σ1, F1, F2, rfl, rfl, r, rs⟩ := h
    cases σ' with
    | nil => cases hl
    | cons ov' σ'' =>
      refine ⟨ov', σ'', F1, F2, rfl, rfl, ?_, RpS.reslot rs (Nat.succ.inj hl) fun j d e => by simpa using k (j + 1) d (by simpa using e)⟩
      cases od with
      | none => exact r
      | some d =>
        have := k 0 d rfl
        simp at this
        rw [this]
        exact r
theorem SI.reslot {σ' : L2.St} (I : SI K b σ H ε T Tv) (hl : σ'.length = σ.length) (h : ∀ (j : Nat) d, ε[j]? = some (some d) → σ'[j]? = σ[j]?) (hk : ∀ (j : Nat) v, b.kv[j]? = some (some v) → σ'[j]? = σ[j]?) : SI K b σ' H ε T Tv := by
  obtain ⟨G, F, Ft, J⟩ := I
  exact ⟨G, F, Ft, J.s0, J.sub, J.slots.reslot hl h, J.temps, J.nd, J.fr, J.own, J.gn, J.keep, fun j v e => (hk j v e).trans (J.kept j v e)⟩
/-- held things change places -/
theorem SI.swap {A B C : List D} {Av Bv Cv : List V} (I : SI K b σ H ε (T ++ (A ++ (B ++ C))) (Tv ++ (Av ++ (Bv ++ Cv)))) (hl : T.length = Tv.length) (ha : A.length = Av.length) (hb : B.length = Bv.length) : SI K b σ H ε (T ++ (B ++ (A ++ C))) (Tv ++ (Bv ++ (Av ++ Cv))) := by
  obtain ⟨G, F, Ft, J⟩ := I
  obtain ⟨F1, F2, rfl, r1, r2⟩ := J.temps.split2 hl
  obtain ⟨F3, F4, rfl, r3, r4⟩ := r2.split2 ha
  obtain ⟨F5, F6, rfl, r5, r6⟩ := r4.split2 hb
  have pm : (F ++ (F1 ++ (F3 ++ (F5 ++ F6)))).Perm (F ++ (F1 ++ (F5 ++ (F3 ++ F6)))) := by
    apply List.perm_iff_count.mpr
    intro z
    simp only [List.count_append]
    omega
  exact ⟨G, F, _, J.s0, J.sub, J.slots, r1.append (r5.append (r3.append r6)), pm.nodup_iff.mp J.nd, fun z hz => J.fr z (pm.mem_iff.mpr hz), fun z hz => J.own z (pm.mem_iff.mpr hz), J.gn, J.keep, J.kept⟩
/-- a thing is put behind the others in a held list of our own -/
theorem SI.accPush {acc : List D} {y : D} {p : Addr} {v : V} (I : SI K b σ H ε (T ++ [.lst true acc, y]) (Tv ++ [.ref p, v])) (hl : T.length = Tv.length) : ∃ vs, H p = some (.lst vs) ∧ vs.length = acc.length ∧ SI K b σ (upd H p (.lst (vs ++ [v]))) ε (T ++ [.lst true (acc ++ [y])]) (Tv ++ [.ref p]) := by
  obtain ⟨G, F, Ft, J⟩ := I
  obtain ⟨F1, F2, rfl, r1, r2⟩ := J.temps.split2 hl
  obtain ⟨v', vs1, A, B, e1, rfl, ra, v2, vs2, A2, B2, e2, rfl, rb, rfl, rfl⟩ := r2
  cases e1
  cases e2
  obtain ⟨a, us, A', ea, ha, rfl, rl⟩ := ra
  cases ea
  have nd := J.nd
  have pm : (F ++ (F1 ++ (p :: A' ++ (A2 ++ [])))).Perm (p :: (F ++ (F1 ++ (A' ++ A2)))) := by
    apply List.perm_iff_count.mpr
    intro z
    simp only [List.count_append, List.count_cons, List.cons_append, List.count_nil]
    omega
  have nd2 := pm.nodup_iff.mp nd
  have np := (List.nodup_cons.mp nd2).1
  have ev : ∀ z, z ∈ F ++ (F1 ++ (A' ++ A2)) → upd H p (.lst (us ++ [v])) z = H z := fun z hz => upd_ne fun e => np (e ▸ hz)
  have gp : G p = none := J.fr p (pm.mem_iff.mpr List.mem_cons_self)
  have pm2 : (F ++ (F1 ++ (p :: (A' ++ A2)))).Perm (p :: (F ++ (F1 ++ (A' ++ A2)))) := by
    apply List.perm_iff_count.mpr
    intro z
    simp only [List.count_append, List.count_cons]
    omega
  refine ⟨us, ha, rl.len.symm, G, F, F1 ++ (p :: (A' ++ A2)), J.s0, fun z o q => ?_, J.slots.mono Sub.refl fun z hz => ev z (List.mem_append_left _ hz), ?_, pm2.nodup_iff.mpr nd2, fun z hz => J.fr z (pm.mem_iff.mpr (pm2.mem_iff.mp hz)), fun z hz => J.own z (pm.mem_iff.mpr (pm2.mem_iff.mp hz)), J.gn, fun z o q n => ?_, J.kept⟩
  · rw [upd_ne fun e => by rw [e, gp] at q; cases q]
    exact J.sub z o q
  · refine (r1.mono Sub.refl fun z hz => ev z (List.mem_append_right _ (List.mem_append_left _ hz))).append (RpL.one.mpr ⟨p, us ++ [v], A' ++ A2, rfl, upd_same, rfl, ?_⟩)
    exact (rl.append (RpL.one.mpr rb)).mono Sub.refl fun z hz => ev z (List.mem_append_right _ (List.mem_append_right _ hz))
  · rw [upd_ne fun e => ?_]
    · exact J.keep z o q n
    · subst e
      rcases J.own z (pm.mem_iff.mpr List.mem_cons_self) with h | h
      · exact n h
      · rw [q] at h; cases h
end
section
variable {X : Cv}
structure VTo (X : Cv) (own : List Nat) (tg : Expr) (t : VTG) : Prop where
  ex : ∃ g : TG, PG X.toCx tg g ∧ ∀ (b : Bx X) σ H ε T Tv d v Q Q', SI X.K b.1 σ H ε (T ++ [d]) (Tv ++ [v]) → T.length = Tv.length → t d ε Q →
    (∀ ε' σ' H', wipe σ' own = wipe σ own → SI X.K b.1 σ' H' ε' T Tv → Q ε' → Q' σ' H') → g v σ H Q'
theorem vto_name {own : List Nat} {i : Nat} {x : Str} {pos : Pos} (ho : i ∈ own) (hN : X.N.Nodup) (hi : X.N[i]? = some x) (hx : Loc X.env.scope x) (hk : X.κ[i]? ≠ some true)
    (hf : X.fn x = true ∨ X.env.scope.names.lookup x = some .local := by first | exact .inl rfl | exact .inr rfl | assumption) : VTo X own (.Name x pos) (vName i) :=
  ⟨gName i, pg_name hN hi hx hf, fun b σ H ε T Tv d v Q Q' I l q k => k _ _ H (wipe_set ho) (I.store l q.1 (b.free hk)) q.2⟩
structure VTs (X : Cv) (ifs : List Expr) (t : VTT) : Prop where
  ex : ∃ t' : WX → TT, (∀ W, Takes X.toCx W → PTs X.toCx ifs (t' W)) ∧ ∀ (b : Bx X) σ H ε T Tv W N Q Q', SI X.K b.1 σ H ε T Tv → t N ε Q →
    (∀ c ε' H', SI X.K b.1 σ H' ε' T Tv → Q c ε' → Q' c H') → XL X.K b.1 T Tv W N → t' W σ H Q'
def vYes : VTT := fun _ ε Q => Q true ε
theorem vts_nil : VTs X [] vYes := ⟨fun _ => tYes, fun _ _ => pts_nil, fun b σ H ε T Tv W N Q Q' I q k x => k true ε H I q⟩
theorem vts_one {c : Expr} {t : VTT} (h : VT X c t) : VTs X [c] t := by
  obtain ⟨t', h1, h2⟩ := h.ex
  exact ⟨t', fun W tk => pts_one (h1 W tk), h2⟩
def noX : WV := fun _ _ _ => False
def vLcL (own : List Nat) (g : VTG) (tt : VTT) (te : VTE) : List D → List D → Ep → (List D → Ep → Prop) → Prop
  | [], acc, ε, Q => Q acc ε
  | d :: ds, acc, ε, Q => g d ε fun ε1 => tt noX ε1 fun c ε2 => if c = true then te noX ε2 fun y ε3 => acc.length < 1000000 ∧ vLcL own g tt te ds (acc ++ [y]) (forgetE own ε3) Q else vLcL own g tt te ds acc (forgetE own ε2) Q
def vLc (own : List Nat) (wi : VTA) (g : VTG) (tt : VTT) (te : VTE) : VTE := fun N ε Q => wi N ε fun ds ε1 => vLcL own g tt te ds [] (pull own ε1).2.2 fun acc ε' => Q (.lst true acc) (restore (pull own ε1).1 (pull own ε1).2.1 ε')
/-- a block's context -/
abbrev Cv.blk (X : Cv) (s : Shared) (H : Hp) (scope : Scope) (C : Addr) (cl : List (Str × Addr)) (fp : List Addr) : Cv := { X.toCx.blk s H scope (compEnvC scope cl C X.env) fp with κ := X.κ }
theorem takes_no {Y : Cx} : Takes Y (fun _ _ _ _ => False) := fun _ _ ⟨_, _, _, _, _, _, _, _, _, _, _, _, _, _, _, _, w⟩ => w.elim
abbrev BI : Type := Shared × Hp × Addr × List (Str × Addr) × List Addr
theorem lc_run {own : List Nat} {g : VTG} {tt : VTT} {te : VTE} {tgE elt : Expr} {ifs : List Expr} {scope : Scope}
    (hk : ∀ i ∈ own, X.κ[i]? ≠ some true)
    (hg : ∀ c : BI, VTo (X.blk c.1 c.2.1 scope c.2.2.1 c.2.2.2.1 c.2.2.2.2) own tgE g) (ht : ∀ c : BI, VTs (X.blk c.1 c.2.1 scope c.2.2.1 c.2.2.2.1 c.2.2.2.2) ifs tt) (he : ∀ c : BI, VE (X.blk c.1 c.2.1 scope c.2.2.1 c.2.2.2.1 c.2.2.2.2) elt te) :
    ∃ (g' : TG) (tt' : TT) (te' : TE), (∀ c : BI, PG (X.blk c.1 c.2.1 scope c.2.2.1 c.2.2.2.1 c.2.2.2.2).toCx tgE g') ∧ (∀ c : BI, PTs (X.blk c.1 c.2.1 scope c.2.2.1 c.2.2.2.1 c.2.2.2.2).toCx ifs tt') ∧ (∀ c : BI, PE (X.blk c.1 c.2.1 scope c.2.2.1 c.2.2.2.1 c.2.2.2.2).toCx elt te') ∧
      ∀ (b : Bx X) σ H ε T Tv R Rv ds J (Q : List D → Ep → Prop) (Q' : VK), SI X.K b.1 σ H ε (T ++ R) (Tv ++ Rv) → T.length = Tv.length → R.length = Rv.length → Wk X.K J ds R Rv → vLcL own g tt te ds [] (pull own ε).2.2 (fun acc ε' => Q acc (restore (pull own ε).1 (pull own ε).2.1 ε')) →
        (∀ acc v ε' H', SI X.K b.1 σ H' ε' (T ++ [.lst true acc]) (Tv ++ [v]) → Q acc ε' → Q' v H') →
        ∀ D, H D = none → ∃ W : Nat → Nat → Hp → Prop, (∃ m, W 0 m (upd H D (.lst []))) ∧ ∀ i m H, W i m H →
          (J.stop i H ∧ Q' (.ref D) H) ∨ (J.go i H ∧ ∃ Nx : Hp → Prop, (∀ H', Nx H' → ∃ m', m' < m ∧ W (i + 1) m' H') ∧ ∀ x H', J.yld i H x H' → g' x (wipe σ own) H' fun σ2 H2 => wipe σ2 own = wipe σ own ∧ tt' σ2 H2 fun b H3 =>
            if b = true then te' σ2 H3 fun y H4 => ∃ acc, H4 D = some (.lst acc) ∧ acc.length < sizeLine ∧ Nx (upd H4 D (.lst (acc ++ [y]))) else Nx H3) := by
  let gc : BI → TG := fun c => Classical.choose (hg c).ex
  have gs := fun c => Classical.choose_spec (hg c).ex
  let tc : BI → WX → TT := fun c => Classical.choose (ht c).ex
  have ts := fun c => Classical.choose_spec (ht c).ex
  let ec : BI → WX → TE := fun c => Classical.choose (he c).ex
  have es := fun c => Classical.choose_spec (he c).ex
  let Wn : WX := fun _ _ _ _ => False
  refine ⟨fun v σ H Q => ∀ c, gc c v σ H Q, fun σ H Q => ∀ c, tc c Wn σ H Q, fun σ H Q => ∀ c, ec c Wn σ H Q, fun c => ⟨fun pins s σ H v u Q I r w => (gs c).1.run pins s σ H v u Q I r (w c)⟩, fun c => ⟨fun pins s σ H Q I w => ((ts c).1 Wn takes_no).run pins s σ H Q I (w c)⟩, fun c => ⟨fun pins s σ H Q I w => ((es c).1 Wn takes_no).run pins s σ H Q I (w c)⟩, ?_⟩
  intro b σ H ε T Tv R Rv ds J Q Q' I hl hr wk q k D nD
  obtain ⟨pv, Ip, hh, lp, pg⟩ := SI.pull hl (is := own) hr I
  generalize hpr : pull own ε = pr at q Ip hh lp pg
  obtain ⟨rs, pd, ε0⟩ := pr
  simp only at q Ip hh lp pg
  have hlR : (T ++ (R ++ pd)).length = (Tv ++ (Rv ++ pv)).length := by simp [hl, hr, lp]
  -- the slots of the block's own names hold nothing
  have xl : ∀ {T : List VL.D} {Tv : List V}, XL X.K b.1 T Tv Wn noX := fun _ _ _ _ _ _ _ _ _ _ z => z.elim
  have wipeI : ∀ {H : Hp} {ε2 : Ep} {T : List VL.D} {Tv : List V} {σ2 : L2.St}, (∀ i ∈ own, ∀ d, ε2[i]? ≠ some (some d)) → wipe σ2 own = wipe σ own → SI X.K b.1 σ2 H ε2 T Tv → SI X.K b.1 (wipe σ own) H ε2 T Tv := by
    intro H ε2 T Tv σ2 hn hw I
    have key : ∀ j, j ∉ own → (wipe σ own)[j]? = σ2[j]? := fun j hj => by
      rw [← hw, wipe_get, if_neg hj]
    refine I.reslot (by rw [← hw, wipe_length]) (fun j d e => key j fun hj => hn j hj d e) fun j v e => key j fun hj => b.free (hk j hj) v e
  have unwipe : ∀ {H : Hp} {ε2 : Ep} {T : List VL.D} {Tv : List V}, (∀ i ∈ own, ∀ d, ε2[i]? ≠ some (some d)) → SI X.K b.1 (wipe σ own) H ε2 T Tv → SI X.K b.1 σ H ε2 T Tv := by
    intro H ε2 T Tv hn I
    have key : ∀ j, j ∉ own → σ[j]? = (wipe σ own)[j]? := fun j hj => by
      rw [wipe_get, if_neg hj]
    refine I.reslot (by rw [wipe_length]) (fun j d e => key j fun hj => hn j hj d e) fun j v e => key j fun hj => b.free (hk j hj) v e
  have fn : ∀ {ε : Ep}, ∀ i ∈ own, ∀ d, (forgetE own ε)[i]? ≠ some (some d) := fun {ε} i hi d e => by
    rw [forgetE_get, if_pos hi] at e
    cases h : ε[i]? <;> rw [h] at e <;> cases e
  have fn0 : ∀ i ∈ own, ∀ d, ε0[i]? ≠ some (some d) := fun i hi d e => by
    rw [pg, if_pos hi] at e
    cases h : ε[i]? <;> rw [h] at e <;> cases e
  let Iv := fun (i m : Nat) (H : Hp) => m = ds.length - i ∧ i ≤ ds.length ∧ ∃ ε2 acc, (∀ i ∈ own, ∀ d, ε2[i]? ≠ some (some d)) ∧ SI X.K b.1 (wipe σ own) H ε2 (T ++ (R ++ (pd ++ [.lst true acc]))) (Tv ++ (Rv ++ (pv ++ [.ref D]))) ∧ vLcL own g tt te (ds.drop i) acc ε2 fun acc ε' => Q acc (restore rs pd ε')
  refine ⟨Iv, ⟨ds.length, rfl, Nat.zero_le _, ε0, [], fn0, ?_, q⟩, ?_⟩
  · have I0 := wipeI fn0 rfl Ip
    have := SI.laid (ds := []) (vs := []) (T := T ++ (R ++ pd)) (Tv := Tv ++ (Rv ++ pv)) (by simpa using I0) hlR nD (.lst []) (d := .lst true []) fun G H' F e r => ⟨D, [], F, rfl, e, rfl, r⟩
    simpa only [List.append_assoc] using this
  rintro i m H2 ⟨rfl, hi, ε2, acc, hn2, I2, z2⟩
  have lpa : (pd ++ [VL.D.lst true acc]).length = (pv ++ [V.ref D]).length := by simp [lp]
  have IR : SI X.K b.1 (wipe σ own) H2 ε2 ((T ++ (pd ++ [.lst true acc])) ++ R) ((Tv ++ (pv ++ [.ref D])) ++ Rv) := by
    have := SI.swap (A := R) (B := pd ++ [.lst true acc]) (C := []) (Av := Rv) (Bv := pv ++ [.ref D]) (Cv := []) (by simpa using I2) hl hr lpa
    simpa using this
  have hl2 : (T ++ (pd ++ [VL.D.lst true acc])).length = (Tv ++ (pv ++ [V.ref D])).length := by simp [hl, lp]
  obtain ⟨go, stop⟩ := wk b.1 (wipe σ own) H2 ε2 _ _ i hl2 IR
  by_cases hlt : i < ds.length
  · right
    rw [List.drop_eq_getElem_cons hlt] at z2
    obtain ⟨g0, gy⟩ := go ds[i] (List.getElem?_eq_getElem hlt)
    refine ⟨g0, Iv (i + 1) (ds.length - (i + 1)), fun H' y => ⟨ds.length - (i + 1), by omega, y⟩, fun x H' y c => ?_⟩
    have I3 := gy x H' y
    have I4 : SI X.K b.1 (wipe σ own) H' ε2 (T ++ (R ++ ((pd ++ [.lst true acc]) ++ [ds[i]]))) (Tv ++ (Rv ++ ((pv ++ [.ref D]) ++ [x]))) :=
      SI.swap (A := pd ++ [.lst true acc]) (B := R) (C := [ds[i]]) (Av := pv ++ [.ref D]) (Bv := Rv) (Cv := [x]) (by simpa only [List.append_assoc] using I3) hl lpa hr
    have hl3 : (T ++ (R ++ (pd ++ [VL.D.lst true acc]))).length = (Tv ++ (Rv ++ (pv ++ [V.ref D]))).length := by simp [hl, hr, lp]
    refine (gs c).2 b _ H' ε2 (T ++ (R ++ (pd ++ [.lst true acc]))) (Tv ++ (Rv ++ (pv ++ [.ref D]))) ds[i] x _ _ (by simpa only [List.append_assoc] using I4) hl3 z2 fun ε3 σ3 H3 hw I5 z3 => ?_
    refine ⟨by rw [hw, wipe_wipe], fun c2 => ?_⟩
    refine (ts c2).2 b σ3 H3 ε3 _ _ Wn noX _ _ I5 z3 (fun k4 ε4 H4 I6 z4 => ?_) xl
    have hw3 : wipe σ3 own = wipe σ own := by rw [hw, wipe_wipe]
    cases k4 with
    | false => exact ⟨rfl, hlt, forgetE own ε4, acc, fn, wipeI fn hw3 I6.forget, z4⟩
    | true =>
      intro c3
      refine (es c3).2 b σ3 H4 ε4 _ _ Wn noX _ _ I6 z4 (fun yd yv ε5 H5 I7 z5 => ?_) xl
      have hl4 : (T ++ (R ++ pd)).length = (Tv ++ (Rv ++ pv)).length := hlR
      obtain ⟨vs, hv, lv, I8⟩ := SI.accPush (T := T ++ (R ++ pd)) (Tv := Tv ++ (Rv ++ pv)) (acc := acc) (y := yd) (p := D) (v := yv) (by simpa only [List.append_assoc, List.cons_append, List.nil_append] using I7) hl4
      refine ⟨vs, hv, by rw [lv]; exact k1m z5.1, rfl, hlt, forgetE own ε5, acc ++ [yd], fn, wipeI fn hw3 (SI.forget ?_), z5.2⟩
      simpa only [List.append_assoc, List.cons_append, List.nil_append] using I8
  · left
    have e : i = ds.length := by omega
    subst e
    rw [List.drop_length] at z2
    refine ⟨stop (Nat.le_refl _), ?_⟩
    have I9 := unwipe hn2 I2
    have I10 := SI.midDrops I9 hl hr
    exact k acc (.ref D) _ H2 (SI.restore hl hh lp I10) z2
/-- name = [..] on one line -/
theorem vs_setLc {i : Nat} {y : Str} {py : Pos} {elt tg iter : Expr} {ifs : List Expr} {scope : Scope} {own : List (Str × Nat)} {pos spos : Pos} {wi : VTA} {g : VTG} {tt : VTT} {te : VTE} (hc : X.calm = true) (hN : X.N.Nodup) (ok : BlkOk X.N X.env.scope scope own) (hk : ∀ i ∈ own.map (·.2), X.κ[i]? ≠ some true) (hi : VI X tg iter wi)
    (hg : ∀ c : BI, VTo (X.blk c.1 c.2.1 scope c.2.2.1 c.2.2.2.1 c.2.2.2.2) (own.map (·.2)) tg g) (ht : ∀ c : BI, VTs (X.blk c.1 c.2.1 scope c.2.2.1 c.2.2.2.1 c.2.2.2.2) ifs tt) (he : ∀ c : BI, VE (X.blk c.1 c.2.1 scope c.2.2.1 c.2.2.2.1 c.2.2.2.2) elt te)
    (hy : X.N[i]? = some y) (hyl : X.env.scope.names.lookup y = some .local) (hky : X.κ[i]? ≠ some true) (hsw : swapsWith (.ListComp elt [⟨tg, iter, ifs, 0⟩] scope pos) (some (.Name y py)) spos.line X.env = pure true)
    (hs : ∀ x, foldedSetIterable iter X.env x = pure x := by intro _; rfl) : VS X (.Assign [.Name y py] (.ListComp elt [⟨tg, iter, ifs, 0⟩] scope pos) spos) (vAsg i (vLc (own.map (·.2)) wi g tt te)) := by
  obtain ⟨wi', w1, w2⟩ := hi.ex
  obtain ⟨g', tt', te', h1, h2, h3, run⟩ := lc_run hk hg ht he
  refine ⟨fun W => tAsg (tLc (wi' W) g' tt' te' (own.map (·.2))) (gName i), fun W tk => ps_setLc hc hN hy hyl hsw (w1 W tk) ok (fun s H C cl fp => h1 ⟨s, H, C, cl, fp⟩) (fun s H C cl fp => h2 ⟨s, H, C, cl, fp⟩) (fun s H C cl fp => h3 ⟨s, H, C, cl, fp⟩) hs, fun b σ H ε T Tv W N E I q l x => ?_⟩
  exact w2 b σ H ε T Tv W N.rx _ _ I q (fun ds R Rv J ε1 H1 I1 hr wk z => run b σ H1 ε1 T Tv R Rv ds J (fun acc ε' => i < ε'.length ∧ N.nx (ε'.set i (some (.lst true acc)))) _ I1 I.lenT hr wk z fun acc v ε' H' I' z' => l.nx _ H' _ (I'.store I.lenT z'.1 (b.free hky)) z'.2) x
end
end VL
namespace VL
open PySem PySem.Spec PyProof.Rows L2 VL
def cutL {α : Type} (xs : List α) (lo hi : Option Int) : List α := (xs.drop (HT.sIx xs.length 0 lo)).take (HT.sIx xs.length xs.length hi - HT.sIx xs.length 0 lo)
section
variable {K : PySem.W.Frag} {G H : Hp}
theorem RpL.drop : ∀ {ds : List D} {vs : List V} (n : Nat), RpL K G H ds vs [] → RpL K G H (ds.drop n) (vs.drop n) []
  | _, _, 0, r => by simpa using r
  | [], vs, n + 1, r => by
    obtain ⟨rfl, _⟩ := r
    exact ⟨rfl, rfl⟩
  | d :: ds, vs, n + 1, r => by
    obtain ⟨v, vs', F1, F2, rfl, f, rd, rs⟩ := r
    obtain ⟨rfl, rfl⟩ := List.append_eq_nil_iff.mp f.symm
    simpa using RpL.drop n rs
theorem RpL.take : ∀ {ds : List D} {vs : List V} (n : Nat), RpL K G H ds vs [] → RpL K G H (ds.take n) (vs.take n) []
  | _, _, 0, r => by simp only [List.take_zero]; exact ⟨rfl, rfl⟩
  | [], vs, n + 1, r => by
    obtain ⟨rfl, _⟩ := r
    exact ⟨rfl, rfl⟩
  | d :: ds, vs, n + 1, r => by
    obtain ⟨v, vs', F1, F2, rfl, f, rd, rs⟩ := r
    obtain ⟨rfl, rfl⟩ := List.append_eq_nil_iff.mp f.symm
    exact ⟨v, vs'.take n, [], [], rfl, rfl, rd, RpL.take n rs⟩
theorem RpL.cut {ds : List D} {vs : List V} (r : RpL K G H ds vs []) (lo hi : Option Int) : RpL K G H (cutL ds lo hi) (cutV vs lo hi) [] := by
  unfold cutL cutV
  rw [r.len]
  exact (r.drop _).take _
theorem cutS_toS (s : Cs) (lo hi : Option Int) : cutS (toS s) lo hi = toS (cutL s lo hi) := by
  unfold cutS cutL
  rw [toS_len]
  have : (toS s).cps.toList = s := by simp [toS]
  rw [this]
  rfl
/-- a slice of a text, a list, a tuple, whose items stand still -/
def sliceD : D → Option Int → Option Int → Option D
  | .str s, lo, hi => if s.length < 1000000 then some (.str (cutL s lo hi)) else none
  | .lst _ ds, lo, hi => if isFzL ds = true then some (.lst true (cutL ds lo hi)) else none
  | .tup ds, lo, hi => if isFzL ds = true then some (.tup (cutL ds lo hi)) else none
  | _, _, _ => none
def rSlD (K : PySem.W.Frag) : V → Option Int → Option Int → Hp → VK → Prop := fun x lo hi H Q => rSlS x lo hi H Q ∨ rSlL K x lo hi H Q ∨ rSlA K x lo hi H Q
theorem sl_any {X : Cx} : SlR X (rSlD X.K) := SlR.or sl_str (SlR.or sl_list sl_tupA)
theorem sl_run (hs : Sub G H) {x d : D} {v : V} {F : List Addr} {lo hi : Option Int} {Q' : VK} (r : Rp K G H x v F) (h : sliceD x lo hi = some d) (k : ∀ v H', Nw K G H d v H' → Q' v H') : rSlD K v lo hi H Q' := by
  cases x with
  | str s =>
    have h : (if s.length < 1000000 then some (D.str (cutL s lo hi)) else none) = some d := h
    by_cases hz : s.length < 1000000
    · rw [if_pos hz] at h
      cases h
      obtain ⟨rfl, _⟩ := r
      refine .inl ⟨toS s, rfl, by rw [toS_len]; exact Nat.le_of_lt (k1m hz), ?_⟩
      rw [cutS_toS]
      exact k _ _ (nwS _)
    · rw [if_neg hz] at h; cases h
  | lst m xs =>
    have h : (if isFzL xs = true then some (D.lst true (cutL xs lo hi)) else none) = some d := h
    by_cases hf : isFzL xs = true
    · rw [if_pos hf] at h
      cases h
      have hx : ∃ a us, v = .ref a ∧ SqL K H a us ∧ RpL K G H xs us [] := by
        cases m with
        | false => obtain ⟨a, us, e, s, _, r⟩ := r; exact ⟨a, us, e, hs.sqL s, r⟩
        | true => obtain ⟨a, us, F', e, s, _, r⟩ := r; have := r.fz hf; subst this; exact ⟨a, us, e, SqL.of s, r⟩
      obtain ⟨a, us, rfl, s, r⟩ := hx
      exact .inr (.inl ⟨a, us, rfl, s, fun p hp => k _ _ (.lst (r.cut lo hi) hp)⟩)
    · rw [if_neg hf] at h; cases h
  | tup xs =>
    have h : (if isFzL xs = true then some (D.tup (cutL xs lo hi)) else none) = some d := h
    by_cases hf : isFzL xs = true
    · rw [if_pos hf] at h
      cases h
      obtain ⟨a, us, rfl, s, r⟩ := r
      have := r.fz hf; subst this
      refine .inr (.inr ⟨a, us, rfl, SqT.of (hs _ _ s), fun w => ?_, fun _ p hp => k _ _ (.tup (r.cut lo hi) hp)⟩)
      have e : cutL xs lo hi = xs := by
        unfold cutL
        rw [r.len, w.1, w.2, List.drop_zero, Nat.sub_zero, ← r.len, List.take_length]
      rw [e] at k
      exact k _ _ (.val fun G' H' s' => ⟨a, us, rfl, s' _ _ s, r.mono s' fun _ z => nomatch z⟩)
    · rw [if_neg hf] at h; cases h
  | _ => cases h
end
/-- a slice's part -/
abbrev VTO := WV → Ep → (Option Int → Ep → Prop) → Prop
section
variable {X : Cv}
structure VO (X : Cv) (e : Option Expr) (t : VTO) : Prop where
  ex : ∃ t' : WX → TO, (∀ W, Takes X.toCx W → PO X.toCx e (t' W)) ∧ ∀ (b : Bx X) σ H ε T Tv W N (Q : Option Int → Ep → Prop) (Q' : Option Int → Hp → Prop), SI X.K b.1 σ H ε T Tv → t N ε Q →
    (∀ o ε' H', SI X.K b.1 σ H' ε' T Tv → Q o ε' → Q' o H') → XL X.K b.1 T Tv W N → t' W σ H Q'
def vNoPart : VTO := fun _ ε Q => Q none ε
def vPart (t : VTE) : VTO := fun N ε Q => t N ε fun d ε1 => ∃ i, d = .int i ∧ Q (some i) ε1
theorem vo_none : VO X none vNoPart := ⟨fun _ => tNoPart, fun _ _ => po_none, fun b σ H ε T Tv W N Q Q' I q k x => k none ε H I q⟩
theorem vo_some {e : Expr} {t : VTE} (h : VE X e t) : VO X (some e) (vPart t) := by
  obtain ⟨t', h1, h2⟩ := h.ex
  refine ⟨fun W => tPart (t' W), fun W tk => po_some (h1 W tk), fun b σ H ε T Tv W N Q Q' I q k x => ?_⟩
  refine h2 b σ H ε T Tv W N _ _ I q (fun d v ε1 H1 J z => ?_) x
  obtain ⟨i, rfl, z⟩ := z
  obtain ⟨G, F, _, rv, _⟩ := J.last I.lenT
  exact ⟨i, rv, k (some i) ε1 H1 (J.pop I.lenT) z⟩
def vSl (r : Option Nat) (t : VTE) (tl th : VTO) : VTE := fun N ε Q => t N ε fun x ε1 => tl N ε1 fun lo ε2 => th N ε2 fun hi ε3 => ∃ d, sliceD x lo hi = some d ∧ Q d (restore [r] [x] ε3)
theorem ve_slice {e : Expr} {lo hi : Option Expr} {r : Option Nat} {t : VTE} {tl th : VTO} {pos p2 : Pos} (h : VG X e r t) (hl : VO X lo tl) (hh : VO X hi th) : VE X (.Subscript e (.Slice lo hi none p2) pos) (vSl r t tl th) := by
  obtain ⟨t', a1, a2⟩ := h.ex
  obtain ⟨l', b1, b2⟩ := hl.ex
  obtain ⟨h', c1, c2⟩ := hh.ex
  refine ⟨fun W => tSl (rSlD X.K) (t' W) (l' W) (h' W), fun W tk => pe_slice sl_any (a1 W tk) (b1 W tk) (c1 W tk), fun b σ H ε T Tv W N Q Q' I q k x => ?_⟩
  refine a2 b σ H ε T Tv W N _ _ I q (fun d v ε1 H1 J hd z => ?_) x
  refine b2 b σ H1 ε1 _ _ W N _ _ J z (fun o1 ε2 H2 J2 z2 => ?_) (x.more I.lenT rfl)
  refine c2 b σ H2 ε2 _ _ W N _ _ J2 z2 (fun o2 ε3 H3 J3 z3 => ?_) (x.more I.lenT rfl)
  obtain ⟨y, hy, z3⟩ := z3
  have op : OpN X.K (fun vs H Q => ∃ v, vs = [v] ∧ rSlD X.K v o1 o2 H Q) (fun ds Q => ∃ x d, ds = [x] ∧ sliceD x o1 o2 = some d ∧ Q d) := OpN.mk fun G H ds vs F Q Q' hs r q k => by
    obtain ⟨x, d, rfl, h, q⟩ := q
    obtain ⟨v, rfl, rx⟩ := r.one'
    exact ⟨v, rfl, sl_run hs rx h fun v H' nw => k d v H' nw q⟩
  obtain ⟨v', e', z'⟩ := op.run (ds := [d]) (vs := [v]) (rs := [r]) (Q := Q) (Q' := Q') I.lenT rfl J3 hd ⟨d, y, rfl, hy, z3⟩ k
  obtain ⟨rfl, _⟩ := List.cons.inj e'
  exact z'
/-- xs[::-1] -/
def sRev : List D → (D → Prop) → Prop := fun ds Q => ∃ m xs, ds = [.lst m xs] ∧ isFzL xs = true ∧ Q (.lst true xs.reverse)
theorem RpL.rev {K : PySem.W.Frag} {G H : Hp} : ∀ {ds : List D} {vs : List V}, RpL K G H ds vs [] → RpL K G H ds.reverse vs.reverse []
  | [], vs, r => by
    obtain ⟨rfl, _⟩ := r
    exact ⟨rfl, rfl⟩
  | d :: ds, vs, r => by
    obtain ⟨v, vs', F1, F2, rfl, f, rd, rs⟩ := r
    obtain ⟨rfl, rfl⟩ := List.append_eq_nil_iff.mp f.symm
    rw [List.reverse_cons, List.reverse_cons]
    have := (RpL.rev rs).append (RpL.one.mpr rd)
    simpa using this
theorem ve_rev {e : Expr} {r : Option Nat} {t : VTE} {k0 : Nat} {p1 p2 p3 pos : Pos} (h : VG X e r t) : VE X (.Subscript e (.Slice none none (some (.UnaryOp .USub (.Constant (.int 1) k0 p1) p2)) p3) pos) (vOp sRev [r] (va1 t)) := by
  obtain ⟨t', a1, a2⟩ := h.ex
  refine ⟨fun W => tRevL X.K (t' W), fun W tk => pe_revL (a1 W tk), fun b σ H ε T Tv W N Q Q' I q k x => ?_⟩
  refine a2 b σ H ε T Tv W N _ _ I q (fun d v ε1 H1 J hd z => ?_) x
  have op : OpN X.K (fun vs H Q => ∃ x, vs = [x] ∧ ∃ a xs, x = .ref a ∧ SqL X.K H a xs ∧ ∀ p, H p = none → Q (.ref p) (upd H p (.lst xs.reverse))) sRev := OpN.mk fun G H ds vs F Q Q' hs r q k => by
    obtain ⟨m, xs, rfl, hf, q⟩ := q
    obtain ⟨v, rfl, rx⟩ := r.one'
    have hx : ∃ a us, v = .ref a ∧ SqL X.K H a us ∧ RpL X.K G H xs us [] := by
      cases m with
      | false => obtain ⟨a, us, e, s, _, r⟩ := rx; exact ⟨a, us, e, hs.sqL s, r⟩
      | true => obtain ⟨a, us, F', e, s, _, r⟩ := rx; have := r.fz hf; subst this; exact ⟨a, us, e, SqL.of s, r⟩
    obtain ⟨a, us, rfl, s, rl⟩ := hx
    exact ⟨_, rfl, a, us, rfl, s, fun p hp => k _ _ _ (.lst rl.rev hp) q⟩
  obtain ⟨v', e', z'⟩ := op.run (ds := [d]) (vs := [v]) (rs := [r]) (Q := Q) (Q' := Q') I.lenT rfl J hd z k
  obtain ⟨rfl, _⟩ := List.cons.inj e'
  exact z'
/-- the value at a key, or x -/
def dget2D (c k x : D) : Option D := match c with
  | .dK _ ks ds => (keyD k).bind fun k => match kIx ks k with | some j => ds[j]? | none => some x
  | .dT _ ks ds => (keyT k).bind fun k => match kIx ks k with | some j => ds[j]? | none => some x
  | _ => none
def isDct : D → Bool
  | .dK _ _ _ => true
  | .dT _ _ _ => true
  | _ => false
def sDGet2 : List D → (D → Prop) → Prop := fun ds Q => ∃ c k x d, ds = [c, k, x] ∧ isFz x = true ∧ dget2D c k x = some d ∧ isFz d = true ∧ Q d
def vDGet2 (r : Option Nat) (tc tk tx : VTE) : VTE := fun N ε Q => tc N ε fun c ε1 => isDct c = true ∧ tk N ε1 fun k ε2 => tx N ε2 fun x ε3 => sDGet2 [c, k, x] fun d => Q d (restore [r] [c] ε3)
def likeD (ks : List Kc) (xs : List D) (ls : List Kc) (ys : List D) : Prop := xs.length = ys.length ∧ ∀ (j : Nat) k x, ks[j]? = some k → xs[j]? = some x → flatD x = true ∧ ∃ i, kIx ls k = some i ∧ ys[i]? = some x
def sEqD (c : Bool) : List D → (D → Prop) → Prop := fun ds Q => ∃ m ks xs n ls ys, ds = [.dK m ks xs, .dK n ls ys] ∧ likeD ks xs ls ys ∧ Q (.bl c)
end
end VL
namespace VL
open PySem PySem.Spec PyProof.Rows L2 VL
abbrev oSub := sI2 fun i j => .int (i - j)
abbrev oLt := sI2 fun i j => .bl (decide (i < j))
abbrev oGt := sI2 fun i j => .bl (decide (j < i))
abbrev oMod := sI2c (fun _ j => j ≠ 0) fun i j => .int (pmod i j)
abbrev oDiv := sI2c CDv fun i j => .int (pdiv i j)
abbrev oPow := sI2c CPow fun i j => .int (i ^ j.toNat)
def oNeg : List D → (D → Prop) → Prop := fun ds Q => ∃ i, ds = [.int i] ∧ Q (.int (-i))
theorem opn_neg {K : PySem.W.Frag} : OpN K (r1N (rU fun i => .int (-i))) oNeg := OpN.pure fun G H ds vs F Q Q' hs r q k => by
  obtain ⟨i, rfl, q⟩ := q
  obtain ⟨v, rfl, rfl, _⟩ := r.one'
  exact ⟨_, rfl, i, rfl, k (.int (-i)) _ (fun _ _ _ => ⟨rfl, rfl⟩) q⟩
section
variable {X : Cv}
theorem nv (i : Nat) {x : Str} {pos : Pos} (hN : X.N[i]? = some x := by rfl) (hv : Vis X.env.scope x := by first | exact Or.inl rfl | exact Or.inr (Or.inl rfl) | exact Or.inr (Or.inr rfl)) (hd : (x == ("__debug__" : Str)) = false := by decide) (hcd : (x == ("__classdict__" : Str)) = false := by decide) : VE X (.Name x pos) (vVar i) := ve_var hN hv hd hcd
theorem nm (i : Nat) {x : Str} {pos : Pos} (hN : X.N[i]? = some x := by rfl) (hv : Vis X.env.scope x := by first | exact Or.inl rfl | exact Or.inr (Or.inl rfl) | exact Or.inr (Or.inr rfl)) (hd : (x == ("__debug__" : Str)) = false := by decide) (hcd : (x == ("__classdict__" : Str)) = false := by decide) : VE X (.Name x pos) (vMov i) := ve_mov hN hv hd hcd
theorem nf (i : Nat) {x : Str} {pos : Pos} (hN : X.N[i]? = some x := by rfl) (hv : Vis X.env.scope x := by first | exact Or.inl rfl | exact Or.inr (Or.inl rfl) | exact Or.inr (Or.inr rfl)) (hd : (x == ("__debug__" : Str)) = false := by decide) (hcd : (x == ("__classdict__" : Str)) = false := by decide) : VE X (.Name x pos) (vFrz i) := ve_frz hN hv hd hcd
theorem nq (i : Nat) {x : Str} {pos : Pos} (hN : X.N[i]? = some x := by rfl) (hv : Vis X.env.scope x := by first | exact Or.inl rfl | exact Or.inr (Or.inl rfl) | exact Or.inr (Or.inr rfl)) (hd : (x == ("__debug__" : Str)) = false := by decide) (hcd : (x == ("__classdict__" : Str)) = false := by decide) : VQ X (.Name x pos) (vVar i) := vq_var hN hv hd hcd
theorem np (i : Nat) {x : Str} {pos : Pos} (hN : X.N[i]? = some x := by rfl) (hv : Vis X.env.scope x := by first | exact Or.inl rfl | exact Or.inr (Or.inl rfl) | exact Or.inr (Or.inr rfl)) (hd : (x == ("__debug__" : Str)) = false := by decide) (hcd : (x == ("__classdict__" : Str)) = false := by decide) : VP X (.Name x pos) i (vpName i) := vp_name hN hv hd hcd
theorem ng (i : Nat) {x : Str} {pos : Pos} (hN : X.N[i]? = some x := by rfl) (hv : Vis X.env.scope x := by first | exact Or.inl rfl | exact Or.inr (Or.inl rfl) | exact Or.inr (Or.inr rfl)) (hd : (x == ("__debug__" : Str)) = false := by decide) (hcd : (x == ("__classdict__" : Str)) = false := by decide) : VG X (.Name x pos) (some i) (vMov i) := vg_ref hN hv hd hcd
theorem sa (i : Nat) {x : Str} {e : Expr} {t : VTE} {pos pos' : Pos} (hN : X.N.Nodup) (h : VE X e t) (hi : X.N[i]? = some x := by rfl) (hx : Loc X.env.scope x := by first | exact Or.inl rfl | exact Or.inr rfl) (hk : X.κ[i]? ≠ some true := by exact ne_of_beq_false rfl) (hs : swapsWith e (some (.Name x pos')) pos.line X.env = pure false := by rfl)
    (hf : X.fn x = true ∨ X.env.scope.names.lookup x = some .local := by first | exact .inl rfl | exact .inr rfl) : VS X (.Assign [.Name x pos'] e pos) (vAsg i t) := vs_asg hN hi hx hk h hs hf
theorem tn (i : Nat) {x : Str} {pos : Pos} (hN : X.N.Nodup) (hi : X.N[i]? = some x := by rfl) (hx : Loc X.env.scope x := by first | exact Or.inl rfl | exact Or.inr rfl) (hk : X.κ[i]? ≠ some true := by exact ne_of_beq_false rfl)
    (hf : X.fn x = true ∨ X.env.scope.names.lookup x = some .local := by first | exact .inl rfl | exact .inr rfl) : VTa X (.Name x pos) (vName i) := vt_name hN hi hx hk hf
theorem m_app (i : Nat) {y : Str} {opos : Pos} {e : Expr} {es : List Expr} {rs : List (Option Nat)} {te : VTA} {apos cpos : Pos} (he : VA X (e :: es) rs te) (hrs : rs.all (· == none) = true := by rfl) (hN : X.N[i]? = some y := by rfl) (hv : Vis X.env.scope y := by first | exact Or.inl rfl | exact Or.inr (Or.inl rfl) | exact Or.inr (Or.inr rfl))
    (hd : (y == ("__debug__" : Str)) = false := by decide) (hcd : (y == ("__classdict__" : Str)) = false := by decide)
    (hbase : attributeBase (.Name y opos) "append" X.env (eval (.Name y opos) X.env) = eval (.Name y opos) X.env := by rfl)
    (hfew : ((backTo cpos (starEach (e :: es) X.env)).all (fun x => !x.1) && (backToKw cpos (keywordEach [] X.env)).all (fun x => x.1.isSome) && decide ((e :: es).length + ([] : List Keyword).length + (if ([] : List Keyword).isEmpty then 0 else 1) < 30)) = true := by rfl)
    (hline : (apos.endLine == cpos.line) = true := by rfl) (hs : starEach (e :: es) X.env = (false, eval e X.env) :: starEach es X.env := by rfl) (hplain : (backTo cpos (starEach es X.env)).any (·.1) = false := by rfl) :
    VE X (.Call (.Attribute (.Name y opos) "append" apos) (e :: es) [] cpos) (vMutN muAppend i te) := ve_mutN hN hv he hrs mu_append PySem.F.slot_list_append PySem.F.type_list_append mt_append hd hcd hbase hfew hline hs hplain
theorem mp_app {o e : Expr} {es : List Expr} {i : Nat} {t : VTP} {te : VTA} {apos cpos : Pos} (h : VP X o i t) (he : VAQ X (e :: es) te)
    (hbase : attributeBase o "append" X.env (eval o X.env) = eval o X.env := by rfl)
    (hfew : ((backTo cpos (starEach (e :: es) X.env)).all (fun x => !x.1) && (backToKw cpos (keywordEach [] X.env)).all (fun x => x.1.isSome) && decide ((e :: es).length + ([] : List Keyword).length + (if ([] : List Keyword).isEmpty then 0 else 1) < 30)) = true := by rfl)
    (hline : (apos.endLine == cpos.line) = true := by rfl) (hs : starEach (e :: es) X.env = (false, eval e X.env) :: starEach es X.env := by rfl) (hplain : (backTo cpos (starEach es X.env)).any (·.1) = false := by rfl) :
    VE X (.Call (.Attribute o "append" apos) (e :: es) [] cpos) (vMut muAppend i t te) := ve_mut h he mu_append PySem.F.slot_list_append PySem.F.type_list_append mt_append hbase hfew hline hs hplain
/-- a name as an argument: moved out behind the arguments that follow -/
def vaLate (i : Nat) (u : VTA) : VTA := fun N ε Q => (∃ d, ε[i]? = some (some d)) ∧ u N ε fun ds ε1 => ∃ d, ε1[i]? = some (some d) ∧ Q (d :: ds) (ε1.set i none)
theorem va_late {i : Nat} {x : Str} {pos : Pos} {es : List Expr} {rs : List (Option Nat)} {u : VTA} (k : VA X es rs u) (hN : X.N[i]? = some x) (hv : Vis X.env.scope x) (hd : (x == ("__debug__" : Str)) = false := by decide) (hcd : (x == ("__classdict__" : Str)) = false := by decide)
    (hs : starEach (.Name x pos :: es) X.env = (false, eval (.Name x pos) X.env) :: starEach es X.env := by rfl) : VA X (.Name x pos :: es) (some i :: rs) (vaLate i u) := by
  obtain ⟨u', k1, k2⟩ := k.ex
  refine ⟨fun W => tCons (tVar i) (u' W), fun W tk => pa_cons (pe_var hN hv hd hcd) (k1 W tk) hs, fun b σ H ε T Tv W N Q Q' I q z x => ?_⟩
  obtain ⟨⟨d0, e0⟩, q⟩ := q
  obtain ⟨v, hs, _⟩ := I.mov e0
  refine ⟨v, hs, k2 b σ H ε T Tv W N _ _ I q (fun ds vs ε2 H2 J l hh q2 => ?_) x⟩
  obtain ⟨d, e, q2⟩ := q2
  obtain ⟨v', hs', J2⟩ := J.mov e
  rw [hs] at hs'
  cases hs'
  have J3 := SI.swap (A := ds) (B := [d]) (C := []) (Av := vs) (Bv := [v]) (Cv := []) (by simpa only [List.append_assoc, List.append_nil] using J2) I.lenT l rfl
  exact z (d :: ds) (v :: vs) _ H2 (by simpa using J3) (by simp [l]) ⟨hs, hh⟩ q2
theorem al (i : Nat) {x : Str} {pos : Pos} {es : List Expr} {rs : List (Option Nat)} {u : VTA} (k : VA X es rs u) (hN : X.N[i]? = some x := by rfl) (hv : Vis X.env.scope x := by first | exact Or.inl rfl | exact Or.inr (Or.inl rfl) | exact Or.inr (Or.inr rfl)) (hd : (x == ("__debug__" : Str)) = false := by decide) (hcd : (x == ("__classdict__" : Str)) = false := by decide)
    (hs : starEach (.Name x pos :: es) X.env = (false, eval (.Name x pos) X.env) :: starEach es X.env := by rfl) : VA X (.Name x pos :: es) (some i :: rs) (vaLate i u) := va_late k hN hv hd hcd hs
end
def FnAt (K : PySem.W.Frag) (mg : Str → Option Value) (x : Str) (st : Stmt) : Prop := ∃ f fd, mg x = some (.ref f) ∧ FunD K x x (defArgs st) (defBody st) (defScope st) [] [] f fd
theorem fnAt_of {K : PySem.W.Frag} {mg : Str → Option Value} {x : Str} {st : Stmt} {h : Heap} {a : Str × Option Str} (X : K.In h) (G : h.Ns mainGlobals mg) (c : (He.Fa.glo x).ok K = true) (ha : a = (x, none)) (d : ∃ fd, FunD K x x (defArgs st) (defBody st) (defScope st) [] [] (He.fAd K a) fd) : FnAt K mg x st := by
  subst ha
  obtain ⟨fd, d⟩ := d
  exact ⟨_, fd, He.glo_ok X G c, d⟩
/-- a body's reading keeps the promise -/
def Rd (n : Nat) (κ : List Bool) (m : Nat) (vsp : VSp) (t : VTS) : Prop := ∀ ds Q Ex, ds.length = n → vsp ds Q Ex → t { nx := fun ε => n ≤ ε.length ∧ Q .non (finalL κ ds ε), rt := fun r ε => n ≤ ε.length ∧ Q r (finalL κ ds ε), rx := fun cls row ε => n ≤ ε.length ∧ Ex cls row (finalL κ ds ε) } (startE m ds)
theorem Fv.mk2 {P : Program} {w : World} {K : PySem.W.Frag} {mg : Str → Option Value} {base : Heap} {x : Str} {st : Stmt} {N ps : List Str} {κ : List Bool} {k n : Nat} {vsp : VSp} {t : VTS} (F : FnAt K mg x st) (S : FnScope N ps (defScope st))
    (hb : ∀ {f fd}, FunD K x x (defArgs st) (defBody st) (defScope st) [] [] f fd → Binds K fd ps []) (hn : ps.length = n) (hN : n ≤ N.length)
    (hbody : ∀ (f : Addr) (cdv : Value) (A : Around) (outer : List Env) (s : Shared) (H : Hp) (E : XK), Room k (A.deeper (envOfC x (defScope st) s.heap.objs.size f cdv)) → VSs (bodyX P w K mg base N κ x (defScope st) f cdv A outer s H E) (defBody st) t)
    (hm : Mono vsp) (hsp : Rd n κ N.length vsp t) : Fv P w K mg base x (k + 1) n vsp := by
  obtain ⟨f, fd, h1, F⟩ := F
  exact ⟨f, fd, ps, h1, F.kp, hb F, fn_ok F S hn hN (hbody f) hm hsp⟩
theorem cx_no {P : Program} : ∀ (w : World) (H : Hp) (s : Shared) (e : Value) (s' : Shared), VL.CX P w [] H s (fun _ _ _ => False) e s' → False := fun _ _ _ _ _ h => by
  obtain ⟨_, _, _, _, _, _, _, _, _, _, _, _, z⟩ := h
  exact z
/-- the script as a tree -/
def scriptD (ns : List Int) : D := .lst false (ns.map D.int)
theorem ints_rp {K : PySem.W.Frag} {G H : Hp} : ∀ ns : List Int, RpL K G H (ns.map D.int) (ns.map V.int) []
  | [] => ⟨rfl, rfl⟩
  | n :: ns => ⟨.int n, ns.map V.int, [], [], rfl, rfl, ⟨rfl, rfl⟩, ints_rp ns⟩
theorem lawAt {l : PySem.W.OpenLaw} {w : World} {K : PySem.W.Frag} {k j : Nat} {p : Str} {mg : Str → Option Value} {fa : Addr} {h : Heap} {st : Stmt} {vsp : VSp}
    (hmg : mg ("law" : Str) = some (.ref fa)) (F : FnAt K mg "law" st)
    (hb : ∀ {f fd}, FunD K "law" "law" (defArgs st) (defBody st) (defScope st) [] [] f fd → ∀ (s : Shared) (u : Value), BindsTo s fd ⟨[u], []⟩ [(p, u)])
    (hp : ∀ {base : Heap} {f : Addr} {fd : FuncData}, FunD K "law" "law" (defArgs st) (defBody st) (defScope st) [] [] f fd → FnOk l.prog w K mg base (VL.CX l.prog w) k f fd [p] (Lift K 1 vsp))
    (hm : Mono vsp) (ht : ∀ ns : List Int, ns.length ≤ 63 → (∀ z ∈ ns, Builtin.Int.intBits z ≤ 1048576) → vsp [scriptD ns] (fun r _ => r = .bl true) (fun _ _ _ => False)) (hj : k + 300 ≤ 3 * j := by decide) :
    LamX.LawAtS l w K (VL.CX l.prog w) j 63 p mg fa h := by
  obtain ⟨f, fd, h1, F⟩ := F
  rw [hmg] at h1
  cases h1
  refine ⟨fd, [], Lift K 1 vsp, (fun _ z => nomatch z), (fun _ z => nomatch z), (fun _ z => nomatch z), hb F, fun H a ns hl hbits _ hS => ?_, fun base _ _ _ => (hp F).lib hj⟩
  refine ⟨H, [], [scriptD ns], ⟨Sub.refl, Sub.refl, ⟨rfl, rfl⟩, RpL.one.mpr ⟨a, ns.map V.int, rfl, hS, rfl, ints_rp ns⟩, List.nodup_nil, (fun _ z => nomatch z), (fun _ z => nomatch z), (fun a o e => .inl e), (fun a o e _ => e), fun j v e => by simp [callB] at e⟩, rfl, ?_⟩
  refine hm _ _ _ _ _ (fun r ds z v H' I => ?_) (fun _ _ _ z => z.elim) (ht ns hl hbits)
  subst z
  obtain ⟨G, F, su, rv, _⟩ := SI.last I (by
    have := I.lenT
    simpa using this)
  exact rv
end VL
namespace VL
open PySem PySem.Spec PyProof.Rows L2 VL
section
variable {Q : D → Prop} {x y c k : D} {i j : Int} {s t : Cs} {xs ys : List D} {m n : Bool}
theorem e_sI2 {f : Int → Int → D} : sI2 f [.int i, .int j] Q ↔ Q (f i j) := ⟨fun ⟨_, _, e, q⟩ => by cases e; exact q, fun q => ⟨_, _, rfl, q⟩⟩
theorem e_sI2c {cc : Int → Int → Prop} {f : Int → Int → D} : sI2c cc f [.int i, .int j] Q ↔ cc i j ∧ Q (f i j) := ⟨fun ⟨_, _, e, q⟩ => by cases e; exact q, fun q => ⟨_, _, rfl, q⟩⟩
theorem e_neg : oNeg [.int i] Q ↔ Q (.int (-i)) := ⟨fun ⟨_, e, q⟩ => by cases e; exact q, fun q => ⟨_, rfl, q⟩⟩
theorem e_addI : sAdd [.int i, .int j] Q ↔ Q (.int (i + j)) := ⟨fun ⟨_, _, _, e, h, q⟩ => by cases e; cases h; exact q, fun q => ⟨_, _, _, rfl, rfl, q⟩⟩
theorem e_addS : sAdd [.str s, .str t] Q ↔ s.length + t.length < 1000000 ∧ Q (.str (s ++ t)) := by
  constructor
  · rintro ⟨_, _, d, e, h, q⟩
    cases e
    have h : (if s.length + t.length < 1000000 then some (D.str (s ++ t)) else none) = some d := h
    by_cases z : s.length + t.length < 1000000
    · rw [if_pos z] at h; cases h; exact ⟨z, q⟩
    · rw [if_neg z] at h; cases h
  · rintro ⟨z, q⟩
    exact ⟨_, _, _, rfl, if_pos z, q⟩
theorem e_addT : sAdd [.tup xs, .tup ys] Q ↔ (isFzL xs = true ∧ isFzL ys = true ∧ xs.length + ys.length < 1000000) ∧ Q (.tup (xs ++ ys)) := by
  constructor
  · rintro ⟨_, _, d, e, h, q⟩
    cases e
    have h : (if (isFzL xs && isFzL ys) = true then (if xs.length + ys.length < 1000000 then some (D.tup (xs ++ ys)) else none) else none) = some d := h
    by_cases z : (isFzL xs && isFzL ys) = true
    · rw [if_pos z] at h
      by_cases z2 : xs.length + ys.length < 1000000
      · rw [if_pos z2] at h; cases h
        exact ⟨⟨(Bool.and_eq_true_iff.mp z).1, (Bool.and_eq_true_iff.mp z).2, z2⟩, q⟩
      · rw [if_neg z2] at h; cases h
    · rw [if_neg z] at h; cases h
  · rintro ⟨⟨a, b, z⟩, q⟩
    exact ⟨_, _, _, rfl, (if_pos (Bool.and_eq_true_iff.mpr ⟨a, b⟩)).trans (if_pos z), q⟩
theorem e_addL : sAdd [.lst m xs, .lst n ys] Q ↔ (isFzL xs = true ∧ isFzL ys = true ∧ xs.length + ys.length < 1000000) ∧ Q (.lst true (xs ++ ys)) := by
  constructor
  · rintro ⟨_, _, d, e, h, q⟩
    cases e
    have h : (if (isFzL xs && isFzL ys) = true then (if xs.length + ys.length < 1000000 then some (D.lst true (xs ++ ys)) else none) else none) = some d := h
    by_cases z : (isFzL xs && isFzL ys) = true
    · rw [if_pos z] at h
      by_cases z2 : xs.length + ys.length < 1000000
      · rw [if_pos z2] at h; cases h
        exact ⟨⟨(Bool.and_eq_true_iff.mp z).1, (Bool.and_eq_true_iff.mp z).2, z2⟩, q⟩
      · rw [if_neg z2] at h; cases h
    · rw [if_neg z] at h; cases h
  · rintro ⟨⟨a, b, z⟩, q⟩
    exact ⟨_, _, _, rfl, (if_pos (Bool.and_eq_true_iff.mpr ⟨a, b⟩)).trans (if_pos z), q⟩
theorem e_mulI : sMul [.int i, .int j] Q ↔ CMl i j ∧ Q (.int (i * j)) := by
  constructor
  · rintro (⟨_, _, e, h, q⟩ | ⟨_, _, e, _⟩)
    · cases e; exact ⟨h, q⟩
    · cases e
  · rintro ⟨h, q⟩
    exact .inl ⟨_, _, rfl, h, q⟩
theorem e_divmod : sDivmod [.int i, .int j] Q ↔ CDv i j ∧ Q (.tup [.int (pdiv i j), .int (pmod i j)]) := ⟨fun ⟨_, _, e, q⟩ => by cases e; exact q, fun q => ⟨_, _, rfl, q⟩⟩
/-- what == asks -/
def eqOk (x y : D) : Prop := scalD x y = true ∨ (okD 64 x = true ∧ okD 64 y = true)
theorem e_eq : sEq [x, y] Q ↔ eqOk x y ∧ Q (.bl (deq x y)) := ⟨fun ⟨_, _, e, h, q⟩ => by cases e; exact ⟨h, q⟩, fun ⟨h, q⟩ => ⟨_, _, rfl, h, q⟩⟩
theorem e_ne : sNe [x, y] Q ↔ eqOk x y ∧ Q (.bl (!deq x y)) := ⟨fun ⟨_, _, e, h, q⟩ => by cases e; exact ⟨h, q⟩, fun ⟨h, q⟩ => ⟨_, _, rfl, h, q⟩⟩
theorem eqOk_i : eqOk (.int i) (.int j) ↔ True := ⟨fun _ => trivial, fun _ => .inl rfl⟩
theorem eqOk_s : eqOk (.str s) (.str t) ↔ True := ⟨fun _ => trivial, fun _ => .inl rfl⟩
theorem eqOk_b {a b : Bool} : eqOk (.bl a) (.bl b) ↔ True := ⟨fun _ => trivial, fun _ => .inl rfl⟩
theorem eqOk_si : eqOk (.str s) (.int j) ↔ True := ⟨fun _ => trivial, fun _ => .inl rfl⟩
theorem eqOk_is : eqOk (.int i) (.str s) ↔ True := ⟨fun _ => trivial, fun _ => .inl rfl⟩
theorem deq_i : deq (.int i) (.int j) = decide (i = j) := by rw [deq, Bool.eq_iff_iff, beq_iff_eq, decide_eq_true_iff]
theorem deq_s : deq (.str s) (.str t) = decide (s = t) := by rw [deq, Bool.eq_iff_iff, beq_iff_eq, decide_eq_true_iff]
theorem deq_b {a b : Bool} : deq (.bl a) (.bl b) = decide (a = b) := by cases a <;> cases b <;> rfl
theorem deq_si : deq (.str s) (.int j) = false := rfl
theorem deq_is : deq (.int i) (.str s) = false := rfl
theorem e_isN : sIsN [x, .non] Q ↔ x ≠ .hole ∧ Q (.bl (isNon x)) := ⟨fun ⟨_, e, h, q⟩ => by cases e; exact ⟨h, q⟩, fun ⟨h, q⟩ => ⟨_, rfl, h, q⟩⟩
theorem e_notN : sNotN [x, .non] Q ↔ x ≠ .hole ∧ Q (.bl (!isNon x)) := ⟨fun ⟨_, e, h, q⟩ => by cases e; exact ⟨h, q⟩, fun ⟨h, q⟩ => ⟨_, rfl, h, q⟩⟩
theorem e_isi {T : String} : sIsi [x, .ty T] Q ↔ ∃ t, tyNm x = some t ∧ T ∈ tys ∧ Q (.bl (isT t T)) := ⟨fun ⟨_, t, _, e, h1, h2, q⟩ => by cases e; exact ⟨t, h1, h2, q⟩, fun ⟨t, h1, h2, q⟩ => ⟨_, t, _, rfl, h1, h2, q⟩⟩
theorem e_lenS : sLen [.str s] Q ↔ s.length < 1000000 ∧ Q (.int s.length) := by
  constructor
  · rintro ⟨_, l, e, h, q⟩
    cases e
    have h : (if s.length < 1000000 then some s.length else none) = some l := h
    by_cases z : s.length < 1000000
    · rw [if_pos z] at h; cases h; exact ⟨z, q⟩
    · rw [if_neg z] at h; cases h
  · rintro ⟨z, q⟩
    exact ⟨_, _, rfl, if_pos z, q⟩
theorem e_lenL : sLen [.lst m xs] Q ↔ Q (.int xs.length) := ⟨fun ⟨_, _, e, h, q⟩ => by cases e; cases h; exact q, fun q => ⟨_, _, rfl, rfl, q⟩⟩
theorem e_lenT : sLen [.tup xs] Q ↔ Q (.int xs.length) := ⟨fun ⟨_, _, e, h, q⟩ => by cases e; cases h; exact q, fun q => ⟨_, _, rfl, rfl, q⟩⟩
theorem e_lenK {ks : List Kc} : sLen [.dK m ks xs] Q ↔ Q (.int xs.length) := ⟨fun ⟨_, _, e, h, q⟩ => by cases e; cases h; exact q, fun q => ⟨_, _, rfl, rfl, q⟩⟩
theorem e_lenDT {ks : List (List Kc)} : sLen [.dT m ks xs] Q ↔ Q (.int xs.length) := ⟨fun ⟨_, _, e, h, q⟩ => by cases e; cases h; exact q, fun q => ⟨_, _, rfl, rfl, q⟩⟩
theorem e_ix : sIx [c, k] Q ↔ ∃ d, ixD c k = some d ∧ isFz d = true ∧ Q d := ⟨fun ⟨_, _, d, e, h, z, q⟩ => by cases e; exact ⟨d, h, z, q⟩, fun ⟨d, h, z, q⟩ => ⟨_, _, d, rfl, h, z, q⟩⟩
theorem ixD_l : ixD (.lst m xs) (.int i) = (ixN xs.length i).bind fun j => xs[j]? := rfl
theorem ixD_t : ixD (.tup xs) (.int i) = (ixN xs.length i).bind fun j => xs[j]? := rfl
theorem e_in {b : Bool} : sIn b [x, c] Q ↔ ∃ r, memD x c = some r ∧ Q (.bl (if b then !r else r)) := ⟨fun ⟨_, _, r, e, h, q⟩ => by cases e; exact ⟨r, h, q⟩, fun ⟨r, h, q⟩ => ⟨_, _, r, rfl, h, q⟩⟩
theorem e_min : sMin [.int i, .int j] Q ↔ Q (.int (min i j)) := ⟨fun ⟨_, _, e, q⟩ => by cases e; exact q, fun q => ⟨_, _, rfl, q⟩⟩
theorem e_max : sMax [.int i, .int j] Q ↔ Q (.int (max i j)) := ⟨fun ⟨_, _, e, q⟩ => by cases e; exact q, fun q => ⟨_, _, rfl, q⟩⟩
theorem e_list : sList [x] Q ↔ ∃ ys, listD x = some ys ∧ isFzL ys = true ∧ Q (.lst true ys) := ⟨fun ⟨_, ys, e, h, z, q⟩ => by cases e; exact ⟨ys, h, z, q⟩, fun ⟨ys, h, z, q⟩ => ⟨_, ys, rfl, h, z, q⟩⟩
theorem e_tuple : sTuple [x] Q ↔ ∃ ys, seqD x = some ys ∧ isFzL ys = true ∧ Q (.tup ys) := ⟨fun ⟨_, ys, e, h, z, q⟩ => by cases e; exact ⟨ys, h, z, q⟩, fun ⟨ys, h, z, q⟩ => ⟨_, ys, rfl, h, z, q⟩⟩
theorem e_dict {ks : List Kc} : sDict [.dK m ks xs] Q ↔ isFzL xs = true ∧ Q (.dK true ks xs) := ⟨fun ⟨_, _, _, e, z, q⟩ => by cases e; exact ⟨z, q⟩, fun ⟨z, q⟩ => ⟨_, _, _, rfl, z, q⟩⟩
theorem e_rev : sRev [.lst m xs] Q ↔ isFzL xs = true ∧ Q (.lst true xs.reverse) := ⟨fun ⟨_, _, e, z, q⟩ => by cases e; exact ⟨z, q⟩, fun ⟨z, q⟩ => ⟨_, _, rfl, z, q⟩⟩
theorem e_dget2 : sDGet2 [c, k, x] Q ↔ isFz x = true ∧ ∃ d, dget2D c k x = some d ∧ isFz d = true ∧ Q d := ⟨fun ⟨_, _, _, d, e, h1, h2, z, q⟩ => by cases e; exact ⟨h1, d, h2, z, q⟩, fun ⟨h1, d, h2, z, q⟩ => ⟨_, _, _, d, rfl, h1, h2, z, q⟩⟩
theorem e_eqD {b : Bool} {ks ls : List Kc} : sEqD b [.dK m ks xs, .dK n ls ys] Q ↔ likeD ks xs ls ys ∧ Q (.bl b) := ⟨fun ⟨_, _, _, _, _, _, e, h, q⟩ => by cases e; exact ⟨h, q⟩, fun ⟨h, q⟩ => ⟨_, _, _, _, _, _, rfl, h, q⟩⟩
theorem e_slS {lo hi : Option Int} {P : D → Prop} : (∃ d, sliceD (.str s) lo hi = some d ∧ P d) ↔ s.length < 1000000 ∧ P (.str (cutL s lo hi)) := by
  constructor
  · rintro ⟨d, h, q⟩
    have h : (if s.length < 1000000 then some (D.str (cutL s lo hi)) else none) = some d := h
    by_cases z : s.length < 1000000
    · rw [if_pos z] at h; cases h; exact ⟨z, q⟩
    · rw [if_neg z] at h; cases h
  · rintro ⟨z, q⟩
    exact ⟨_, if_pos z, q⟩
theorem e_slL {lo hi : Option Int} {P : D → Prop} : (∃ d, sliceD (.lst m xs) lo hi = some d ∧ P d) ↔ isFzL xs = true ∧ P (.lst true (cutL xs lo hi)) := by
  constructor
  · rintro ⟨d, h, q⟩
    have h : (if isFzL xs = true then some (D.lst true (cutL xs lo hi)) else none) = some d := h
    by_cases z : isFzL xs = true
    · rw [if_pos z] at h; cases h; exact ⟨z, q⟩
    · rw [if_neg z] at h; cases h
  · rintro ⟨z, q⟩
    exact ⟨_, if_pos z, q⟩
theorem e_slT {lo hi : Option Int} {P : D → Prop} : (∃ d, sliceD (.tup xs) lo hi = some d ∧ P d) ↔ isFzL xs = true ∧ P (.tup (cutL xs lo hi)) := by
  constructor
  · rintro ⟨d, h, q⟩
    have h : (if isFzL xs = true then some (D.tup (cutL xs lo hi)) else none) = some d := h
    by_cases z : isFzL xs = true
    · rw [if_pos z] at h; cases h; exact ⟨z, q⟩
    · rw [if_neg z] at h; cases h
  · rintro ⟨z, q⟩
    exact ⟨_, if_pos z, q⟩
end
theorem isDct_K {m : Bool} {ks : List Kc} {xs : List D} : isDct (.dK m ks xs) = true := rfl
theorem isDct_T {m : Bool} {ks : List (List Kc)} {xs : List D} : isDct (.dT m ks xs) = true := rfl
/-- handed arg a, with pre a, it answers r with post a r, the arguments being out a r then -/
def Psp {α : Type} (arg : α → List D) (pre : α → Prop) (post : α → D → Prop) (out : α → D → List D := fun a _ => arg a) : VSp := fun ds Q _ => ∃ a, ds = arg a ∧ pre a ∧ ∀ r, post a r → Q r (out a r)
theorem Psp.mono {α : Type} {arg : α → List D} {pre : α → Prop} {post : α → D → Prop} {out : α → D → List D} : Mono (Psp arg pre post out) := fun _ _ _ _ _ h _ ⟨a, e, p, q⟩ => ⟨a, e, p, fun r z => h _ _ (q r z)⟩
/-- the same by a function of the arguments -/
def Fsp {α : Type} (arg : α → List D) (pre : α → Prop) (res : α → D) (out : α → List D := arg) : VSp := fun ds Q _ => ∃ a, ds = arg a ∧ pre a ∧ Q (res a) (out a)
theorem Fsp.mono {α : Type} {arg : α → List D} {pre : α → Prop} {res : α → D} {out : α → List D} : Mono (Fsp arg pre res out) := fun _ _ _ _ _ h _ ⟨a, e, p, q⟩ => ⟨a, e, p, h _ _ q⟩
end VL
namespace VL
open PySem PySem.Spec PyProof.Rows L2 VL
theorem pmod_lit (i : Int) (n : Nat) [NeZero n] : pmod i (no_index (OfNat.ofNat n)) = i % (OfNat.ofNat n) := if_pos (by
  have : 0 < n := Nat.pos_of_ne_zero (NeZero.ne n)
  show (0 : Int) < (n : Int)
  omega)
theorem pdiv_lit (i : Int) (n : Nat) [NeZero n] : pdiv i (no_index (OfNat.ofNat n)) = i / (OfNat.ofNat n) := if_pos (by
  have : 0 < n := Nat.pos_of_ne_zero (NeZero.ne n)
  show (0 : Int) < (n : Int)
  omega)
theorem pmod_pos {i j : Int} (h : 0 < j) : pmod i j = i % j := if_pos h
theorem cml_r {i j : Int} (h : j.natAbs < 18446744073709551616) : CMl i j ↔ True := ⟨fun _ => trivial, fun _ => .inl (.inr h)⟩
theorem cml_l {i j : Int} (h : i.natAbs < 18446744073709551616) : CMl i j ↔ True := ⟨fun _ => trivial, fun _ => .inl (.inl h)⟩
theorem cml_lit_r (i : Int) (n : Nat) (h : n < 18446744073709551616) : CMl i (no_index (OfNat.ofNat n)) ↔ True := cml_r h
theorem cml_lit_l (i : Int) (n : Nat) (h : n < 18446744073709551616) : CMl (no_index (OfNat.ofNat n)) i ↔ True := cml_l h
theorem cpow_lit (m n : Nat) (h1 : n ≤ 1000000) (h2 : m < 18446744073709551616) : CPow (no_index (OfNat.ofNat m)) (no_index (OfNat.ofNat n)) ↔ True := ⟨fun _ => trivial, fun _ => ⟨Int.natCast_nonneg n, by show ((n : Nat) : Int) ≤ 1000000; omega, h2⟩⟩
theorem cdv_of {i j : Int} (h : j ≠ 0) (h2 : j.natAbs < 18446744073709551616) : CDv i j := ⟨h, by
  have h3 : j.natAbs ≠ 0 := by omega
  have : j.natAbs.log2 < 64 := (Nat.log2_lt h3).mpr h2
  omega⟩
theorem cdv_lit (i : Int) (n : Nat) [NeZero n] (h : n < 18446744073709551616) : CDv i (no_index (OfNat.ofNat n)) ↔ True := ⟨fun _ => trivial, fun _ => cdv_of (by
  have : 0 < n := Nat.pos_of_ne_zero (NeZero.ne n)
  show (n : Int) ≠ 0
  omega) h⟩
theorem ixN_nat {n i : Nat} (h : i < n) : ixN n (i : Int) = some i := by
  unfold ixN
  rw [if_pos (by omega), if_pos (by omega), Int.toNat_natCast]
theorem ixN_pos {n : Nat} {i : Int} (h0 : 0 ≤ i) (h : i < n) : ixN n i = some i.toNat := by
  unfold ixN
  rw [if_pos h0, if_pos h]
theorem ixN_lit (n i : Nat) (h : i < n) : ixN n (no_index (OfNat.ofNat i)) = some i := ixN_nat h
theorem getP_nilE {d : D} : getP d [] = some d := getP_nil d
theorem setP_nilE {d e : D} : setP d [] e = e := by cases d <;> rfl
theorem e_forU {N : VEnds} {ε : Ep} {g : VTG} {b b' : VTS} {d : D} {ds : List D} (h : b = b') : vForL g b (d :: ds) N ε ↔ g d ε fun ε1 => b' { N with nx := fun ε' => vForL g b ds N ε', ct := fun ε' => vForL g b ds N ε', bk := N.nx } ε1 := by subst h; rfl
theorem e_app {ds : List D} {y : D} {P : List D → D → Prop} : (∃ ds' res, muAppend ds [y] = some (ds', res) ∧ P ds' res) ↔ ds.length < 1000000 ∧ P (ds ++ [y]) .non := by
  constructor
  · rintro ⟨ds', res, h, p⟩
    have h : (if ds.length < 1000000 then some (ds ++ [y], D.non) else none) = some (ds', res) := h
    by_cases z : ds.length < 1000000
    · rw [if_pos z] at h; cases h; exact ⟨z, p⟩
    · rw [if_neg z] at h; cases h
  · rintro ⟨z, p⟩
    exact ⟨_, _, if_pos z, p⟩
theorem lst_inj {m n : Bool} {a b : List D} : (D.lst m a = D.lst n b) = (m = n ∧ a = b) := D.lst.injEq ..
theorem isT_nonetype_int : isT "NoneType" "int" = false := by decide
theorem isT_nonetype_bool : isT "NoneType" "bool" = false := by decide
theorem isT_nonetype_str : isT "NoneType" "str" = false := by decide
theorem isT_nonetype_list : isT "NoneType" "list" = false := by decide
theorem isT_nonetype_tuple : isT "NoneType" "tuple" = false := by decide
theorem isT_nonetype_dict : isT "NoneType" "dict" = false := by decide
theorem isT_int_int : isT "int" "int" = true := by decide
theorem isT_int_bool : isT "int" "bool" = false := by decide
theorem isT_int_str : isT "int" "str" = false := by decide
theorem isT_int_list : isT "int" "list" = false := by decide
theorem isT_int_tuple : isT "int" "tuple" = false := by decide
theorem isT_int_dict : isT "int" "dict" = false := by decide
theorem isT_bool_int : isT "bool" "int" = true := by decide
theorem isT_bool_bool : isT "bool" "bool" = true := by decide
theorem isT_bool_str : isT "bool" "str" = false := by decide
theorem isT_bool_list : isT "bool" "list" = false := by decide
theorem isT_bool_tuple : isT "bool" "tuple" = false := by decide
theorem isT_bool_dict : isT "bool" "dict" = false := by decide
theorem isT_str_int : isT "str" "int" = false := by decide
theorem isT_str_bool : isT "str" "bool" = false := by decide
theorem isT_str_str : isT "str" "str" = true := by decide
theorem isT_str_list : isT "str" "list" = false := by decide
theorem isT_str_tuple : isT "str" "tuple" = false := by decide
theorem isT_str_dict : isT "str" "dict" = false := by decide
theorem isT_list_int : isT "list" "int" = false := by decide
theorem isT_list_bool : isT "list" "bool" = false := by decide
theorem isT_list_str : isT "list" "str" = false := by decide
theorem isT_list_list : isT "list" "list" = true := by decide
theorem isT_list_tuple : isT "list" "tuple" = false := by decide
theorem isT_list_dict : isT "list" "dict" = false := by decide
theorem isT_tuple_int : isT "tuple" "int" = false := by decide
theorem isT_tuple_bool : isT "tuple" "bool" = false := by decide
theorem isT_tuple_str : isT "tuple" "str" = false := by decide
theorem isT_tuple_list : isT "tuple" "list" = false := by decide
theorem isT_tuple_tuple : isT "tuple" "tuple" = true := by decide
theorem isT_tuple_dict : isT "tuple" "dict" = false := by decide
theorem isT_dict_int : isT "dict" "int" = false := by decide
theorem isT_dict_bool : isT "dict" "bool" = false := by decide
theorem isT_dict_str : isT "dict" "str" = false := by decide
theorem isT_dict_list : isT "dict" "list" = false := by decide
theorem isT_dict_tuple : isT "dict" "tuple" = false := by decide
theorem isT_dict_dict : isT "dict" "dict" = true := by decide
theorem inT_int : ("int" ∈ tys) = True := eq_true (by decide)
theorem inT_bool : ("bool" ∈ tys) = True := eq_true (by decide)
theorem inT_str : ("str" ∈ tys) = True := eq_true (by decide)
theorem inT_list : ("list" ∈ tys) = True := eq_true (by decide)
theorem inT_tuple : ("tuple" ∈ tys) = True := eq_true (by decide)
theorem inT_dict : ("dict" ∈ tys) = True := eq_true (by decide)
end VL
namespace VL
open PySem PySem.Spec PyProof.Rows L2 VL
section
variable {K : PySem.W.Frag} {G H H' : Hp}
theorem Rp.view (hs : Sub G H) {d : D} {v : V} {F : List Addr} (r : Rp K G H d v F) : Rp K H H (frz d) v [] := Rp.freeze hs (fun _ _ => rfl) r
theorem Rp.up {d : D} {v : V} (r : Rp K H H d v []) (h : Sub H H') : Rp K H' H' d v [] := r.mono h fun _ z => nomatch z
theorem RpL.up {ds : List D} {vs : List V} (r : RpL K H H ds vs []) (h : Sub H H') : RpL K H' H' ds vs [] := r.mono h fun _ z => nomatch z
theorem si_view {ds : List D} {vs : List V} (r : RpL K H H ds vs []) : SIx K (callB H H []) H [] [] [] H [] ds vs :=
  ⟨Sub.refl, Sub.refl, ⟨rfl, rfl⟩, r, List.nodup_nil, (fun _ z => nomatch z), (fun _ z => nomatch z), (fun a o e => .inl e), (fun a o e _ => e), fun j v e => by simp [callB] at e⟩
end
/-- a view's reading: the slots stay as they are -/
abbrev VTV := Ep → (D → Prop) → Prop
abbrev VTVs := Ep → (List D → Prop) → Prop
structure VV (X : Cv) (e : Expr) (t : VTV) : Prop where
  ex : ∃ t' : WX → TE, (∀ W, Takes X.toCx W → PE X.toCx e (t' W)) ∧ ∀ (b : Bx X) σ H ε T Tv W (Q : D → Prop) (Q' : VK), SI X.K b.1 σ H ε T Tv → t ε Q →
    (∀ d v H', Sub H H' → Rp X.K H' H' d v [] → Q d → Q' v H') → t' W σ H Q'
structure VVs (X : Cv) (es : List Expr) (t : VTVs) : Prop where
  ex : ∃ t' : WX → TA, (∀ W, Takes X.toCx W → PA X.toCx es (t' W)) ∧ ∀ (b : Bx X) σ H ε T Tv W (Q : List D → Prop) (Q' : List V → Hp → Prop), SI X.K b.1 σ H ε T Tv → t ε Q →
    (∀ ds vs H', Sub H H' → RpL X.K H' H' ds vs [] → ds.length = es.length → Q ds → Q' vs H') → t' W σ H Q'
section
variable {X : Cv}
def wName (i : Nat) : VTV := fun ε Q => ∃ d, ε[i]? = some (some d) ∧ Q (frz d)
def wC (d : D) : VTV := fun _ Q => Q d
def wNil : VTVs := fun _ Q => Q []
def wCons (t : VTV) (u : VTVs) : VTVs := fun ε Q => t ε fun d => u ε fun ds => Q (d :: ds)
def wOp (op : List D → (D → Prop) → Prop) (t : VTVs) : VTV := fun ε Q => t ε fun ds => op ds fun d => Q (frz d)
def w2 (a b : VTV) : VTVs := wCons a (wCons b wNil)
def w1 (a : VTV) : VTVs := wCons a wNil
def wCall (vsp : VSp) (t : VTVs) : VTV := fun ε Q => t ε fun ds => vsp ds (fun r _ => Q (frz r)) (fun _ _ _ => False)
def wTup (t : VTVs) : VTV := fun ε Q => t ε fun ds => ds.length ≤ 1000 ∧ Q (.tup ds)
def vView (t : VTV) : VTE := fun _ ε Q => t ε fun d => flatD d = true ∧ Q d ε
def vViewT (t : VTV) : VTT := fun _ ε Q => t ε fun d => ∃ c, d = .bl c ∧ Q c ε
theorem wv_name (i : Nat) {x : Str} {pos : Pos} (hN : X.N[i]? = some x := by rfl) (hv : Vis X.env.scope x := by first | exact Or.inl rfl | exact Or.inr (Or.inl rfl) | exact Or.inr (Or.inr rfl)) (hd : (x == ("__debug__" : Str)) = false := by decide) (hcd : (x == ("__classdict__" : Str)) = false := by decide) : VV X (.Name x pos) (wName i) := by
  refine ⟨fun _ => tVar i, fun _ _ => pe_var hN hv hd hcd, fun b σ H ε T Tv W Q Q' I h k => ?_⟩
  obtain ⟨d, e, q⟩ := h
  obtain ⟨v, hs, J⟩ := I.mov e
  obtain ⟨G, F, su, r⟩ := J.last I.lenT
  exact ⟨v, hs, k (frz d) v H Sub.refl (r.view su) q⟩
theorem wv_of {e : Expr} {v : V} {d : D} (h : PE X.toCx e (tC v)) (r : ∀ G H, Rp X.K G H d v []) : VV X e (wC d) :=
  ⟨fun _ => tC v, fun _ _ => h, fun b σ H ε T Tv W Q Q' I q k => k d v H Sub.refl (r H H) q⟩
theorem wv_int {i j pos} : VV X (.Constant (.int i) j pos) (wC (.int i)) := wv_of pe_int fun _ _ => ⟨rfl, rfl⟩
theorem wv_str {s : Cs} {x : Str} {j pos} (h : x.cps.toList = s) : VV X (.Constant (.str x) j pos) (wC (.str s)) := wv_of pe_str fun _ _ => ⟨by rw [← h, toS_cps], rfl⟩
theorem wvs_nil : VVs X [] wNil := ⟨fun _ => tNil, fun _ _ => pa_nil, fun b σ H ε T Tv W Q Q' I q k => k [] [] H Sub.refl ⟨rfl, rfl⟩ rfl q⟩
theorem wvs_cons {e : Expr} {es : List Expr} {t : VTV} {u : VTVs} (h : VV X e t) (k : VVs X es u) (hs : starEach (e :: es) X.env = (false, eval e X.env) :: starEach es X.env := by rfl) : VVs X (e :: es) (wCons t u) := by
  obtain ⟨t', h1, h2⟩ := h.ex
  obtain ⟨u', k1, k2⟩ := k.ex
  refine ⟨fun W => tCons (t' W) (u' W), fun W tk => pa_cons (h1 W tk) (k1 W tk) hs, fun b σ H ε T Tv W Q Q' I q z => ?_⟩
  refine h2 b σ H ε T Tv W _ _ I q fun d v H1 s1 r1 q1 => ?_
  refine k2 b σ H1 ε T Tv W _ _ (I.grow s1) q1 fun ds vs H2 s2 r2 l q2 => ?_
  exact z (d :: ds) (v :: vs) H2 (s1.trans s2) ⟨v, vs, [], [], rfl, rfl, r1.up s2, r2⟩ (by simp [l]) q2
/-- an operation on views -/
theorem OpN.look {K : PySem.W.Frag} {r : List V → Hp → VK → Prop} {op : List D → (D → Prop) → Prop} (h : OpN K r op) {H : Hp} {ds : List D} {vs : List V} {Q : D → Prop} {Q' : VK} (rr : RpL K H H ds vs []) (q : op ds fun d => Q (frz d))
    (k : ∀ d v H', Sub H H' → Rp K H' H' d v [] → Q d → Q' v H') : r vs H Q' := by
  have I : SI K (callB H H []) [] H [] ([] ++ ds) ([] ++ vs) := ⟨H, [], [], si_view rr⟩
  refine h (callB H H []) [] H [] [] [] ds vs _ Q' rfl rr.len I q fun d v H' s J z => ?_
  have J2 : SI K (callB H H []) [] H' [] (ds ++ [d]) (vs ++ [v]) := by simpa using J
  obtain ⟨G, F, su, rd⟩ := J2.last rr.len
  exact k (frz d) v H' s (rd.view su) z
theorem vt_cmpW {e1 e2 : Expr} {o : CmpOp} {ta tb : VTV} {r : R2} {op : List D → (D → Prop) → Prop} {pos : Pos} (ho : OpR X.toCx (compareOp o) r) (hp : OpN X.K (r2N r) op) (ha : VV X e1 ta) (hb : VV X e2 tb) (hm : behindInMarks o e2 = false) : VT X (.Compare e1 [o] [e2] pos) (vViewT (wOp op (w2 ta tb))) := by
  obtain ⟨ta', a1, a2⟩ := ha.ex
  obtain ⟨tb', b1, b2⟩ := hb.ex
  refine ⟨fun W => tTest (tOp r (ta' W) (tb' W)), fun W tk => pt_cmpR ho (a1 W tk) (b1 W tk) hm, fun b σ H ε T Tv W N Q Q' I q k x => ?_⟩
  refine a2 b σ H ε T Tv W _ _ I q fun d v H1 s1 r1 q1 => b2 b σ H1 ε T Tv W _ _ (I.grow s1) q1 fun d2 v2 H2 s2 r2 q2 => ?_
  obtain ⟨v', w', e, z⟩ := hp.look (ds := [d, d2]) (vs := [v, v2]) (H := H2) (Q := fun d => ∃ c, d = .bl c ∧ Q c ε) (Q' := fun u H' => ∃ c, u = .bl c ∧ Q' c H') ⟨v, _, [], [], rfl, rfl, r1.up s2, v2, [], [], [], rfl, rfl, r2, rfl, rfl⟩ q2 fun d v H' s r z => by
    obtain ⟨c, rfl, z⟩ := z
    obtain ⟨rfl, _⟩ := r
    exact ⟨c, rfl, k c ε H' (I.grow ((s1.trans s2).trans s)) z⟩
  obtain ⟨rfl, e2⟩ := List.cons.inj e
  obtain ⟨rfl, _⟩ := List.cons.inj e2
  exact z
theorem wv_un {e1 : Expr} {o : UnaryOp} {ta : VTV} {r : V → Hp → VK → Prop} {op : List D → (D → Prop) → Prop} {pos : Pos} (ho : UnR X.toCx (unaryOp o) r) (hp : OpN X.K (r1N r) op) (ha : VV X e1 ta) : VV X (.UnaryOp o e1 pos) (wOp op (w1 ta)) := by
  obtain ⟨ta', a1, a2⟩ := ha.ex
  refine ⟨fun W => tUn r (ta' W), fun W tk => pe_un ho (a1 W tk), fun b σ H ε T Tv W Q Q' I q k => ?_⟩
  refine a2 b σ H ε T Tv W _ _ I q fun d v H1 s1 r1 q1 => ?_
  obtain ⟨v', e, z⟩ := hp.look (ds := [d]) (vs := [v]) (H := H1) (Q' := Q') (RpL.one.mpr r1) q1 fun d v H' s r z => k d v H' (s1.trans s) r z
  obtain ⟨rfl, _⟩ := List.cons.inj e
  exact z
theorem wv_ix {a bb : Expr} {ta tb : VTV} {pos : Pos} {k : Nat} (hr : Room k X.A) (ha : VV X a ta) (hb : VV X bb tb) (hs : PlainIx bb) : VV X (.Subscript a bb pos) (wOp sIx (w2 ta tb)) := by
  obtain ⟨ta', a1, a2⟩ := ha.ex
  obtain ⟨tb', b1, b2⟩ := hb.ex
  refine ⟨fun W => tOp (rIxA X.K) (ta' W) (tb' W), fun W tk => pe_ix (ix_any hr) (a1 W tk) (b1 W tk) hs, fun b σ H ε T Tv W Q Q' I q k => ?_⟩
  refine a2 b σ H ε T Tv W _ _ I q fun d v H1 s1 r1 q1 => b2 b σ H1 ε T Tv W _ _ (I.grow s1) q1 fun d2 v2 H2 s2 r2 q2 => ?_
  obtain ⟨v', w', e, z⟩ := opn_ix.look (ds := [d, d2]) (vs := [v, v2]) (H := H2) (Q' := Q') ⟨v, _, [], [], rfl, rfl, r1.up s2, v2, [], [], [], rfl, rfl, r2, rfl, rfl⟩ q2 fun d v H' s r z => k d v H' ((s1.trans s2).trans s) r z
  obtain ⟨rfl, e2⟩ := List.cons.inj e
  obtain ⟨rfl, _⟩ := List.cons.inj e2
  exact z
theorem wv_callB {x : Str} {id : String} {p pos : Pos} {e : Expr} {es : List Expr} {t : VTVs} {r : List V → Hp → VK → Prop} {op : List D → (D → Prop) → Prop} (hc : CallR X.toCx (.builtin id) r) (hp : OpN X.K r op) (hg : Gl X.toCx x) (hm : X.mg x = none) (hv : bootBuiltins x = some (.builtin id)) (ha : VVs X (e :: es) t)
    (hn : x ≠ "__name__" := by decide) (hdb : (x == ("__debug__" : Str)) = false := by decide) (he : starEach (e :: es) X.env = (false, eval e X.env) :: starEach es X.env := by rfl) (hpl : (backTo pos (starEach es X.env)).any (·.1) = false := by rfl) : VV X (.Call (.Name x p) (e :: es) [] pos) (wOp op t) := by
  obtain ⟨t', a1, a2⟩ := ha.ex
  refine ⟨fun W => tCB r (t' W), fun W tk => pe_callB hc hg hm hv (a1 W tk) hn hdb he hpl, fun b σ H ε T Tv W Q Q' I q k => ?_⟩
  exact a2 b σ H ε T Tv W _ _ I q fun ds vs H1 s1 rr _ z => hp.look rr z fun d v H' s r z => k d v H' (s1.trans s) r z
theorem ve_view {e : Expr} {t : VTV} (h : VV X e t) : VE X e (vView t) := by
  obtain ⟨t', h1, h2⟩ := h.ex
  refine ⟨t', h1, fun b σ H ε T Tv W N Q Q' I q k x => ?_⟩
  refine h2 b σ H ε T Tv W _ _ I q fun d v H1 s1 r1 z => ?_
  refine k d v ε H1 ((I.grow s1).push fun G => ?_) z.2
  obtain ⟨z, _⟩ := z
  cases d <;> first | (exfalso; revert z; simp [flatD]; done) | exact r1
def isLst : D → Bool
  | .lst _ _ => true
  | _ => false
def isStr : D → Bool
  | .str _ => true
  | _ => false
def tyOk (T : String) (d : D) : Bool := (decide (T = "list") && isLst d) || (decide (T = "str") && isStr d)
theorem tyOk_run {K : PySem.W.Frag} {H : Hp} {T : String} {d : D} {v : V} {G : Hp} {F : List Addr} (hs : Sub G H) (h : tyOk T d = true) (r : Rp K G H d v F) : tyV K T v H := by
  unfold tyOk at h
  rw [Bool.or_eq_true, Bool.and_eq_true, Bool.and_eq_true, decide_eq_true_iff, decide_eq_true_iff] at h
  rcases h with ⟨rfl, h⟩ | ⟨rfl, h⟩
  · cases d with
    | lst m xs =>
      obtain ⟨p, vs, F', rfl, hq, _⟩ := r.seqD hs rfl
      rcases hq with hq | hq
      · exact .inl ⟨rfl, vs, hq⟩
      · cases m with
        | false => obtain ⟨a, us, e, s, _⟩ := r; cases e; exact .inl ⟨rfl, us, hs.sqL s⟩
        | true => obtain ⟨a, us, F2, e, s, _⟩ := r; cases e; exact .inl ⟨rfl, us, SqL.of s⟩
    | _ => cases h
  · cases d with
    | str s => obtain ⟨rfl, _⟩ := r; exact rfl
    | _ => cases h
def wMeth (T : String) (op : List D → (D → Prop) → Prop) (o : VTV) (t : VTVs) : VTV := fun ε Q => o ε fun c => tyOk T c = true ∧ t ε fun ds => op (c :: ds) fun d => Q (frz d)
theorem wv_meth {o e : Expr} {es : List Expr} {to : VTV} {t : VTVs} {T : String} {name : Str} {id : String} {r : V → List V → Hp → VK → Prop} {op : List D → (D → Prop) → Prop} {apos cpos : Pos} (pa : PlainAttrs T) (sl : Slot T name id) (ty : typeOf (.builtin id) = pure (.type "method_descriptor")) (mt : MtR X.toCx id r)
    (hp : OpN X.K (fun vs H Q => ∃ x xs, vs = x :: xs ∧ r x xs H Q) op) (ho : VV X o to) (ha : VVs X (e :: es) t)
    (hbase : attributeBase o name X.env (eval o X.env) = eval o X.env := by rfl)
    (hfew : ((backTo cpos (starEach (e :: es) X.env)).all (fun x => !x.1) && (backToKw cpos (keywordEach [] X.env)).all (fun x => x.1.isSome) && decide ((e :: es).length + ([] : List Keyword).length + (if ([] : List Keyword).isEmpty then 0 else 1) < 30)) = true := by rfl)
    (hline : (apos.endLine == cpos.line) = true := by rfl) (hs : starEach (e :: es) X.env = (false, eval e X.env) :: starEach es X.env := by rfl) (hplain : (backTo cpos (starEach es X.env)).any (·.1) = false := by rfl) :
    VV X (.Call (.Attribute o name apos) (e :: es) [] cpos) (wMeth T op to t) := by
  obtain ⟨o', a1, a2⟩ := ho.ex
  obtain ⟨t', b1, b2⟩ := ha.ex
  refine ⟨fun W => tBM X.K T r (o' W) (t' W), fun W tk => pe_bm pa sl ty mt (a1 W tk) (b1 W tk) hbase hfew hline hs hplain, fun b σ H ε T Tv W Q Q' I q k => ?_⟩
  refine a2 b σ H ε T Tv W _ _ I q fun d v H1 s1 r1 q1 => ?_
  refine ⟨tyOk_run Sub.refl q1.1 r1, b2 b σ H1 ε T Tv W _ _ (I.grow s1) q1.2 fun ds vs H2 s2 r2 l q2 => ?_⟩
  obtain ⟨x, xs, e0, z⟩ := hp.look (ds := d :: ds) (vs := v :: vs) (H := H2) (Q' := Q') ⟨v, vs, [], [], rfl, rfl, r1.up s2, r2⟩ q2 fun d v H' s r z => k d v H' ((s1.trans s2).trans s) r z
  obtain ⟨rfl, rfl⟩ := List.cons.inj e0
  exact z
/-- xs.index(x) -/
def sIndex : List D → (D → Prop) → Prop := fun ds Q => ∃ m ys x j, ds = [.lst m ys, x] ∧ ((flatD x && ys.all flatD) = true ∨ (okD 64 x && okD 64 (.lst m ys)) = true) ∧ ys.findIdx? (fun y => deq y x) = some j ∧ Q (.int (j : Nat))
def rIndexA (K : PySem.W.Frag) : V → List V → Hp → VK → Prop := fun x xs H Q => rIndex K x xs H Q ∨ rIndexD K x xs H Q
theorem mt_indexA {k : Nat} (hr : Room k X.A) : MtR X.toCx "list.index" (rIndexA X.K) := MtR.or mt_index (mt_indexD (by have := hr.un; omega))
end
end VL
namespace VL
open PySem PySem.Spec PyProof.Rows L2 VL
section
variable {K : PySem.W.Frag} {G H : Hp}
theorem RpL.getF {ds : List D} {vs : List V} {F : List Addr} {i : Nat} {d : D} (r : RpL K G H ds vs F) (h : ds[i]? = some d) : ∃ v B, vs[i]? = some v ∧ Rp K G H d v B := by
  obtain ⟨v, A, B, C, hv, _, rv, _⟩ := r.focus h
  exact ⟨v, B, hv, rv⟩
theorem pdL_get : ∀ {ys : List D} {j : Nat}, (pdL ys)[j]? = (ys[j]?).map pd
  | [], j => by simp [pdL]
  | y :: ys, 0 => by simp [pdL]
  | y :: ys, j + 1 => by
    have := pdL_get (ys := ys) (j := j)
    simpa [pdL] using this
theorem okDL_get {n : Nat} {ys : List D} (h : okDL n ys = true) {j : Nat} {y : D} (e : ys[j]? = some y) : okD n y = true := by
  rw [okDL_all] at h
  exact List.all_eq_true.mp h y (List.mem_of_getElem? e)
theorem opn_index : OpN K (fun vs H Q => ∃ x xs, vs = x :: xs ∧ rIndexA K x xs H Q) sIndex := OpN.pure fun G H ds vs F Q Q' hs r q k => by
  obtain ⟨m, ys, x, j, rfl, hk, hj, q⟩ := q
  obtain ⟨v, w, F1, F2, rfl, rl, rx⟩ := r.two
  refine ⟨v, [w], rfl, ?_⟩
  have fin : Q' (.int (j : Nat)) H := k (.int (j : Nat)) _ (fun _ _ _ => ⟨rfl, rfl⟩) q
  have hx : ∃ a us F', v = .ref a ∧ SqL K H a us ∧ RpL K G H ys us F' := by
    cases m with
    | false => obtain ⟨a, us, e, s, _, r⟩ := rl; exact ⟨a, us, _, e, hs.sqL s, r⟩
    | true => obtain ⟨a, us, F', e, s, _, r⟩ := rl; exact ⟨a, us, _, e, SqL.of s, r⟩
  obtain ⟨hjl, hjt, hjf⟩ := List.findIdx?_eq_some_iff_getElem.mp hj
  rcases hk with hk | hk
  · obtain ⟨a1, a2⟩ := Bool.and_eq_true_iff.mp hk
    obtain ⟨a, us, F', rfl, s, r⟩ := hx
    obtain ⟨i1, _⟩ := r.flat a2
    obtain ⟨z, B, hz, rz⟩ := r.getF (List.getElem?_eq_getElem hjl)
    refine .inl ⟨a, us, w, j, z, rfl, rfl, s, rx.flat a1, i1, hz, ?_, fun i z' hi hz' => ?_, fin⟩
    · rw [rz.flatEq (List.all_eq_true.mp a2 _ (List.getElem_mem hjl)) a1 rx]
      exact hjt
    · have hil : i < ys.length := by omega
      obtain ⟨z2, B2, hz2, rz2⟩ := r.getF (List.getElem?_eq_getElem hil)
      rw [hz'] at hz2
      cases hz2
      rw [rz2.flatEq (List.all_eq_true.mp a2 _ (List.getElem_mem hil)) a1 rx]
      have := hjf i hi
      simpa using this
  · obtain ⟨a1, a2⟩ := Bool.and_eq_true_iff.mp hk
    have rdp := rl.dp hs a2
    obtain ⟨a, us, F', rfl, s, r⟩ := hx
    have a3 : okDL 63 ys = true := by simpa [okD] using a2
    refine .inr ⟨a, w, pd x, pdL ys, j, pd ys[j], rfl, rfl, rdp, rx.dp hs a1, shp a2, shp a1, by rw [pdL_get, List.getElem?_eq_getElem hjl]; rfl, ?_, fun i z' hi hz' => ?_, fin⟩
    · rw [deq_pd (okDL_get a3 (List.getElem?_eq_getElem hjl)) a1]
      exact hjt
    · have hil : i < ys.length := by omega
      rw [pdL_get, List.getElem?_eq_getElem hil] at hz'
      cases hz'
      rw [deq_pd (okDL_get a3 (List.getElem?_eq_getElem hil)) a1]
      have := hjf i hi
      simpa using this
def idxOk (m : Bool) (ys : List D) (x : D) : Prop := (flatD x && ys.all flatD) = true ∨ (okD 64 x && okD 64 (.lst m ys)) = true
def idxAt (ys : List D) (x : D) : Option Nat := ys.findIdx? (fun y => deq y x)
theorem e_index {m : Bool} {ys : List D} {x : D} {Q : D → Prop} : sIndex [.lst m ys, x] Q ↔ idxOk m ys x ∧ ∃ j, idxAt ys x = some j ∧ Q (.int (j : Nat)) :=
  ⟨fun ⟨_, _, _, j, e, h, hj, q⟩ => by cases e; exact ⟨h, j, hj, q⟩, fun ⟨h, j, hj, q⟩ => ⟨_, _, _, j, rfl, h, hj, q⟩⟩
/-- any, all of a list of truths -/
def blsD : List D → Option (List Bool)
  | [] => some []
  | .bl b :: ds => (blsD ds).map (b :: ·)
  | _ => none
def sAny : List D → (D → Prop) → Prop := fun ds Q => ∃ m xs bs, ds = [.lst m xs] ∧ blsD xs = some bs ∧ Q (.bl (bs.any id))
def sAll : List D → (D → Prop) → Prop := fun ds Q => ∃ m xs bs, ds = [.lst m xs] ∧ blsD xs = some bs ∧ Q (.bl (bs.all id))
theorem e_any {m : Bool} {xs : List D} {Q : D → Prop} : sAny [.lst m xs] Q ↔ ∃ bs, blsD xs = some bs ∧ Q (.bl (bs.any id)) := ⟨fun ⟨_, _, bs, e, h, q⟩ => by cases e; exact ⟨bs, h, q⟩, fun ⟨bs, h, q⟩ => ⟨_, _, bs, rfl, h, q⟩⟩
theorem e_all {m : Bool} {xs : List D} {Q : D → Prop} : sAll [.lst m xs] Q ↔ ∃ bs, blsD xs = some bs ∧ Q (.bl (bs.all id)) := ⟨fun ⟨_, _, bs, e, h, q⟩ => by cases e; exact ⟨bs, h, q⟩, fun ⟨bs, h, q⟩ => ⟨_, _, bs, rfl, h, q⟩⟩
end
section
variable {X : Cv}
/-- x.pop() at a place -/
theorem mp_pop {o : Expr} {i : Nat} {t : VTP} {apos cpos : Pos} (h : VP X o i t)
    (hbase : attributeBase o "pop" X.env (eval o X.env) = eval o X.env := by rfl) (hline : (apos.endLine == cpos.line) = true := by rfl) : VE X (.Call (.Attribute o "pop" apos) [] [] cpos) (vMut muPop i t vaNil) :=
  ve_mut0 h mu_pop PySem.F.slot_list_pop PySem.F.type_list_pop mt_pop hbase hline
/-- name op= e, ints -/
def vAug (f : Int → Int → Int) (i : Nat) (t : VTE) : VTS := fun N ε => ∃ x : Int, ε[i]? = some (some (.int x)) ∧ t N.rx ε fun d ε1 => ∃ y, d = .int y ∧ i < ε1.length ∧ N.nx (ε1.set i (some (.int (f x y))))
end
end VL
namespace VL
open PySem PySem.Spec PyProof.Rows L2 VL
theorem kap_of {κ : List Bool} {is : List Nat} (h : (is.all fun i => !(κ[i]? == some true)) = true) : ∀ i ∈ is, κ[i]? ≠ some true := fun i hi e => by
  have := List.all_eq_true.mp h i hi
  rw [e] at this
  cases this
section
variable {X : Cv}
theorem vs_setLcF {i : Nat} {y : Str} {py : Pos} {elt tg iter : Expr} {ifs : List Expr} {scope : Scope} {own : List (Str × Nat)} {pos spos : Pos} {wi : VTA} {g : VTG} {tt : VTT} {te : VTE} (hc : X.calm = true) (hN : X.N.Nodup) (ok : BlkOk X.N X.env.scope scope own) (hk : ∀ i ∈ own.map (·.2), X.κ[i]? ≠ some true) (hi : VI X tg iter wi)
    (hg : ∀ c : BI, VTo (X.blk c.1 c.2.1 scope c.2.2.1 c.2.2.2.1 c.2.2.2.2) (own.map (·.2)) tg g) (ht : ∀ c : BI, VTs (X.blk c.1 c.2.1 scope c.2.2.1 c.2.2.2.1 c.2.2.2.2) ifs tt) (he : ∀ c : BI, VE (X.blk c.1 c.2.1 scope c.2.2.1 c.2.2.2.1 c.2.2.2.2) elt te)
    (hy : X.N[i]? = some y) (hyl : X.env.scope.names.lookup y = some .local) (hky : X.κ[i]? ≠ some true) (hsw : swapsWith (.ListComp elt [⟨tg, iter, ifs, 0⟩] scope pos) (some (.Name y py)) spos.line X.env = pure true)
    (hs : ∀ x, foldedSetIterable iter X.env x = pure x := by intro _; rfl) : VS X (.Assign [.Name y py] (.ListComp elt [⟨tg, iter, ifs, 0⟩] scope pos) spos) (vAsg i (vStill (vLc (own.map (·.2)) wi g tt te))) := by
  obtain ⟨wi', w1, w2⟩ := hi.ex
  obtain ⟨g', tt', te', h1, h2, h3, run⟩ := lc_run hk hg ht he
  refine ⟨fun W => tAsg (tLc (wi' W) g' tt' te' (own.map (·.2))) (gName i), fun W tk => ps_setLc hc hN hy hyl hsw (w1 W tk) ok (fun s H C cl fp => h1 ⟨s, H, C, cl, fp⟩) (fun s H C cl fp => h2 ⟨s, H, C, cl, fp⟩) (fun s H C cl fp => h3 ⟨s, H, C, cl, fp⟩) hs, fun b σ H ε T Tv W N E I q l x => ?_⟩
  exact w2 b σ H ε T Tv W N.rx _ _ I q (fun ds R Rv J ε1 H1 I1 hr wk z => run b σ H1 ε1 T Tv R Rv ds J (fun acc ε' => i < ε'.length ∧ N.nx (ε'.set i (some (frz (.lst true acc))))) _ I1 I.lenT hr wk z fun acc v ε' H' I' z' => l.nx _ H' _ ((I'.freeze I.lenT).store I.lenT z'.1 (b.free hky)) z'.2) x
def wLst (t : VTVs) : VTV := fun ε Q => t ε fun ds => ds.length ≤ 1000 ∧ Q (.lst false ds)
theorem wv_tup {es : List Expr} {t : VTVs} {x1 : Nat} {pos : Pos} (h : VVs X es t) : VV X (.Tuple es x1 pos) (wTup t) := by
  obtain ⟨t', h1, h2⟩ := h.ex
  refine ⟨fun W => tTup (t' W), fun W tk => pe_tup (h1 W tk), fun b σ H ε T Tv W Q Q' I q k => ?_⟩
  refine h2 b σ H ε T Tv W _ _ I q fun ds vs H1 s1 rr l z => ?_
  refine ⟨k1000 (by rw [← rr.len]; exact z.1), fun p hp => k (.tup ds) _ _ (s1.trans (Sub.laid hp)) ⟨p, vs, rfl, upd_same, rr.up (Sub.laid hp)⟩ z.2⟩
theorem wv_lst {es : List Expr} {t : VTVs} {pos : Pos} (h : VVs X es t) : VV X (.List es pos) (wLst t) := by
  obtain ⟨t', h1, h2⟩ := h.ex
  refine ⟨fun W => tLst (t' W), fun W tk => pe_lst (h1 W tk), fun b σ H ε T Tv W Q Q' I q k => ?_⟩
  refine h2 b σ H ε T Tv W _ _ I q fun ds vs H1 s1 rr l z => ?_
  refine ⟨k1000 (by rw [← rr.len]; exact z.1), fun p hp => k (.lst false ds) _ _ (s1.trans (Sub.laid hp)) ⟨p, vs, rfl, SqL.of upd_same, rfl, rr.up (Sub.laid hp)⟩ z.2⟩
end
end VL
namespace VL
open PySem PySem.Spec PyProof.Rows L2 VL
def setAt {α : Type} (l : List α) (z : α) (i : Nat) (x : α) : List α := (l ++ List.replicate (i + 1 - l.length) z).set i x
/-- the context in which slot i is kept -/
abbrev Cv.kp (X : Cv) (i : Nat) : Cv := { X with κ := setAt X.κ false i true }
section
variable {X : Cv} {tg : Expr}
/-- for over a list of ours in slot i, moved out for the while -/
def vForO (i : Nat) (w : List D → List D) (g : VTG) (body : VTS) : VTS := fun N ε => ∃ m xs, ε[i]? = some (some (.lst m xs)) ∧ isFzL xs = true ∧
  vForL g body (w xs) { nx := fun ε' => N.nx (ε'.set i (some (.lst m xs))), rt := fun d ε' => N.rt d (ε'.set i (some (.lst m xs))), rx := N.rx } (ε.set i none)
end
end VL
namespace VL
open PySem PySem.Spec PyProof.Rows L2 VL
end VL
namespace VL
open PySem PySem.Spec PyProof.Rows L2 VL
/-- an operand: a number, a name -/
abbrev Opd := Sum Int Cs
def opD : Opd → D
  | .inl i => .int i
  | .inr s => .str s
theorem opD_fz (a : Opd) : isFz (opD a) = true := by cases a <;> rfl
def Cs.good (s : Cs) : Bool := s.all fun c => decide (c < 1114112)
def Opd.good : Opd → Bool
  | .inl _ => true
  | .inr s => Cs.good s
/-- a node of a graph -/
inductive Nd where
  | sum (x : Cs) (a : Opd) (s : Cs) (b : Opd) (to : Nat)
  | test (a : Opd) (s : Cs) (b : Opd) (y n : Nat)
  | fin
  | spin
abbrev cSum : Cs := [115, 117, 109]
abbrev cTest : Cs := [116, 101, 115, 116]
abbrev cEnd : Cs := [101, 110, 100]
abbrev cSpin : Cs := [115, 112, 105, 110]
def ndL : Nd → List D
  | .sum x a s b to => [.str cSum, .str x, opD a, .str s, opD b, .int (to : Int)]
  | .test a s b y n => [.str cTest, opD a, .str s, opD b, .int (y : Int), .int (n : Int)]
  | .fin => [.str cEnd]
  | .spin => [.str cSpin]
def ndD (x : Nd) : D := .tup (ndL x)
/-- its ways, the no ahead -/
def goals : Nd → List Nat
  | .sum _ _ _ _ to => [to]
  | .test _ _ _ y n => [n, y]
  | _ => []
def waysN : Nd → List Nat
  | .sum _ _ _ _ to => [to]
  | .test _ _ _ y n => [y, n]
  | _ => []
theorem waysN_eq (x : Nd) : waysN x = (goals x).reverse := by cases x <;> rfl
def Nd.good : Nd → Bool
  | .sum x a s b _ => Cs.good x && (a.good && (Cs.good s && b.good))
  | .test a s b _ _ => a.good && (Cs.good s && b.good)
  | _ => true
def Nd.ok (n : Nat) (x : Nd) : Prop := ∀ g ∈ goals x, g < n
theorem isFzL_nd (x : Nd) : isFzL (ndL x) = true := by cases x <;> simp [ndL, isFzL, isFz, opD_fz]
theorem isFz_nd (x : Nd) : isFz (ndD x) = true := isFzL_nd x
theorem frz_nd (x : Nd) : frz (ndD x) = ndD x := frz_id (isFz_nd x)
theorem isFzL_nds (g : List Nd) : isFzL (g.map ndD) = true := by rw [isFzL_all]; simp [isFz_nd]
theorem frzL_nds (g : List Nd) : frzL (g.map ndD) = g.map ndD := by
  rw [frzL_map, List.map_map]
  exact List.map_congr_left fun x _ => frz_nd x
structure Wst where
  begun : List Nat
  trail : List (Nat × Nat)
  done : List Nat
section
variable (gl : Nat → List Nat)
def wstep : Wst → Wst
  | ⟨b, [], d⟩ => ⟨b, [], d⟩
  | ⟨b, (h, s) :: t, d⟩ => match (gl h)[s]? with
    | none => ⟨b, t, d ++ [h]⟩
    | some g => if g ∈ b then ⟨b, (h, s + 1) :: t, d⟩ else ⟨b ++ [g], (g, 0) :: (h, s + 1) :: t, d⟩
def wrun : Nat → Wst → Wst
  | 0, s => s
  | n + 1, s => if s.trail = [] then s else wrun n (wstep gl s)
/-- the numbers of the nodes, the one finished last ahead -/
def wfuel (n : Nat) : Nat := ((List.range n).map fun x => (gl x).length + 2).sum
def orderAt (n st : Nat) : List Nat := (wrun gl (wfuel gl n) ⟨[st], [(st, 0)], []⟩).done.reverse
def orderOf (n : Nat) : List Nat := orderAt gl n 0
def wmu (n : Nat) (s : Wst) : Nat := (((List.range n).filter fun x => decide (x ∉ s.begun)).map fun x => (gl x).length + 2).sum + (s.trail.map fun p => (gl p.1).length - p.2 + 1).sum
/-- what holds all along -/
structure WInvS (n st : Nat) (s : Wst) : Prop where
  rng : ∀ x ∈ s.begun, x < n
  le : ∀ p ∈ s.trail, p.2 ≤ (gl p.1).length
  mem : ∀ x, x ∈ s.begun ↔ x ∈ s.done ++ s.trail.map (·.1)
  nd : (s.done ++ s.trail.map (·.1)).Nodup
  nb : s.begun.Nodup
  last : (s.done ++ s.trail.map (·.1)).getLast? = some st
  dn : ∀ x ∈ s.done, ∀ g ∈ gl x, g ∈ s.begun
  tr : ∀ p ∈ s.trail, ∀ i g, i < p.2 → (gl p.1)[i]? = some g → g ∈ s.begun
  par : ∀ x ∈ s.done ++ s.trail.map (·.1), x ≠ st → ∃ A B p, s.done ++ s.trail.map (·.1) = A ++ x :: B ∧ p ∈ B ∧ x ∈ gl p
end
section
variable {gl : Nat → List Nat} {n : Nat}
theorem WInvS.start {st : Nat} (h0 : st < n) : WInvS gl n st ⟨[st], [(st, 0)], []⟩ where
  rng := fun x hx => by simp at hx; omega
  le := fun p hp => by simp at hp; subst hp; exact Nat.zero_le _
  mem := fun x => by simp
  nd := by simp
  nb := by simp
  last := rfl
  dn := fun x hx => by simp at hx
  tr := fun p hp i g hi => by simp at hp; subst hp; omega
  par := fun x hx hne => by simp at hx; exact absurd hx hne
theorem wstep_none {b : List Nat} {h k : Nat} {t : List (Nat × Nat)} {d : List Nat} (e : (gl h)[k]? = none) : wstep gl ⟨b, (h, k) :: t, d⟩ = ⟨b, t, d ++ [h]⟩ := by
  simp only [wstep, e]
theorem wstep_some {b : List Nat} {h k g : Nat} {t : List (Nat × Nat)} {d : List Nat} (e : (gl h)[k]? = some g) : wstep gl ⟨b, (h, k) :: t, d⟩ = if g ∈ b then ⟨b, (h, k + 1) :: t, d⟩ else ⟨b ++ [g], (g, 0) :: (h, k + 1) :: t, d⟩ := by
  simp only [wstep, e]
theorem WInvS.step {st : Nat} (hg : ∀ x < n, ∀ g ∈ gl x, g < n) {s : Wst} (I : WInvS gl n st s) : WInvS gl n st (wstep gl s) := by
  obtain ⟨b, t, d⟩ := s
  cases t with
  | nil => exact I
  | cons p t =>
    obtain ⟨h, k⟩ := p
    have hb : h ∈ b := (I.mem h).mpr (by simp)
    have kle : k ≤ (gl h).length := I.le (h, k) (by simp)
    cases e : (gl h)[k]? with
    | none =>
      rw [wstep_none e]
      have hk : k = (gl h).length := by
        have := List.getElem?_eq_none_iff.mp e
        omega
      have eo : (d ++ [h]) ++ t.map (·.1) = d ++ ((h, k) :: t).map (·.1) := by simp
      refine ⟨I.rng, fun p hp => I.le p (List.mem_cons_of_mem _ hp), fun x => ?_, ?_, I.nb, ?_, fun x hx g hgx => ?_, fun p hp => I.tr p (List.mem_cons_of_mem _ hp), ?_⟩
      · show x ∈ b ↔ x ∈ (d ++ [h]) ++ t.map (·.1)
        rw [eo]; exact I.mem x
      · show ((d ++ [h]) ++ t.map (·.1)).Nodup
        rw [eo]; exact I.nd
      · show ((d ++ [h]) ++ t.map (·.1)).getLast? = some st
        rw [eo]; exact I.last
      · rcases List.mem_append.mp hx with hx | hx
        · exact I.dn x hx g hgx
        · simp at hx
          subst hx
          obtain ⟨i, hi⟩ := List.mem_iff_getElem?.mp hgx
          exact I.tr (x, k) (by simp) i g (by rw [hk]; exact (List.getElem?_eq_some_iff.mp hi).1) hi
      · show ∀ x ∈ (d ++ [h]) ++ t.map (·.1), x ≠ st → ∃ A B p, (d ++ [h]) ++ t.map (·.1) = A ++ x :: B ∧ p ∈ B ∧ x ∈ gl p
        rw [eo]; exact I.par
    | some g =>
      have kl := (List.getElem?_eq_some_iff.mp e).1
      have gm : g ∈ gl h := List.mem_of_getElem? e
      rw [wstep_some e]
      split
      · rename_i hgb
        have em : ((h, k + 1) :: t).map (·.1) = ((h, k) :: t).map (·.1) := rfl
        refine ⟨I.rng, fun p hp => ?_, I.mem, I.nd, I.nb, I.last, I.dn, fun p hp i y hi hy => ?_, I.par⟩
        · rcases List.mem_cons.mp hp with rfl | hp
          · exact kl
          · exact I.le p (List.mem_cons_of_mem _ hp)
        · rcases List.mem_cons.mp hp with rfl | hp
          · by_cases hik : i = k
            · subst hik
              have : some g = some y := e.symm.trans hy
              cases this
              exact hgb
            · exact I.tr (h, k) (by simp) i y (by simp at hi; omega) hy
          · exact I.tr p (List.mem_cons_of_mem _ hp) i y hi hy
      · rename_i hgb
        have gn : g ∉ d ++ ((h, k) :: t).map (·.1) := fun z => hgb ((I.mem g).mpr z)
        have em : d ++ ((g, 0) :: (h, k + 1) :: t).map (·.1) = d ++ g :: ((h, k) :: t).map (·.1) := rfl
        refine ⟨fun x hx => ?_, fun p hp => ?_, fun x => ?_, ?_, List.nodup_append.mpr ⟨I.nb, by simp, fun a ha c hc e2 => by simp at hc; exact hgb (by rw [← hc, ← e2]; exact ha)⟩, ?_, fun x hx y hy => List.mem_append_left _ (I.dn x hx y hy), fun p hp i y hi hy => ?_, ?_⟩
        · rcases List.mem_append.mp hx with hx | hx
          · exact I.rng x hx
          · simp at hx; subst hx; exact hg h (I.rng h hb) x gm
        · rcases List.mem_cons.mp hp with rfl | hp
          · exact Nat.zero_le _
          rcases List.mem_cons.mp hp with rfl | hp
          · exact kl
          · exact I.le p (List.mem_cons_of_mem _ hp)
        · show x ∈ b ++ [g] ↔ x ∈ d ++ ((g, 0) :: (h, k + 1) :: t).map (·.1)
          rw [em, List.mem_append, I.mem x]
          simp only [List.mem_append, List.mem_cons, List.not_mem_nil, or_false]
          constructor
          · rintro ((h1 | h1) | h1)
            · exact .inl h1
            · exact .inr (.inr h1)
            · exact .inr (.inl h1)
          · rintro (h1 | h1 | h1)
            · exact .inl (.inl h1)
            · exact .inr h1
            · exact .inl (.inr h1)
        · show (d ++ g :: ((h, k) :: t).map (·.1)).Nodup
          have pm : (d ++ g :: ((h, k) :: t).map (·.1)).Perm (g :: (d ++ ((h, k) :: t).map (·.1))) := List.perm_middle
          exact pm.nodup_iff.mpr (List.nodup_cons.mpr ⟨gn, I.nd⟩)
        · show (d ++ g :: ((h, k) :: t).map (·.1)).getLast? = some st
          have h1 := I.last
          have : ∀ (A B : List Nat), B ≠ [] → (A ++ B).getLast? = B.getLast? := fun A B hB => by
            rw [List.getLast?_append]
            cases hq : B.getLast? with
            | none => exact absurd (List.getLast?_eq_none_iff.mp hq) hB
            | some z => rfl
          have h2 : (d ++ ((h, k) :: t).map (·.1)).getLast? = (((h, k) :: t).map (·.1)).getLast? := this _ _ (by simp)
          have h1' : (d ++ ((h, k) :: t).map (·.1)).getLast? = some st := h1
          rw [this _ _ (by simp), List.getLast?_cons]
          rw [h2] at h1'
          rw [h1']
          rfl
        · rcases List.mem_cons.mp hp with rfl | hp
          · simp at hi
          rcases List.mem_cons.mp hp with rfl | hp
          · by_cases hik : i = k
            · subst hik
              have : some g = some y := e.symm.trans hy
              cases this
              simp
            · exact List.mem_append_left _ (I.tr (h, k) (by simp) i y (by simp at hi; omega) hy)
          · exact List.mem_append_left _ (I.tr p (List.mem_cons_of_mem _ hp) i y hi hy)
        · show ∀ x ∈ d ++ g :: ((h, k) :: t).map (·.1), x ≠ st → ∃ A B p, d ++ g :: ((h, k) :: t).map (·.1) = A ++ x :: B ∧ p ∈ B ∧ x ∈ gl p
          intro x hx hne
          by_cases hxg : x = g
          · subst hxg
            exact ⟨d, ((h, k) :: t).map (·.1), h, rfl, by simp, gm⟩
          · have hx2 : x ∈ d ++ ((h, k) :: t).map (·.1) := by
              rcases List.mem_append.mp hx with hx | hx
              · exact List.mem_append_left _ hx
              · rcases List.mem_cons.mp hx with hx | hx
                · exact absurd hx hxg
                · exact List.mem_append_right _ hx
            obtain ⟨A, B, p, eo, hp, hxp⟩ := I.par x hx2 hne
            have eo : d ++ ((h, k) :: t).map (·.1) = A ++ x :: B := eo
            rcases List.append_eq_append_iff.mp eo with ⟨C, e1, e2⟩ | ⟨C, e1, e2⟩
            · -- A = d ++ C
              exact ⟨d ++ g :: C, B, p, by rw [e2]; simp, hp, hxp⟩
            · -- d = A ++ C
              cases C with
              | nil =>
                have e2' : x :: B = ((h, k) :: t).map (·.1) := e2
                exact ⟨d ++ [g], B, p, by rw [← e2']; simp, hp, hxp⟩
              | cons c C =>
                obtain ⟨rfl, rfl⟩ := List.cons.inj e2
                refine ⟨A, C ++ g :: ((h, k) :: t).map (·.1), p, by rw [e1]; simp, ?_, hxp⟩
                rcases List.mem_append.mp hp with hp | hp
                · exact List.mem_append_left _ hp
                · exact List.mem_append_right _ (List.mem_cons_of_mem _ hp)
theorem sum_without {f : Nat → Nat} {P : Nat → Bool} {g : Nat} : ∀ {l : List Nat}, l.Nodup → g ∈ l → P g = true → ((l.filter fun x => P x && !(x == g)).map f).sum + f g = ((l.filter P).map f).sum
  | [], _, h, _ => by cases h
  | x :: l, nd, h, hp => by
    obtain ⟨n1, n2⟩ := List.nodup_cons.mp nd
    by_cases e : x = g
    · subst e
      have : (l.filter fun y => P y && !(y == x)) = l.filter P := by
        apply List.filter_congr
        intro y hy
        have : (y == x) = false := by
          rw [beq_eq_false_iff_ne]
          exact fun z => n1 (z ▸ hy)
        rw [this]
        simp
      rw [List.filter_cons_of_neg (by simp), List.filter_cons_of_pos hp, this, List.map_cons, List.sum_cons]
      omega
    · have hl : g ∈ l := by
        rcases List.mem_cons.mp h with h | h
        · exact absurd h.symm e
        · exact h
      have ih := sum_without (f := f) (P := P) n2 hl hp
      have hx : (x == g) = false := by rw [beq_eq_false_iff_ne]; exact e
      cases hP : P x with
      | true =>
        rw [List.filter_cons_of_pos (by rw [hP, hx]; rfl), List.filter_cons_of_pos hP, List.map_cons, List.map_cons, List.sum_cons, List.sum_cons]
        omega
      | false =>
        rw [List.filter_cons_of_neg (by rw [hP]; simp), List.filter_cons_of_neg (by rw [hP]; simp)]
        exact ih
theorem wmu_step {st : Nat} (hg : ∀ x < n, ∀ g ∈ gl x, g < n) {s : Wst} (I : WInvS gl n st s) (ht : s.trail ≠ []) : wmu gl n (wstep gl s) < wmu gl n s := by
  obtain ⟨b, t, d⟩ := s
  cases t with
  | nil => exact absurd rfl ht
  | cons p t =>
    obtain ⟨h, k⟩ := p
    have hb : h ∈ b := (I.mem h).mpr (by simp)
    have kle : k ≤ (gl h).length := I.le (h, k) (by simp)
    cases e : (gl h)[k]? with
    | none =>
      rw [wstep_none e]
      simp only [wmu, List.map_cons, List.sum_cons]
      omega
    | some g =>
      have kl := (List.getElem?_eq_some_iff.mp e).1
      rw [wstep_some e]
      split
      · simp only [wmu, List.map_cons, List.sum_cons]
        omega
      · rename_i hgb
        have gn : g < n := hg h (I.rng h hb) g (List.mem_of_getElem? e)
        have := sum_without (f := fun x => (gl x).length + 2) (P := fun x => decide (x ∉ b)) (g := g) List.nodup_range (List.mem_range.mpr gn) (by simpa using hgb)
        have ef : ((List.range n).filter fun x => decide (x ∉ b ++ [g])) = (List.range n).filter fun x => decide (x ∉ b) && !(x == g) := by
          apply List.filter_congr
          intro x _
          by_cases h1 : x ∈ b <;> by_cases h2 : x = g <;> simp [h1, h2]
        simp only [wmu, List.map_cons, List.sum_cons]
        rw [ef]
        omega
theorem wrun_inv {st : Nat} (hg : ∀ x < n, ∀ g ∈ gl x, g < n) : ∀ {m : Nat} {s : Wst}, WInvS gl n st s → wmu gl n s ≤ m → WInvS gl n st (wrun gl m s) ∧ (wrun gl m s).trail = []
  | 0, s, I, h => by
    refine ⟨I, ?_⟩
    show s.trail = []
    cases e : s.trail with
    | nil => rfl
    | cons p t =>
      have : s.trail ≠ [] := by rw [e]; simp
      have := wmu_step hg I this
      omega
  | m + 1, s, I, h => by
    unfold wrun
    split
    · rename_i e; exact ⟨I, e⟩
    · rename_i e
      exact wrun_inv hg (I.step hg) (by have := wmu_step hg I e; omega)
theorem wmu_start {st : Nat} (h0 : st < n) : wmu gl n ⟨[st], [(st, 0)], []⟩ ≤ wfuel gl n := by
  have := sum_without (f := fun x => (gl x).length + 2) (P := fun _ => true) (g := st) List.nodup_range (List.mem_range.mpr h0) rfl
  have ef : ((List.range n).filter fun x => decide (x ∉ [st])) = (List.range n).filter fun x => true && !(x == st) := by
    apply List.filter_congr
    intro x _
    by_cases h2 : x = st <;> simp [h2]
  have e2 : ((List.range n).filter fun _ => true) = List.range n := by simp
  rw [e2] at this
  simp only [wmu, wfuel, List.map_cons, List.map_nil, List.sum_cons, List.sum_nil]
  rw [ef]
  omega
inductive Pthv (f : Nat → List Nat) (S : Nat → Prop) (a : Nat) : Nat → Prop
  | self : S a → Pthv f S a a
  | step {k t : Nat} : Pthv f S a k → t ∈ f k → S t → Pthv f S a t
theorem Pthv.mono {f : Nat → List Nat} {S S' : Nat → Prop} {a k : Nat} (h : ∀ y, S y → S' y) (p : Pthv f S a k) : Pthv f S' a k := by
  induction p with
  | self s => exact .self (h _ s)
  | step _ m s ih => exact .step ih m (h _ s)
def Anc (gl : Nat → List Nat) (L : List Nat) (g x : Nat) : Prop := List.Sublist [g, x] L ∨ Pthv gl (fun y => y = g ∨ List.Sublist [y, g] L) g x
theorem Anc.mono {L L' : List Nat} {g x : Nat} (h : L.Sublist L') : Anc gl L g x → Anc gl L' g x
  | .inl a => .inl (a.trans h)
  | .inr p => .inr (p.mono fun _ hy => hy.imp id fun z => z.trans h)
structure WAnc (gl : Nat → List Nat) (s : Wst) : Prop where
  ch : ∀ (i : Nat) (p q : Nat × Nat), s.trail[i]? = some p → s.trail[i + 1]? = some q → p.1 ∈ gl q.1
  dn : ∀ x ∈ s.done, ∀ g ∈ gl x, Anc gl (s.done ++ s.trail.map (·.1)) g x
  tr : ∀ p ∈ s.trail, ∀ i g, i < p.2 → (gl p.1)[i]? = some g → Anc gl (s.done ++ s.trail.map (·.1)) g p.1
theorem trail_path {L : List Nat} : ∀ (t : List (Nat × Nat)) (g : Nat), (∀ (i : Nat) (p q : Nat × Nat), t[i]? = some p → t[i + 1]? = some q → p.1 ∈ gl q.1) → (t.map (·.1)).Sublist L → g ∈ t.map (·.1) → ∀ h, (t.map (·.1)).head? = some h → Pthv gl (fun y => y = g ∨ List.Sublist [y, g] L) g h
  | [], g, _, _, hg, _, _ => by cases hg
  | [p], g, _, _, hg, h, hh => by
    simp at hg hh
    subst hg
    subst hh
    exact .self (.inl rfl)
  | p :: q :: t, g, ch, sl, hg, h, hh => by
    simp at hh
    subst hh
    by_cases e : g = p.1
    · subst e; exact .self (.inl rfl)
    · have hg2 : g ∈ (q :: t).map (·.1) := by
        rcases List.mem_cons.mp hg with z | z
        · exact absurd z e
        · exact z
      have sl2 : ((q :: t).map (·.1)).Sublist L := (List.sublist_cons_self p.1 _).trans sl
      have ih := trail_path (q :: t) g (fun i a b h1 h2 => ch (i + 1) a b h1 h2) sl2 hg2 q.1 rfl
      refine .step ih (ch 0 p q rfl rfl) (.inr (List.Sublist.trans ?_ sl))
      exact List.Sublist.cons_cons p.1 (List.singleton_sublist.mpr hg2)
theorem WAnc.start {st : Nat} : WAnc gl ⟨[st], [(st, 0)], []⟩ where
  ch := fun i p q _ h2 => by simp at h2
  dn := fun x hx => by simp at hx
  tr := fun p hp i g hi => by simp at hp; subst hp; omega
theorem WAnc.step {st : Nat} {s : Wst} (I : WInvS gl n st s) (J : WAnc gl s) : WAnc gl (wstep gl s) := by
  obtain ⟨b, t, d⟩ := s
  cases t with
  | nil => exact J
  | cons p t =>
    obtain ⟨h, k⟩ := p
    have kle : k ≤ (gl h).length := I.le (h, k) (by simp)
    cases e : (gl h)[k]? with
    | none =>
      rw [wstep_none e]
      have hk : k = (gl h).length := by
        have := List.getElem?_eq_none_iff.mp e
        omega
      have eo : (d ++ [h]) ++ t.map (·.1) = d ++ ((h, k) :: t).map (·.1) := by simp
      refine ⟨fun i p q h1 h2 => J.ch (i + 1) p q h1 h2, fun x hx g hg => ?_, fun p hp i g hi hgi => ?_⟩
      · show Anc gl ((d ++ [h]) ++ t.map (·.1)) g x
        rw [eo]
        rcases List.mem_append.mp hx with hx | hx
        · exact J.dn x hx g hg
        · simp at hx
          subst hx
          obtain ⟨i, hi⟩ := List.mem_iff_getElem?.mp hg
          exact J.tr (x, k) (by simp) i g (by rw [hk]; exact (List.getElem?_eq_some_iff.mp hi).1) hi
      · show Anc gl ((d ++ [h]) ++ t.map (·.1)) g p.1
        rw [eo]
        exact J.tr p (List.mem_cons_of_mem _ hp) i g hi hgi
    | some g =>
      have gm : g ∈ gl h := List.mem_of_getElem? e
      have hch : ∀ (i : Nat) (p q : Nat × Nat), ((h, k + 1) :: t)[i]? = some p → ((h, k + 1) :: t)[i + 1]? = some q → p.1 ∈ gl q.1 := fun i p q h1 h2 => by
        cases i with
        | zero =>
          cases h1
          exact J.ch 0 (h, k) q rfl h2
        | succ i => exact J.ch (i + 1) p q h1 h2
      rw [wstep_some e]
      split
      · rename_i hgb
        have hA : Anc gl (d ++ ((h, k) :: t).map (·.1)) g h := by
          rcases List.mem_append.mp ((I.mem g).mp hgb) with hd | ht
          · left
            exact List.Sublist.append (l₁ := [g]) (r₁ := [h]) (List.singleton_sublist.mpr hd) (List.singleton_sublist.mpr (by simp))
          · right
            exact trail_path ((h, k) :: t) g J.ch (List.sublist_append_right d _) ht h rfl
        refine ⟨hch, J.dn, fun p hp i y hi hy => ?_⟩
        show Anc gl (d ++ ((h, k) :: t).map (·.1)) y p.1
        rcases List.mem_cons.mp hp with rfl | hp
        · by_cases hik : i = k
          · subst hik
            have : some g = some y := e.symm.trans hy
            cases this
            exact hA
          · exact J.tr (h, k) (by simp) i y (by simp at hi; omega) hy
        · exact J.tr p (List.mem_cons_of_mem _ hp) i y hi hy
      · have sl : (d ++ ((h, k) :: t).map (·.1)).Sublist (d ++ ((g, 0) :: (h, k + 1) :: t).map (·.1)) := List.Sublist.append (List.Sublist.refl d) (List.sublist_cons_self g _)
        refine ⟨fun i p q h1 h2 => ?_, fun x hx y hy => (J.dn x hx y hy).mono sl, fun p hp i y hi hy => ?_⟩
        · cases i with
          | zero =>
            cases h1
            cases h2
            exact gm
          | succ i => exact hch i p q h1 h2
        · rcases List.mem_cons.mp hp with rfl | hp
          · simp at hi
          rcases List.mem_cons.mp hp with rfl | hp
          · by_cases hik : i = k
            · subst hik
              have : some g = some y := e.symm.trans hy
              cases this
              left
              exact List.Sublist.trans (List.Sublist.cons_cons g (List.singleton_sublist.mpr (by simp))) (List.sublist_append_right d _)
            · exact (J.tr (h, k) (by simp) i y (by simp at hi; omega) hy).mono sl
          · exact (J.tr p (List.mem_cons_of_mem _ hp) i y hi hy).mono sl
theorem wrun_anc {st : Nat} (hg : ∀ x < n, ∀ g ∈ gl x, g < n) : ∀ {m : Nat} {s : Wst}, WInvS gl n st s → WAnc gl s → WAnc gl (wrun gl m s)
  | 0, s, I, J => J
  | m + 1, s, I, J => by
    unfold wrun
    split
    · exact J
    · exact wrun_anc hg (I.step hg) (J.step I)
theorem idx_lt {a b : Nat} : ∀ {l : List Nat}, l.Nodup → List.Sublist [a, b] l → l.idxOf a < l.idxOf b
  | [], _, h => by cases h
  | c :: l, nd, h => by
    obtain ⟨n1, n2⟩ := List.nodup_cons.mp nd
    cases h with
    | cons _ h =>
      have ha : a ∈ l := h.subset (by simp)
      have hb : b ∈ l := h.subset (by simp)
      have e1 : (c == a) = false := beq_eq_false_iff_ne.mpr fun z => n1 (z ▸ ha)
      have e2 : (c == b) = false := beq_eq_false_iff_ne.mpr fun z => n1 (z ▸ hb)
      rw [List.idxOf_cons, List.idxOf_cons, e1, e2]
      have := idx_lt n2 h
      simpa using this
    | cons_cons _ h =>
      have hb : b ∈ l := h.subset (by simp)
      have e2 : (a == b) = false := beq_eq_false_iff_ne.mpr fun z => n1 (z ▸ hb)
      rw [List.idxOf_cons, List.idxOf_cons, e2]
      simp
/-- what is known of the numbers -/
structure OrdOk (gl : Nat → List Nat) (n st : Nat) (os : List Nat) : Prop where
  nd : os.Nodup
  rng : ∀ x ∈ os, x < n
  head : os.head? = some st
  closed : ∀ x ∈ os, ∀ g ∈ gl x, g ∈ os
  par : ∀ x ∈ os, x ≠ st → ∃ A B p, os = A ++ x :: B ∧ p ∈ A ∧ x ∈ gl p
  anc : ∀ x ∈ os, ∀ g ∈ gl x, List.Sublist [x, g] os ∨ Pthv gl (fun y => y = g ∨ List.Sublist [g, y] os) g x
theorem order_ok {st : Nat} (h0 : st < n) (hg : ∀ x < n, ∀ g ∈ gl x, g < n) : OrdOk gl n st (orderAt gl n st) := by
  obtain ⟨I, ht⟩ := wrun_inv hg (WInvS.start (gl := gl) h0) (wmu_start h0)
  have J := wrun_anc hg (m := wfuel gl n) (WInvS.start (gl := gl) h0) WAnc.start
  generalize hs : wrun gl (wfuel gl n) ⟨[st], [(st, 0)], []⟩ = s at I ht J
  have eo : s.done ++ s.trail.map (·.1) = s.done := by rw [ht]; simp
  have e : orderAt gl n st = s.done.reverse := by unfold orderAt; rw [hs]
  rw [e]
  have rv : ∀ a b : Nat, List.Sublist [a, b] s.done → List.Sublist [b, a] s.done.reverse := fun a b h => h.reverse
  refine ⟨?_, fun x hx => ?_, ?_, fun x hx g hgx => ?_, fun x hx hne => ?_, fun x hx g hgx => ?_⟩
  · have := I.nd
    rw [eo] at this
    exact (List.reverse_perm _).nodup_iff.mpr this
  · exact I.rng x ((I.mem x).mpr (by rw [eo]; exact List.mem_reverse.mp hx))
  · have := I.last
    rw [eo] at this
    rw [List.head?_reverse]
    exact this
  · have := I.dn x (List.mem_reverse.mp hx) g hgx
    rw [I.mem, eo] at this
    exact List.mem_reverse.mpr this
  · obtain ⟨A, B, p, e1, hp, hxp⟩ := I.par x (by rw [eo]; exact List.mem_reverse.mp hx) hne
    rw [eo] at e1
    refine ⟨B.reverse, A.reverse, p, ?_, List.mem_reverse.mpr hp, hxp⟩
    rw [e1]
    simp
  · have := J.dn x (List.mem_reverse.mp hx) g hgx
    rw [eo] at this
    rcases this with h | h
    · exact .inl (rv _ _ h)
    · exact .inr (h.mono fun y hy => hy.imp id (rv _ _))
def mapSt (p : Nat → Nat) (s : Wst) : Wst := ⟨s.begun.map p, s.trail.map fun q => (p q.1, q.2), s.done.map p⟩
structure Ren (gl gl' : Nat → List Nat) (S : Nat → Prop) (p : Nat → Nat) : Prop where
  inj : ∀ x y, S x → S y → p x = p y → x = y
  gls : ∀ x, S x → gl' (p x) = (gl x).map p
  clo : ∀ x, S x → ∀ g ∈ gl x, S g
structure InS (S : Nat → Prop) (s : Wst) : Prop where
  b : ∀ x ∈ s.begun, S x
  t : ∀ q ∈ s.trail, S q.1
theorem wstep_map {gl gl' : Nat → List Nat} {S : Nat → Prop} {p : Nat → Nat} (R : Ren gl gl' S p) {s : Wst} (I : InS S s) : wstep gl' (mapSt p s) = mapSt p (wstep gl s) ∧ InS S (wstep gl s) := by
  obtain ⟨b, t, d⟩ := s
  cases t with
  | nil => exact ⟨rfl, I⟩
  | cons q t =>
    obtain ⟨h, k⟩ := q
    have hS : S h := I.t (h, k) List.mem_cons_self
    have e1 : (gl' (p h))[k]? = ((gl h)[k]?).map p := by rw [R.gls h hS, List.getElem?_map]
    cases e : (gl h)[k]? with
    | none =>
      rw [e] at e1
      rw [wstep_none e]
      refine ⟨?_, I.b, fun q hq => I.t q (List.mem_cons_of_mem _ hq)⟩
      show wstep gl' ⟨b.map p, (p h, k) :: t.map (fun q => (p q.1, q.2)), d.map p⟩ = _
      rw [wstep_none e1]
      simp [mapSt]
    | some g =>
      rw [e] at e1
      have e1 : (gl' (p h))[k]? = some (p g) := e1
      have gS : S g := R.clo h hS g (List.mem_of_getElem? e)
      have em : p g ∈ b.map p ↔ g ∈ b := by
        constructor
        · intro z
          obtain ⟨y, hy, e2⟩ := List.mem_map.mp z
          rw [← R.inj y g (I.b y hy) gS e2]
          exact hy
        · exact fun z => List.mem_map.mpr ⟨g, z, rfl⟩
      rw [wstep_some e]
      have e3 : wstep gl' (mapSt p ⟨b, (h, k) :: t, d⟩) = if p g ∈ b.map p then ⟨b.map p, (p h, k + 1) :: t.map (fun q => (p q.1, q.2)), d.map p⟩ else ⟨b.map p ++ [p g], (p g, 0) :: (p h, k + 1) :: t.map (fun q => (p q.1, q.2)), d.map p⟩ := wstep_some e1
      rw [e3]
      by_cases hg : g ∈ b
      · rw [if_pos hg, if_pos (em.mpr hg)]
        refine ⟨rfl, I.b, fun q hq => ?_⟩
        rcases List.mem_cons.mp hq with rfl | hq
        · exact hS
        · exact I.t q (List.mem_cons_of_mem _ hq)
      · rw [if_neg hg, if_neg fun z => hg (em.mp z)]
        refine ⟨by simp [mapSt], fun x hx => ?_, fun q hq => ?_⟩
        · rcases List.mem_append.mp hx with hx | hx
          · exact I.b x hx
          · rw [List.mem_singleton.mp hx]; exact gS
        · rcases List.mem_cons.mp hq with rfl | hq
          · exact gS
          rcases List.mem_cons.mp hq with rfl | hq
          · exact hS
          · exact I.t q (List.mem_cons_of_mem _ hq)
theorem wrun_map {gl gl' : Nat → List Nat} {S : Nat → Prop} {p : Nat → Nat} (R : Ren gl gl' S p) : ∀ (m : Nat) {s : Wst}, InS S s → wrun gl' m (mapSt p s) = mapSt p (wrun gl m s)
  | 0, _, _ => rfl
  | m + 1, s, I => by
    unfold wrun
    by_cases h : s.trail = []
    · have h2 : (mapSt p s).trail = [] := by simp [mapSt, h]
      rw [if_pos h, if_pos h2]
    · have h2 : ¬(mapSt p s).trail = [] := by simp [mapSt, h]
      rw [if_neg h, if_neg h2]
      obtain ⟨e, I2⟩ := wstep_map R I
      rw [e]
      exact wrun_map R m I2
theorem wrun_end {gl : Nat → List Nat} : ∀ (m : Nat) {s : Wst}, s.trail = [] → wrun gl m s = s
  | 0, _, _ => rfl
  | m + 1, s, h => by unfold wrun; rw [if_pos h]
theorem wrun_add {gl : Nat → List Nat} : ∀ (m k : Nat) {s : Wst}, wrun gl (m + k) s = wrun gl k (wrun gl m s)
  | 0, k, s => by rw [Nat.zero_add]; rfl
  | m + 1, k, s => by
    have e : m + 1 + k = (m + k) + 1 := by omega
    rw [e]
    by_cases h : s.trail = []
    · rw [wrun_end _ h, wrun_end _ h, wrun_end _ h]
    · have e1 : wrun gl (m + k + 1) s = wrun gl (m + k) (wstep gl s) := by
        show (if s.trail = [] then s else wrun gl (m + k) (wstep gl s)) = _
        rw [if_neg h]
      have e2 : wrun gl (m + 1) s = wrun gl m (wstep gl s) := by
        show (if s.trail = [] then s else wrun gl m (wstep gl s)) = _
        rw [if_neg h]
      rw [e1, e2]
      exact wrun_add m k
theorem wrun_any {gl : Nat → List Nat} {m k : Nat} {s : Wst} (h1 : (wrun gl m s).trail = []) (h2 : (wrun gl k s).trail = []) : wrun gl m s = wrun gl k s := by
  have e1 : wrun gl (m + k) s = wrun gl m s := by rw [wrun_add, wrun_end k h1]
  have e2 : wrun gl (k + m) s = wrun gl k s := by rw [wrun_add, wrun_end m h2]
  rw [← e1, ← e2, Nat.add_comm]
theorem orderAt_map {gl gl' : Nat → List Nat} {S : Nat → Prop} {p : Nat → Nat} {n n' st : Nat} (R : Ren gl gl' S p) (hS : S st) (h0 : st < n) (hg : ∀ x < n, ∀ g ∈ gl x, g < n) (h0' : p st < n') (hg' : ∀ x < n', ∀ g ∈ gl' x, g < n') :
    orderAt gl' n' (p st) = (orderAt gl n st).map p := by
  have t1 := (wrun_inv hg (WInvS.start (gl := gl) h0) (wmu_start h0)).2
  have t2 := (wrun_inv hg' (WInvS.start (gl := gl') h0') (wmu_start h0')).2
  have I : InS S ⟨[st], [(st, 0)], []⟩ := ⟨fun x hx => by rw [List.mem_singleton.mp hx]; exact hS, fun q hq => by rw [List.mem_singleton.mp hq]; exact hS⟩
  have e := wrun_map R (wfuel gl n) I
  have e2 : mapSt p ⟨[st], [(st, 0)], []⟩ = ⟨[p st], [(p st, 0)], []⟩ := rfl
  rw [e2] at e
  have t3 : (wrun gl' (wfuel gl n) ⟨[p st], [(p st, 0)], []⟩).trail = [] := by rw [e]; simp [mapSt, t1]
  have e3 := wrun_any t2 t3
  unfold orderAt
  rw [e3, e, List.map_reverse]
  rfl
theorem map_idx {os : List Nat} (nd : os.Nodup) : (os.map fun x => os.idxOf x) = List.range os.length := by
  apply List.ext_getElem
  · simp
  · intro i h1 h2
    simp only [List.length_map] at h1
    rw [List.getElem_map, List.getElem_range]
    exact nd.idxOf_getElem i h1
end
def glOf (raw : List Nd) (x : Nat) : List Nat := match raw[x]? with
  | some nd => goals nd
  | none => []
def Nd.ren (f : Nat → Nat) : Nd → Nd
  | .sum x a s b to => .sum x a s b (f to)
  | .test a s b y n => .test a s b (f y) (f n)
  | .fin => .fin
  | .spin => .spin
theorem goals_ren (f : Nat → Nat) (x : Nd) : goals (x.ren f) = (goals x).map f := by cases x <;> rfl
theorem good_ren (f : Nat → Nat) (x : Nd) : (x.ren f).good = x.good := by cases x <;> rfl
def graphAt (raw : List Nd) (st : Nat) : List Nd :=
  let os := orderAt (glOf raw) raw.length st
  os.map fun o => ((raw[o]?).getD .fin).ren fun x => os.idxOf x
def graphOf (raw : List Nd) : List Nd := graphAt raw 0
/-- a graph: its ways lead within it; each node but the first has a way in from an earlier one -/
structure GOk (g : List Nd) : Prop where
  pos : 0 < g.length
  ok : ∀ x ∈ g, x.ok g.length
  good : ∀ x ∈ g, x.good = true
  par : ∀ (k : Nat), 0 < k → k < g.length → ∃ p x, p < k ∧ g[p]? = some x ∧ k ∈ goals x
  anc : ∀ k t : Nat, t ≤ k → t ∈ glOf g k → Pthv (glOf g) (fun y => t ≤ y) t k
  can : orderAt (glOf g) g.length 0 = List.range g.length
theorem nodup_get {l : List Nat} (nd : l.Nodup) {i j : Nat} (hi : i < l.length) (hj : j < l.length) (e : l[i] = l[j]) : i = j := by
  have h := List.pairwise_iff_getElem.mp nd
  rcases Nat.lt_trichotomy i j with q | q | q
  · exact absurd e (h i j hi hj q)
  · exact q
  · exact absurd e.symm (h j i hj hi q)
theorem nodup_len : ∀ {n : Nat} {os : List Nat}, os.Nodup → (∀ x ∈ os, x < n) → os.length ≤ n
  | 0, [], _, _ => Nat.le_refl _
  | 0, x :: os, _, h => absurd (h x List.mem_cons_self) (Nat.not_lt_zero _)
  | n + 1, os, nd, h => by
    have h1 := nodup_len (n := n) (os := os.filter fun x => !(x == n)) (nd.filter _) fun x hx => by
      obtain ⟨a, c⟩ := List.mem_filter.mp hx
      have := h x a
      have : x ≠ n := by simpa using c
      omega
    have h2 : os.length = (os.filter fun x => !(x == n)).length + os.count n := by
      rw [List.length_eq_countP_add_countP (fun x => !(x == n)) (l := os), List.countP_eq_length_filter]
      congr 1
      show _ = os.countP (· == n)
      congr 1
      funext x
      cases x == n <;> simp
    have h3 : os.count n ≤ 1 := List.nodup_iff_count.mp nd n
    omega
theorem graph_okAt {raw : List Nd} {st : Nat} (h0 : st < raw.length) (hr : ∀ x ∈ raw, x.ok raw.length) (hg : ∀ x ∈ raw, x.good = true) : GOk (graphAt raw st) ∧ (graphAt raw st).length ≤ raw.length := by
  have gl_lt : ∀ x < raw.length, ∀ g ∈ glOf raw x, g < raw.length := fun x hx g hgx => by
    unfold glOf at hgx
    rw [List.getElem?_eq_getElem hx] at hgx
    exact hr _ (List.getElem_mem hx) g hgx
  have O : OrdOk (glOf raw) raw.length st (orderAt (glOf raw) raw.length st) := order_ok h0 gl_lt
  generalize hos : orderAt (glOf raw) raw.length st = os at O
  have eg : graphAt raw st = os.map fun o => ((raw[o]?).getD .fin).ren fun x => os.idxOf x := by unfold graphAt; rw [hos]
  have lg : (graphAt raw st).length = os.length := by rw [eg, List.length_map]
  have glo : ∀ o ∈ os, ∃ nd, raw[o]? = some nd ∧ nd ∈ raw ∧ glOf raw o = goals nd := fun o ho => by
    have h := O.rng o ho
    refine ⟨raw[o], List.getElem?_eq_getElem h, List.getElem_mem h, ?_⟩
    unfold glOf
    rw [List.getElem?_eq_getElem h]
  have glg : ∀ y ∈ os, glOf (graphAt raw st) (os.idxOf y) = (glOf raw y).map fun x => os.idxOf x := fun y hy => by
    obtain ⟨nd, e1, _, e3⟩ := glo y hy
    have hi := List.idxOf_lt_length_iff.mpr hy
    rw [e3, ← goals_ren]
    unfold glOf
    rw [eg, List.getElem?_map, List.getElem?_eq_getElem hi, List.getElem_idxOf hi]
    show (match some (((raw[y]?).getD .fin).ren fun x => os.idxOf x) with | some nd => goals nd | none => []) = _
    rw [e1]
    rfl
  have sto : st ∈ os := List.mem_of_mem_head? (by rw [O.head]; rfl)
  have clo2 : ∀ x ∈ graphAt raw st, x.ok os.length := by
    intro x hx g hgx
    rw [eg] at hx
    obtain ⟨o, ho, rfl⟩ := List.mem_map.mp hx
    obtain ⟨nd, e1, _, e3⟩ := glo o ho
    rw [e1] at hgx
    have hgx : g ∈ goals (nd.ren fun x => os.idxOf x) := hgx
    rw [goals_ren] at hgx
    obtain ⟨y, hy, rfl⟩ := List.mem_map.mp hgx
    exact List.idxOf_lt_length_iff.mpr (O.closed o ho y (by rw [e3]; exact hy))
  refine ⟨⟨?_, ?_, ?_, ?_, ?_, ?_⟩, ?_⟩
  · rw [lg]
    cases os with
    | nil => have := O.head; simp at this
    | cons a os => simp
  · rw [lg]
    exact clo2
  · intro x hx
    rw [eg] at hx
    obtain ⟨o, ho, rfl⟩ := List.mem_map.mp hx
    obtain ⟨nd, e1, e2, _⟩ := glo o ho
    rw [e1]
    show (nd.ren _).good = true
    rw [good_ren]
    exact hg nd e2
  · intro k hk hk2
    rw [lg] at hk2
    have hx := List.getElem_mem hk2
    have h0' : os[k] ≠ st := fun z => by
      have hp : 0 < os.length := by omega
      have hh : os[0] = st := by
        have := O.head
        rw [List.head?_eq_getElem?, List.getElem?_eq_getElem hp] at this
        exact Option.some.inj this
      have := nodup_get O.nd hk2 hp (by rw [z, hh])
      omega
    obtain ⟨A, B, p, e, hp, hkp⟩ := O.par _ hx h0'
    obtain ⟨i, hi, rfl⟩ := List.mem_iff_getElem.mp hp
    have hAk : A.length = k := by
      have hAl : A.length < os.length := by rw [e]; simp
      have e2 : os[A.length] = os[k] := by
        have : os[A.length]? = some os[k] := by
          rw [show os[A.length]? = (A ++ os[k] :: B)[A.length]? from congrArg (fun l => l[A.length]?) e]
          simp
        rw [List.getElem?_eq_getElem hAl] at this
        exact Option.some.inj this
      exact nodup_get O.nd hAl hk2 e2
    have hil : i < os.length := by omega
    have ei : os[i] = A[i] := by
      have : os[i]? = some A[i] := by
        rw [show os[i]? = (A ++ os[k] :: B)[i]? from congrArg (fun l => l[i]?) e, List.getElem?_append_left hi]
        exact List.getElem?_eq_getElem hi
      rw [List.getElem?_eq_getElem hil] at this
      exact Option.some.inj this
    obtain ⟨nd, e1, _, e3⟩ := glo A[i] (by rw [← ei]; exact List.getElem_mem hil)
    refine ⟨i, nd.ren fun x => os.idxOf x, by omega, ?_, ?_⟩
    · rw [eg, List.getElem?_map, List.getElem?_eq_getElem hil, ei]
      show some (((raw[A[i]]?).getD .fin).ren _) = _
      rw [e1]
      rfl
    · rw [goals_ren]
      refine List.mem_map.mpr ⟨os[k], by rw [← e3]; exact hkp, ?_⟩
      exact O.nd.idxOf_getElem k hk2
  · intro k t hle ht
    by_cases hk : k < os.length
    · have hx := List.getElem_mem hk
      have ek : os.idxOf os[k] = k := O.nd.idxOf_getElem k hk
      have hg := glg _ hx
      rw [ek] at hg
      rw [hg] at ht
      obtain ⟨g, hgx, rfl⟩ := List.mem_map.mp ht
      rcases O.anc _ hx g hgx with h | h
      · have := idx_lt O.nd h
        omega
      · have go : ∀ z, Pthv (glOf raw) (fun y => y = g ∨ List.Sublist [g, y] os) g z → z ∈ os ∧ Pthv (glOf (graphAt raw st)) (fun y => os.idxOf g ≤ y) (os.idxOf g) (os.idxOf z) := by
          intro z hz
          induction hz with
          | self _ => exact ⟨O.closed _ hx g hgx, .self (Nat.le_refl _)⟩
          | @step a c _ m sc ih =>
            refine ⟨O.closed _ ih.1 c m, .step ih.2 (by rw [glg _ ih.1]; exact List.mem_map.mpr ⟨c, m, rfl⟩) ?_⟩
            rcases sc with rfl | sc
            · exact Nat.le_refl _
            · exact Nat.le_of_lt (idx_lt O.nd sc)
        have := (go _ h).2
        rw [ek] at this
        exact this
    · unfold glOf at ht
      rw [List.getElem?_eq_none (by rw [lg]; omega)] at ht
      cases ht
  · have R : Ren (glOf raw) (glOf (graphAt raw st)) (· ∈ os) (fun x => os.idxOf x) := ⟨fun x y hx hy e => by
      have h1 := List.getElem_idxOf (List.idxOf_lt_length_iff.mpr hx)
      have h2 := List.getElem_idxOf (List.idxOf_lt_length_iff.mpr hy)
      have e : os.idxOf x = os.idxOf y := e
      rw [← h1, ← h2]
      congr 1, glg, O.closed⟩
    have i0 : os.idxOf st = 0 := by
      have hp : 0 < os.length := by cases os with | nil => cases sto | cons a os => simp
      have hh : os[0] = st := by
        have := O.head
        rw [List.head?_eq_getElem?, List.getElem?_eq_getElem hp] at this
        exact Option.some.inj this
      have := O.nd.idxOf_getElem 0 hp
      rw [hh] at this
      exact this
    have h0' : os.idxOf st < os.length := List.idxOf_lt_length_iff.mpr sto
    have := orderAt_map (n' := os.length) R sto h0 gl_lt h0' fun x hx g hgx => by
      unfold glOf at hgx
      rw [List.getElem?_eq_getElem (by rw [lg]; exact hx)] at hgx
      exact clo2 _ (List.getElem_mem _) g hgx
    rw [hos, map_idx O.nd] at this
    rw [lg, ← this]
    show _ = orderAt (glOf (graphAt raw st)) os.length (os.idxOf st)
    rw [i0]
  · rw [lg]
    exact nodup_len O.nd O.rng
theorem graph_ok {raw : List Nd} (h0 : 0 < raw.length) (hr : ∀ x ∈ raw, x.ok raw.length) (hg : ∀ x ∈ raw, x.good = true) : GOk (graphOf raw) ∧ (graphOf raw).length ≤ raw.length := graph_okAt h0 hr hg
end VL
namespace VL
open PySem PySem.Spec PyProof.Rows L2 VL
theorem script_fz (ns : List Int) : isFz (scriptD ns) = true := by show (!false && isFzL (ns.map D.int)) = true; rw [isFzL_all]; simp [isFz]
theorem script_len {ns : List Int} {Q : D → Prop} : sLen [scriptD ns] Q ↔ Q (.int ns.length) := by unfold scriptD; rw [e_lenL, List.length_map]
theorem ints_inj {a b : List Int} (h : a.map D.int = b.map D.int) : a = b := (List.map_inj_right (fun _ _ h => D.int.inj h)).mp h
def natsD (xs : List Nat) : List D := xs.map fun k : Nat => D.int (k : Int)
theorem natsD_fz (xs : List Nat) : isFzL (natsD xs) = true := by unfold natsD; rw [isFzL_all]; simp [isFz]
theorem natsD_frz (xs : List Nat) : frzL (natsD xs) = natsD xs := by
  rw [frzL_map]
  unfold natsD
  rw [List.map_map]
  rfl
theorem natsD_len (xs : List Nat) : (natsD xs).length = xs.length := by unfold natsD; rw [List.length_map]
theorem nd_inj : ∀ {x y : Nd}, ndD x = ndD y → x = y := by
  intro x y h
  have h := D.tup.inj h
  have op : ∀ {a b : Opd}, opD a = opD b → a = b := fun {a b} h => by cases a <;> cases b <;> simp only [opD, D.int.injEq, D.str.injEq, reduceCtorEq] at h <;> rw [h]
  cases x <;> cases y <;> simp only [ndL, List.cons.injEq, D.str.injEq, D.int.injEq, reduceCtorEq, and_true, List.cons.injEq, Nat.reduceEqDiff, false_and, and_false, List.nil_eq, List.cons_ne_nil, true_and] at h
  · obtain ⟨h1, h2, h3, h4, h5⟩ := h
    rw [h1, op h2, h3, op h4, show _ = _ from Int.ofNat.inj h5]
  · obtain ⟨h2, h3, h4, h5, h6⟩ := h
    rw [op h2, h3, op h4, show _ = _ from Int.ofNat.inj h5, show _ = _ from Int.ofNat.inj h6]
  · rfl
  · rfl
theorem ix_ex {xs : List D} {n : Nat} {z : Int} {P : D → Prop} (h0 : 0 ≤ z) (h1 : z < n) (hP : ∀ d ∈ xs, isFz d = true ∧ P d) (hn : xs.length = n := by rfl) : ∃ d, ((ixN n z).bind fun j => xs[j]?) = some d ∧ isFz d = true ∧ P d := by
  rw [ixN_pos h0 h1]
  have hz : z.toNat < xs.length := by omega
  exact ⟨xs[z.toNat], List.getElem?_eq_getElem hz, hP _ (List.getElem_mem hz)⟩
theorem near4 {near to : Nat} {m : Nat} (h1 : near < m) (h2 : to < m) : ∀ d ∈ [D.int (near : Int), D.int (near : Int), D.int (near : Int), D.int (to : Int)], ∃ t : Nat, t < m ∧ d = .int (t : Int) := by
  intro d hd
  simp at hd
  rcases hd with rfl | rfl
  · exact ⟨_, h1, rfl⟩
  · exact ⟨_, h2, rfl⟩
theorem big_mul {i j : Int} (h : Builtin.Int.intBits i ≤ 1048600) (h2 : j.natAbs < 2 ^ 250) : CMl i j := by
  have h3 := PyProof.Rows.intBits_le h2
  exact .inr (show (Builtin.Int.intBits i : Int) + (Builtin.Int.intBits j : Int) ≤ 134217728 by omega)
theorem bits_add {a b : Int} {m : Nat} (ha : Builtin.Int.intBits a ≤ m) (hb : b.natAbs < 4294967296) (hm : 32 ≤ m) : Builtin.Int.intBits (a + b) ≤ m + 1 := by
  have h1 : Builtin.Int.intBits b ≤ m := Nat.le_trans (PyProof.Rows.intBits_le (k := 32) hb) hm
  have := intBits_add_le ha h1
  omega
theorem tyOk_L {m : Bool} {xs : List D} : tyOk "list" (.lst m xs) = true := rfl
theorem e_pop {ds : List D} {y : D} {P : List D → D → Prop} : (∃ ds' res, muPop (ds ++ [y]) [] = some (ds', res) ∧ P ds' res) ↔ P ds y := by
  have h : muPop (ds ++ [y]) [] = some (ds, y) := by
    show (((ds ++ [y])[(ds ++ [y]).length - 1]?).map fun z => ((ds ++ [y]).dropLast, z)) = _
    simp
  rw [h]
  exact ⟨fun ⟨_, _, e, p⟩ => by cases e; exact p, fun p => ⟨_, _, rfl, p⟩⟩
theorem names1 {i : Nat} {a : D} {ε : Ep} {Q : Ep → Prop} : vNames [i] (.tup [a]) ε Q ↔ i < ε.length ∧ Q (ε.set i (some a)) :=
  ⟨fun ⟨_, e, _, h, q⟩ => by cases e; exact ⟨h i (by simp), q⟩, fun ⟨h, q⟩ => ⟨_, rfl, rfl, fun j hj => by simp at hj; subst hj; exact h, q⟩⟩
theorem names2 {i j : Nat} {a b : D} {ε : Ep} {Q : Ep → Prop} : vNames [i, j] (.tup [a, b]) ε Q ↔ i < ε.length ∧ j < ε.length ∧ Q ((ε.set i (some a)).set j (some b)) :=
  ⟨fun ⟨_, e, _, h, q⟩ => by cases e; exact ⟨h i (by simp), h j (by simp), q⟩, fun ⟨h, h2, q⟩ => ⟨_, rfl, rfl, fun j hj => by simp at hj; rcases hj with rfl | rfl <;> assumption, q⟩⟩
theorem names3 {i j k : Nat} {a b c : D} {ε : Ep} {Q : Ep → Prop} : vNames [i, j, k] (.tup [a, b, c]) ε Q ↔ i < ε.length ∧ j < ε.length ∧ k < ε.length ∧ Q (((ε.set i (some a)).set j (some b)).set k (some c)) :=
  ⟨fun ⟨_, e, _, h, q⟩ => by cases e; exact ⟨h i (by simp), h j (by simp), h k (by simp), q⟩, fun ⟨h, h2, h3, q⟩ => ⟨_, rfl, rfl, fun j hj => by simp at hj; rcases hj with rfl | rfl | rfl <;> assumption, q⟩⟩
theorem ix_at {xs : List D} {k : Nat} {d : D} (h : xs[k]? = some d) (z : isFz d = true) {n : Nat} (hn : xs.length = n) {P : D → Prop} : (∃ d, ((ixN n (k : Int)).bind fun j => xs[j]?) = some d ∧ isFz d = true ∧ P d) ↔ P d := by
  have hk := (List.getElem?_eq_some_iff.mp h).1
  rw [ixN_nat (by omega)]
  show (∃ d, xs[k]? = some d ∧ isFz d = true ∧ P d) ↔ P d
  rw [h]
  exact ⟨fun ⟨_, e, _, p⟩ => by cases e; exact p, fun p => ⟨_, rfl, z, p⟩⟩
theorem ix_nds {raw : List Nd} {k : Nat} {x : Nd} (h : raw[k]? = some x) {P : D → Prop} : (∃ d, ((ixN raw.length (k : Int)).bind fun j => (raw.map ndD)[j]?) = some d ∧ isFz d = true ∧ P d) ↔ P (ndD x) :=
  ix_at (by rw [List.getElem?_map, h]; rfl) (isFz_nd x) (by simp)
theorem ix_nats {xs : List Nat} {k g : Nat} (h : xs[k]? = some g) {P : D → Prop} : (∃ d, ((ixN xs.length (k : Int)).bind fun j => (natsD xs)[j]?) = some d ∧ isFz d = true ∧ P d) ↔ P (.int (g : Int)) :=
  ix_at (by unfold natsD; rw [List.getElem?_map, h]; rfl) rfl (natsD_len xs)
theorem any_nats {b : List Nat} {g : Nat} : ((natsD b).any fun y => deq y (.int (g : Int))) = decide (g ∈ b) := by
  unfold natsD
  rw [List.any_map, Bool.eq_iff_iff, List.any_eq_true, decide_eq_true_iff]
  constructor
  · rintro ⟨x, hx, h⟩
    have h : deq (.int (x : Int)) (.int (g : Int)) = true := h
    rw [deq_i, decide_eq_true_iff] at h
    have : x = g := by omega
    rw [← this]; exact hx
  · intro h
    exact ⟨g, h, by show deq (.int (g : Int)) (.int (g : Int)) = true; rw [deq_i]; simp⟩
theorem natsD_flat (b : List Nat) : (natsD b).all flatD = true := by unfold natsD; rw [List.all_map]; simp [flatD]
theorem mem_nats {m : Bool} {b : List Nat} {g : Nat} : memD (.int (g : Int)) (.lst m (natsD b)) = some (decide (g ∈ b)) := by
  show (if (flatD (.int (g : Int)) && (natsD b).all flatD) = true then some ((natsD b).any fun y => deq y (.int (g : Int))) else _) = _
  rw [if_pos (by rw [natsD_flat]; rfl), any_nats]
theorem vmem_nats {m : Bool} {b : List Nat} {g : Nat} {P : Bool → Prop} : (∃ r, memD (.int (g : Int)) (.lst m (natsD b)) = some r ∧ P r) ↔ P (decide (g ∈ b)) := by
  rw [mem_nats]
  exact ⟨fun ⟨_, e, p⟩ => by cases e; exact p, fun p => ⟨_, rfl, p⟩⟩
theorem natsD_app (a : List Nat) (k : Nat) : natsD a ++ [.int (k : Int)] = natsD (a ++ [k]) := by unfold natsD; simp
theorem natsD_rev (a : List Nat) : (natsD a).reverse = natsD a.reverse := by unfold natsD; rw [List.map_reverse]
theorem cutL_take {α : Type} (xs : List α) (k : Nat) : cutL xs none (some (no_index (OfNat.ofNat k))) = xs.take k := by
  show (xs.drop 0).take (HT.sIx xs.length xs.length (some ((k : Nat) : Int)) - 0) = _
  rw [HT.sIx_nat, List.drop_zero, Nat.sub_zero]
  by_cases h : k ≤ xs.length
  · rw [Nat.min_eq_left h]
  · rw [Nat.min_eq_right (by omega), List.take_length, List.take_of_length_le (by omega)]
theorem cutL_drop {α : Type} (xs : List α) (k : Nat) : cutL xs (some (no_index (OfNat.ofNat k))) none = xs.drop k := by
  show (xs.drop (HT.sIx xs.length 0 (some ((k : Nat) : Int)))).take (xs.length - HT.sIx xs.length 0 (some ((k : Nat) : Int))) = _
  rw [HT.sIx_nat]
  by_cases h : k ≤ xs.length
  · rw [Nat.min_eq_left h, List.take_of_length_le (by simp)]
  · rw [Nat.min_eq_right (by omega), List.drop_length, List.drop_of_length_le (by omega)]
    simp
theorem frz_op (a : Opd) : frz (opD a) = opD a := by cases a <;> rfl
section
variable {own : List Nat} {g : VTG} {tt : VTT} {te te' : VTE} {d : D} {ds acc : List D} {ε : Ep} {Q : List D → Ep → Prop}
theorem e_lcU (h : te = te') : vLcL own g tt te (d :: ds) acc ε Q ↔ g d ε fun ε1 => tt noX ε1 fun c ε2 => if c = true then te' noX ε2 fun y ε3 => acc.length < 1000000 ∧ vLcL own g tt te ds (acc ++ [y]) (forgetE own ε3) Q else vLcL own g tt te ds acc (forgetE own ε2) Q := by subst h; exact Iff.rfl
theorem e_lcU2 {tt' : VTT} (h : te = te') (h2 : tt = tt') : vLcL own g tt te (d :: ds) acc ε Q ↔ g d ε fun ε1 => tt' noX ε1 fun c ε2 => if c = true then te' noX ε2 fun y ε3 => acc.length < 1000000 ∧ vLcL own g tt te ds (acc ++ [y]) (forgetE own ε3) Q else vLcL own g tt te ds acc (forgetE own ε2) Q := by subst h; subst h2; exact Iff.rfl
theorem rng0 (n : Nat) : rng 0 n = (List.range n).map fun k : Nat => D.int (k : Int) := by
  unfold rng
  exact List.map_congr_left fun k _ => by rw [Int.zero_add]
theorem rngN (n : Nat) : rng 0 n = natsD (List.range n) := rng0 n
end
end VL
namespace VL
open PySem PySem.Spec PyProof.Rows L2 VL
theorem getP_ix1 {ds : List D} {j : Nat} {d : D} (h : ds[j]? = some d) : getP (.lst true ds) [.ix j] = some d := by
  show (match ds[j]? with | some d => getP d [] | none => none) = _
  rw [h]
  exact getP_nil d
theorem setP_ix1 {ds : List D} {j : Nat} {d e : D} (h : ds[j]? = some d) : setP (.lst true ds) [.ix j] e = .lst true (ds.set j e) := by
  show (match ds[j]? with | some d => D.lst true (ds.set j (setP d [] e)) | none => .lst true ds) = _
  rw [h]
  show D.lst true (ds.set j (setP d [] e)) = _
  rw [setP_nilE]
def rowsD (n : Nat) (r : Nat → List Nat) : List D := (List.range n).map fun t => .lst true (natsD (r t))
def rowsF (n : Nat) (r : Nat → List Nat) : List D := (List.range n).map fun t => .lst false (natsD (r t))
def addRow (r : Nat → List Nat) (t k : Nat) : Nat → List Nat := fun s => if s = t then r s ++ [k] else r s
section
variable {n t k : Nat} {r : Nat → List Nat}
theorem rowsD_len : (rowsD n r).length = n := by simp [rowsD]
theorem rowsF_len : (rowsF n r).length = n := by simp [rowsF]
theorem rowsD_get (h : t < n) : (rowsD n r)[t]? = some (.lst true (natsD (r t))) := by simp [rowsD, h]
theorem rowsD_set (h : t < n) : (rowsD n r).set t (.lst true (natsD (r t ++ [k]))) = rowsD n (addRow r t k) := by
  apply List.ext_getElem?
  intro i
  rw [List.getElem?_set]
  by_cases e : t = i
  · subst e
    rw [if_pos rfl, if_pos (by rw [rowsD_len]; exact h), rowsD_get h]
    simp [addRow]
  · rw [if_neg e]
    by_cases hi : i < n
    · rw [rowsD_get hi, rowsD_get hi]
      unfold addRow
      rw [if_neg (fun z => e z.symm)]
    · rw [List.getElem?_eq_none (by rw [rowsD_len]; omega), List.getElem?_eq_none (by rw [rowsD_len]; omega)]
theorem frz_rows : frzL (rowsD n r) = rowsF n r := by
  rw [frzL_map]
  unfold rowsD rowsF
  rw [List.map_map]
  exact List.map_congr_left fun t _ => by show D.lst false (frzL (natsD (r t))) = _; rw [natsD_frz]
theorem rowsF_fz : isFzL (rowsF n r) = true := by rw [isFzL_all]; simp [rowsF, isFz, natsD_fz]
end
/-- from whom ways lead to t, each as often as ways of it do -/
def comeRow (f : Nat → List Nat) (n t : Nat) : List Nat := (List.range n).flatMap fun k => List.replicate ((f k).count t) k
theorem comeRow_succ {f : Nat → List Nat} {n t : Nat} : comeRow f (n + 1) t = comeRow f n t ++ List.replicate ((f n).count t) n := by
  unfold comeRow
  rw [List.range_succ, List.flatMap_append]
  simp
theorem comeRow_len {f : Nat → List Nat} {n t m : Nat} (h : ∀ k < n, (f k).length ≤ m) : (comeRow f n t).length ≤ n * m := by
  induction n with
  | zero => simp [comeRow]
  | succ n ih =>
    rw [comeRow_succ, List.length_append, List.length_replicate]
    have h1 := ih fun k hk => h k (by omega)
    have h2 := h n (by omega)
    have h3 : (f n).count t ≤ (f n).length := List.count_le_length
    rw [Nat.succ_mul]
    omega
theorem goals_len (x : Nd) : (goals x).length ≤ 2 := by cases x <;> simp [goals]
theorem seqD_l {m : Bool} {xs : List D} : VL.seqD (.lst m xs) = some xs := rfl
theorem seqD_t {xs : List D} : VL.seqD (.tup xs) = some xs := rfl
theorem listD_l {m : Bool} {xs : List D} : listD (.lst m xs) = some xs := rfl
theorem listD_t {xs : List D} : listD (.tup xs) = some xs := rfl
theorem deq_ll {m n : Bool} {xs ys : List D} : deq (.lst m xs) (.lst n ys) = deqL xs ys := rfl
theorem frz_rowsF {n : Nat} {r : Nat → List Nat} : frzL (rowsF n r) = rowsF n r := frzL_id rowsF_fz
theorem frzL_len {xs : List D} : (frzL xs).length = xs.length := by rw [frzL_map, List.length_map]
theorem ite_no {c : Prop} {i : Decidable c} {a b : Prop} (h : ¬c) (q : b) : @ite Prop c i a b := by rw [if_neg h]; exact q
theorem ite_yes {c : Prop} {i : Decidable c} {a b : Prop} (h : c) (q : a) : @ite Prop c i a b := by rw [if_pos h]; exact q
theorem nats_ok (m : Bool) (xs : List Nat) : okD 64 (.lst m (natsD xs)) = true := by
  show okDL 63 (natsD xs) = true
  rw [okDL_all]
  unfold natsD
  rw [List.all_map]
  exact List.all_eq_true.mpr fun x _ => rfl
theorem eqOk_nn {m n : Bool} {xs ys : List Nat} : eqOk (.lst m (natsD xs)) (.lst n (natsD ys)) ↔ True := ⟨fun _ => trivial, fun _ => .inr ⟨nats_ok m xs, nats_ok n ys⟩⟩
theorem eqOk_n0 {m n : Bool} {xs : List Nat} : eqOk (.lst m (natsD xs)) (.lst n []) ↔ True := ⟨fun _ => trivial, fun _ => .inr ⟨nats_ok m xs, rfl⟩⟩
theorem deqL_n0 {xs : List Nat} : deqL (natsD xs) [] = xs.isEmpty := by cases xs <;> rfl
theorem deqL_nn : ∀ {xs ys : List Nat}, deqL (natsD xs) (natsD ys) = decide (xs = ys)
  | [], [] => rfl
  | [], y :: ys => rfl
  | x :: xs, [] => rfl
  | x :: xs, y :: ys => by
    show (deq (.int (x : Int)) (.int (y : Int)) && deqL (natsD xs) (natsD ys)) = _
    rw [deq_i, deqL_nn, Bool.eq_iff_iff, Bool.and_eq_true, decide_eq_true_iff, decide_eq_true_iff, decide_eq_true_iff, List.cons.injEq]
    constructor
    · rintro ⟨h1, h2⟩; exact ⟨by omega, h2⟩
    · rintro ⟨rfl, rfl⟩; exact ⟨rfl, rfl⟩
end VL
namespace VL
open PySem PySem.Spec PyProof.Rows L2 VL
abbrev cJump : Cs := [106, 117, 109, 112]
/-- a row's mark: the node whose deed it is, or the node to which it jumps -/
abbrev Mk := Nat × Bool
end VL
namespace VL
open PySem PySem.Spec PyProof.Rows L2 VL
section
variable {K : PySem.W.Frag} {G H : Hp}
theorem ints_vs : ∀ {ns : List Int} {vs : List V} {F : List Addr}, RpL K G H (ns.map D.int) vs F → vs = ns.map V.int
  | [], vs, F, r => by obtain ⟨rfl, _⟩ := r; rfl
  | n :: ns, vs, F, r => by
    obtain ⟨v, vs', F1, F2, rfl, rfl, ⟨rfl, _⟩, rs⟩ := r
    rw [ints_vs rs]
    rfl
theorem natsD_ints (xs : List Nat) : natsD xs = (xs.map fun k : Nat => (k : Int)).map D.int := by unfold natsD; rw [List.map_map]; rfl
end
inductive Rch (f : Nat → List Nat) (o : Nat) : Nat → Prop
  | zero : o ≠ 0 → Rch f o 0
  | step {k t : Nat} : Rch f o k → t ∈ f k → t ≠ o → Rch f o t
structure Gf (f : Nat → List Nat) (n : Nat) : Prop where
  pos : 0 < n
  clo : ∀ k < n, ∀ t ∈ f k, t < n
  par : ∀ k, 0 < k → k < n → ∃ p, p < k ∧ k ∈ f p
theorem GOk.gf {g : List Nd} (h : GOk g) : Gf (glOf g) g.length where
  pos := h.pos
  clo := fun k hk t ht => by
    unfold glOf at ht
    rw [List.getElem?_eq_getElem hk] at ht
    exact h.ok _ (List.getElem_mem hk) t ht
  par := fun k h0 hk => by
    obtain ⟨p, x, hp, hx, hg⟩ := h.par k h0 hk
    exact ⟨p, hp, by unfold glOf; rw [hx]; exact hg⟩
section
variable {f : Nat → List Nat} {n : Nat}
theorem Rch.ne {o k : Nat} (h : Rch f o k) : k ≠ o := by
  cases h with
  | zero h => exact fun e => h e.symm
  | step _ _ h => exact h
theorem Rch.lt (G : Gf f n) {o k : Nat} (h : Rch f o k) : k < n := by
  induction h with
  | zero _ => exact G.pos
  | step _ ht _ ih => exact G.clo _ ih _ ht
theorem Rch.no0 {k : Nat} : ¬Rch f 0 k := fun h => by
  induction h with
  | zero h => exact h rfl
  | step _ _ _ ih => exact ih
theorem rch_below (G : Gf f n) {o : Nat} : ∀ k, k < n → k < o → Rch f o k := by
  intro k
  induction k using Nat.strongRecOn with
  | ind k ih =>
    intro hk ho
    by_cases h0 : k = 0
    · subst h0; exact .zero (by omega)
    · obtain ⟨p, hp, hm⟩ := G.par k (by omega) hk
      exact .step (ih p hp (by omega) (by omega)) hm (by omega)
/-- o stands on each way to k -/
def Dm (f : Nat → List Nat) (o k : Nat) : Prop := ¬Rch f o k
theorem Dm.self (k : Nat) : Dm f k k := fun h => h.ne rfl
theorem Dm.zero (k : Nat) : Dm f 0 k := Rch.no0
theorem Dm.le (G : Gf f n) {o k : Nat} (hk : k < n) (h : Dm f o k) : o ≤ k := by
  by_cases e : k < o
  · exact absurd (rch_below G k hk e) h
  · omega
theorem Dm.trans {a b k : Nat} (h1 : Dm f a b) (h2 : Dm f b k) : Dm f a k := fun h => by
  have : ∀ k, Rch f a k → Rch f b k ∨ Rch f a b := fun k h => by
    induction h with
    | zero h =>
      by_cases e : b = 0
      · subst e; exact .inr (.zero h)
      · exact .inl (.zero e)
    | @step k t hk ht hne ih =>
      rcases ih with ih | ih
      · by_cases e : t = b
        · subst e; exact .inr (.step hk ht hne)
        · exact .inl (.step ih ht e)
      · exact .inr ih
  rcases this k h with h | h
  · exact h2 h
  · exact h1 h
/-- the last of those that stand on each way to k, k apart -/
structure IsId (f : Nat → List Nat) (k z : Nat) : Prop where
  dm : Dm f z k
  lt : z < k
  last : ∀ o, Dm f o k → o ≠ k → o ≤ z
theorem IsId.uniq {k y z : Nat} (h1 : IsId f k y) (h2 : IsId f k z) : y = z := by
  have a := h1.last z h2.dm (by have := h2.lt; omega)
  have b := h2.last y h1.dm (by have := h1.lt; omega)
  omega
structure IsTree (f : Nat → List Nat) (n : Nat) (ts : List (Option Nat)) : Prop where
  len : ts.length = n
  zero : ts[0]? = some none
  id : ∀ k, 0 < k → k < n → ∃ z, ts[k]? = some (some z) ∧ IsId f k z
theorem IsTree.uniq {ts us : List (Option Nat)} (h1 : IsTree f n ts) (h2 : IsTree f n us) : ts = us := by
  apply List.ext_getElem?
  intro i
  by_cases hi : i < n
  · by_cases h0 : i = 0
    · subst h0; rw [h1.zero, h2.zero]
    · obtain ⟨y, e1, i1⟩ := h1.id i (by omega) hi
      obtain ⟨z, e2, i2⟩ := h2.id i (by omega) hi
      rw [e1, e2, i1.uniq i2]
  · rw [List.getElem?_eq_none (by rw [h1.len]; omega), List.getElem?_eq_none (by rw [h2.len]; omega)]
/-- up a tree -/
inductive Abv (ts : List (Option Nat)) (o : Nat) : Nat → Prop
  | self : Abv ts o o
  | up {k j : Nat} : ts[k]? = some (some j) → Abv ts o j → Abv ts o k
end
/-- each one's upper is smaller -/
def TLt (ts : List (Option Nat)) : Prop := ∀ k j : Nat, ts[k]? = some (some j) → j < k
end VL
namespace VL
open PySem PySem.Spec PyProof.Rows L2 VL
def SetK (ts : List (Option Nat)) (k : Nat) : Prop := k = 0 ∨ ∃ j, ts[k]? = some (some j)
/-- a way from j to k, on nodes from j on -/
inductive Pth (f : Nat → List Nat) (j : Nat) : Nat → Prop
  | refl : Pth f j j
  | step {a b : Nat} : Pth f j a → b ∈ f a → j ≤ b → Pth f j b
theorem Pth.le {f : Nat → List Nat} {j k : Nat} (h : Pth f j k) : j ≤ k := by
  cases h with
  | refl => exact Nat.le_refl _
  | step _ _ h => exact h
theorem Pth.trans {f : Nat → List Nat} {i j k : Nat} (h1 : Pth f i j) (h2 : Pth f j k) : Pth f i k := by
  induction h2 with
  | refl => exact h1
  | step _ hb hj ih => exact .step ih hb (Nat.le_trans h1.le hj)
theorem Pth.rch {f : Nat → List Nat} {o j k : Nat} (h : Pth f j k) (ho : o < j) (r : Rch f o j) : Rch f o k := by
  induction h with
  | refl => exact r
  | step _ hb hj ih => exact .step ih hb (by omega)
/-- a way from 0 to k without o, with fewer than r steps that do not lead on -/
inductive Rn (f : Nat → List Nat) (o : Nat) : Nat → Nat → Prop
  | zero {r : Nat} : o ≠ 0 → Rn f o (r + 1) 0
  | fwd {r p t : Nat} : Rn f o r p → t ∈ f p → t ≠ o → p < t → Rn f o r t
  | back {r p t : Nat} : Rn f o r p → t ∈ f p → t ≠ o → Rn f o (r + 1) t
section
variable {f : Nat → List Nat} {n : Nat}
theorem Rn.no {o k : Nat} : ¬Rn f o 0 k := fun h => by
  generalize e : 0 = r at h
  induction h with
  | zero _ => cases e
  | fwd _ _ _ _ ih => exact ih e
  | back _ _ _ _ => cases e
theorem Rn.up {o k r : Nat} (h : Rn f o r k) : Rn f o (r + 1) k := by
  induction h with
  | zero h => exact .zero h
  | fwd _ a b c ih => exact .fwd ih a b c
  | back _ a b ih => exact .back ih a b
theorem Rn.le {o k r s : Nat} (h : Rn f o r k) (hs : r ≤ s) : Rn f o s k := by
  induction hs with
  | refl => exact h
  | step _ ih => exact ih.up
theorem Rn.rch {o k r : Nat} (h : Rn f o r k) : Rch f o k := by
  induction h with
  | zero h => exact .zero h
  | fwd _ a b _ ih => exact .step ih a b
  | back _ a b ih => exact .step ih a b
theorem Rn.ne {o k r : Nat} (h : Rn f o r k) : k ≠ o := h.rch.ne
theorem Abv.trans {ts : List (Option Nat)} {a b c : Nat} (h1 : Abv ts a b) (h2 : Abv ts b c) : Abv ts a c := by
  induction h2 with
  | self => exact h1
  | up e _ ih => exact .up e ih
theorem Abv.le {ts : List (Option Nat)} (T : TLt ts) {o k : Nat} (h : Abv ts o k) : o ≤ k := by
  induction h with
  | self => exact Nat.le_refl _
  | up e _ ih => have := T _ _ e; omega
section
variable {ts : List (Option Nat)} {k m : Nat}
theorem get_set {x y : Nat} (e : x ≠ k) (h : ts[x]? = some (some y)) : (ts.set k (some m))[x]? = some (some y) := by
  rw [List.getElem?_set_ne (fun z => e z.symm)]
  exact h
theorem SetK.set {x : Nat} (h : SetK ts x) : SetK (ts.set k (some m)) x := by
  rcases h with h | ⟨j, h⟩
  · exact .inl h
  · by_cases e : x = k
    · subst e
      exact .inr ⟨m, by rw [List.getElem?_set_self (List.getElem?_eq_some_iff.mp h).1]⟩
    · exact .inr ⟨j, get_set e h⟩
end
end
theorem mem_comeRow {f : Nat → List Nat} {n t p : Nat} : p ∈ comeRow f n t ↔ p < n ∧ t ∈ f p := by
  unfold comeRow
  rw [List.mem_flatMap]
  constructor
  · rintro ⟨k, hk, h⟩
    rw [List.mem_replicate] at h
    obtain ⟨h1, rfl⟩ := h
    exact ⟨List.mem_range.mp hk, List.count_pos_iff.mp (by omega)⟩
  · rintro ⟨h1, h2⟩
    exact ⟨p, List.mem_range.mpr h1, List.mem_replicate.mpr ⟨by have := List.count_pos_iff.mpr h2; omega, rfl⟩⟩
theorem SetK.iff {ts : List (Option Nat)} {k : Nat} {x : Option Nat} (h : ts[k]? = some x) : SetK ts k ↔ k = 0 ∨ x ≠ none := by
  unfold SetK
  rw [h]
  constructor
  · rintro (a | ⟨j, a⟩)
    · exact .inl a
    · cases a; exact .inr (fun z => nomatch z)
  · rintro (a | a)
    · exact .inl a
    · cases x with
      | none => exact absurd rfl a
      | some j => exact .inr ⟨j, rfl⟩
end VL
namespace VL
open PySem PySem.Spec PyProof.Rows L2 VL
section
variable {X : Cv}
/-- {name: constant} -/
def vDisp1 (i : Nat) (c : D) : VTE := fun _ ε Q => ∃ z : Int, ε[i]? = some (some (.int z)) ∧ Q (.dK true [.inl z] [c]) ε
end
end VL
namespace VL
open PySem PySem.Spec PyProof.Rows L2 VL
def natK (ks : List Nat) : List Kc := ks.map fun k : Nat => Sum.inl (k : Int)
/-- names of nodes, each with the one that it was come to from -/
abbrev Came := List (Nat × Option Nat)
def Came.keys (ps : Came) : List Nat := ps.map (·.1)
theorem keys_len (ps : Came) : ps.keys.length = ps.length := by simp [Came.keys]
inductive Trl (ps : Came) : Nat → List Nat → Prop
  | root {k : Nat} : (k, none) ∈ ps → Trl ps k [k]
  | up {k p : Nat} {l : List Nat} : (k, some p) ∈ ps → Trl ps p l → Trl ps k (l ++ [k])
/-- reached from st on nodes outside bs -/
inductive RchB (f : Nat → List Nat) (bs : List Nat) (st : Nat) : Nat → Prop
  | start : st ∉ bs → RchB f bs st st
  | step {k t : Nat} : RchB f bs st k → t ∈ f k → t ∉ bs → RchB f bs st t
/-- a way: its first, its last, steps, none twice -/
structure WayOk (f : Nat → List Nat) (bs : List Nat) (st k : Nat) (l : List Nat) : Prop where
  hd : l.head? = some st
  lst : l.getLast? = some k
  nd : l.Nodup
  stp : ∀ (i a b : Nat), l[i]? = some a → l[i + 1]? = some b → b ∈ f a
  out : ∀ x ∈ l, x ∉ bs
structure BfI (f : Nat → List Nat) (n : Nat) (st : Nat) (ws bs : List Nat) (ps : Came) (at_ : Nat) : Prop where
  nd : ps.keys.Nodup
  rng : ∀ k ∈ ps.keys, k < n
  root : ps.head? = some (st, none)
  par : ∀ (i k p : Nat), ps[i]? = some (k, some p) → ∃ j x, j < i ∧ ps[j]? = some (p, x) ∧ k ∈ f p
  one : ∀ (i k : Nat), ps[i]? = some (k, none) → i = 0
  out : ∀ k ∈ ps.keys, k ∉ bs
  le : at_ ≤ ps.length
  nw : ∀ (i k : Nat) x, i < at_ → ps[i]? = some (k, x) → k ∉ ws
  dn : ∀ (i k : Nat) x, i < at_ → ps[i]? = some (k, x) → ∀ t ∈ f k, t ∉ bs → t ∈ ps.keys
section
variable {f : Nat → List Nat} {n st : Nat} {ws bs : List Nat} {ps : Came} {at_ : Nat}
/-- each has its way, on those that came ahead of it -/
theorem BfI.trail (I : BfI f n st ws bs ps at_) : ∀ (i k : Nat) x, ps[i]? = some (k, x) → ∃ l, Trl ps k l ∧ WayOk f bs st k l ∧ (∀ y ∈ l, ∃ j z, j ≤ i ∧ ps[j]? = some (y, z)) ∧ l.length ≤ i + 1 := by
  intro i
  induction i using Nat.strongRecOn with
  | ind i ih =>
    intro k x h
    have hm : (k, x) ∈ ps := List.mem_of_getElem? h
    cases x with
    | none =>
      have := I.one i k h
      subst this
      have hr := I.root
      rw [List.head?_eq_getElem?, h] at hr
      have hr : k = st := by cases hr; rfl
      subst hr
      refine ⟨[k], .root hm, ⟨rfl, rfl, by simp, fun i a b _ h2 => by simp at h2, fun y hy => ?_⟩, fun y hy => ?_, by simp⟩
      · simp at hy; subst hy; exact I.out y (List.mem_map.mpr ⟨_, hm, rfl⟩)
      · simp at hy; subst hy; exact ⟨0, none, Nat.le_refl _, h⟩
    | some p =>
      obtain ⟨j, y, hj, hp, hk⟩ := I.par i k p h
      obtain ⟨l, t, w, on, ln⟩ := ih j hj p y hp
      have hkl : k ∉ l := fun z => by
        obtain ⟨j2, z2, h1, h2⟩ := on k z
        have hlt : i < ps.length := (List.getElem?_eq_some_iff.mp h).1
        have e : ps.keys[j2]'(by rw [keys_len]; omega) = ps.keys[i]'(by rw [keys_len]; omega) := by
          have a1 : ps.keys[j2]? = some k := by unfold Came.keys; rw [List.getElem?_map, h2]; rfl
          have a2 : ps.keys[i]? = some k := by unfold Came.keys; rw [List.getElem?_map, h]; rfl
          have a3 := (List.getElem?_eq_some_iff.mp a1).2
          have a4 := (List.getElem?_eq_some_iff.mp a2).2
          rw [a3, a4]
        have := nodup_get I.nd _ _ e
        omega
      refine ⟨l ++ [k], .up hm t, ⟨?_, by simp, List.nodup_append.mpr ⟨w.nd, by simp, fun a ha c hc e => by simp at hc; exact hkl (by rw [← hc, ← e]; exact ha)⟩, ?_, fun y hy => ?_⟩, fun y hy => ?_, by simp; omega⟩
      · cases l with
        | nil => cases w.hd
        | cons a l => exact w.hd
      · intro i2 a b h1 h2
        by_cases e : i2 + 1 < l.length
        · rw [List.getElem?_append_left (by omega)] at h1
          rw [List.getElem?_append_left e] at h2
          exact w.stp i2 a b h1 h2
        · have e2 : i2 + 1 = l.length := by
            have := (List.getElem?_eq_some_iff.mp h2).1
            simp at this
            omega
          rw [List.getElem?_append_left (by omega)] at h1
          rw [List.getElem?_append_right (by omega), e2, Nat.sub_self] at h2
          cases h2
          have hl := w.lst
          rw [List.getLast?_eq_getElem?, show l.length - 1 = i2 by omega, h1] at hl
          cases hl
          exact hk
      · rcases List.mem_append.mp hy with hy | hy
        · exact w.out y hy
        · simp at hy; subst hy; exact I.out y (List.mem_map.mpr ⟨_, hm, rfl⟩)
      · rcases List.mem_append.mp hy with hy | hy
        · obtain ⟨j2, z, h1, h2⟩ := on y hy
          exact ⟨j2, z, by omega, h2⟩
        · simp at hy; subst hy; exact ⟨i, _, Nat.le_refl _, h⟩
theorem BfI.fin (I : BfI f n st ws bs ps ps.length) {k : Nat} (h : RchB f bs st k) : k ∈ ps.keys ∧ k ∉ ws := by
  have mem : k ∈ ps.keys := by
    induction h with
    | start _ =>
      cases e : ps with
      | nil => have := I.root; rw [e] at this; cases this
      | cons p ps' => have := I.root; rw [e] at this; cases this; simp [Came.keys]
    | @step k t _ ht hb ih =>
      obtain ⟨p, hp, rfl⟩ := List.mem_map.mp ih
      obtain ⟨i, hi, e⟩ := List.mem_iff_getElem.mp hp
      exact I.dn i p.1 p.2 hi (by rw [List.getElem?_eq_getElem hi, e]) t ht hb
  refine ⟨mem, ?_⟩
  obtain ⟨p, hp, rfl⟩ := List.mem_map.mp mem
  obtain ⟨i, hi, e⟩ := List.mem_iff_getElem.mp hp
  exact I.nw i p.1 p.2 hi (by rw [List.getElem?_eq_getElem hi, e])
/-- what comes of the ways on of a node -/
def bf1 (bs : List Nat) (h : Nat) (ps : Came) (t : Nat) : Came := if t ∉ ps.keys ∧ t ∉ bs then ps ++ [(t, some h)] else ps
theorem keys_app {ps : Came} {k : Nat} {x : Option Nat} : Came.keys (ps ++ [(k, x)]) = ps.keys ++ [k] := by simp [Came.keys]
structure BfM (f : Nat → List Nat) (n : Nat) (st : Nat) (ws bs : List Nat) (ps0 ps : Came) (at_ : Nat) (h : Nat) (seen : List Nat) : Prop where
  I : BfI f n st ws bs ps at_
  pre : ∃ e, ps = ps0 ++ e
  hs : ∃ x, ps[at_]? = some (h, x)
  ok : ∀ t ∈ seen, t ∉ bs → t ∈ ps.keys
theorem BfM.step {h : Nat} {ps0 : Came} {seen : List Nat} (M : BfM f n st ws bs ps0 ps at_ h seen) {t : Nat} (ht : t ∈ f h) (hn : t < n) : BfM f n st ws bs ps0 (bf1 bs h ps t) at_ h (seen ++ [t]) := by
  unfold bf1
  split
  · rename_i hc
    obtain ⟨c1, c2⟩ := hc
    obtain ⟨x0, hx0⟩ := M.hs
    have hl := (List.getElem?_eq_some_iff.mp hx0).1
    have old : ∀ {i : Nat} {p : Nat × Option Nat}, ps[i]? = some p → (ps ++ [(t, some h)])[i]? = some p := fun {i p} e => by
      rw [List.getElem?_append_left (List.getElem?_eq_some_iff.mp e).1]; exact e
    have new : ∀ {i : Nat} {p : Nat × Option Nat}, (ps ++ [(t, some h)])[i]? = some p → ps[i]? = some p ∨ (i = ps.length ∧ p = (t, some h)) := fun {i p} e => by
      by_cases z : i < ps.length
      · rw [List.getElem?_append_left z] at e; exact .inl e
      · rw [List.getElem?_append_right (by omega)] at e
        have : i - ps.length = 0 := by
          have := (List.getElem?_eq_some_iff.mp e).1
          simp at this
          omega
        rw [this] at e
        cases e
        exact .inr ⟨by omega, rfl⟩
    refine ⟨⟨?_, fun k hk => ?_, ?_, fun i k p e => ?_, fun i k e => ?_, fun k hk => ?_, by simp; have := M.I.le; omega, fun i k x hi e => ?_, fun i k x hi e y hy hb => ?_⟩, ?_, ⟨x0, old hx0⟩, fun y hy hb => ?_⟩
    · rw [keys_app]
      exact List.nodup_append.mpr ⟨M.I.nd, by simp, fun a ha c hc e => by simp at hc; exact c1 (by rw [← hc, ← e]; exact ha)⟩
    · rw [keys_app] at hk
      rcases List.mem_append.mp hk with hk | hk
      · exact M.I.rng k hk
      · simp at hk; subst hk; exact hn
    · have := M.I.root
      cases ps with
      | nil => cases this
      | cons p ps => exact this
    · rcases new e with e | ⟨_, e'⟩
      · obtain ⟨j, x, h1, h2, h3⟩ := M.I.par i k p e
        exact ⟨j, x, h1, old h2, h3⟩
      · cases e'
        exact ⟨at_, x0, by omega, old hx0, ht⟩
    · rcases new e with e | ⟨_, e'⟩
      · exact M.I.one i k e
      · cases e'
    · rw [keys_app] at hk
      rcases List.mem_append.mp hk with hk | hk
      · exact M.I.out k hk
      · simp at hk; subst hk; exact c2
    · rcases new e with e | ⟨rfl, _⟩
      · exact M.I.nw i k x hi e
      · omega
    · rw [keys_app]
      rcases new e with e | ⟨rfl, _⟩
      · exact List.mem_append_left _ (M.I.dn i k x hi e y hy hb)
      · omega
    · obtain ⟨e, he⟩ := M.pre
      exact ⟨e ++ [(t, some h)], by rw [he, List.append_assoc]⟩
    · rw [keys_app]
      rcases List.mem_append.mp hy with hy | hy
      · exact List.mem_append_left _ (M.ok y hy hb)
      · simp at hy; subst hy; simp
  · rename_i hc
    refine ⟨M.I, M.pre, M.hs, fun y hy hb => ?_⟩
    rcases List.mem_append.mp hy with hy | hy
    · exact M.ok y hy hb
    · simp at hy; subst hy
      exact Classical.byContradiction fun z => hc ⟨z, hb⟩
theorem BfM.next {h : Nat} {ps0 : Came} {seen : List Nat} (M : BfM f n st ws bs ps0 ps at_ h seen) (hw : h ∉ ws) (all : ∀ t ∈ f h, t ∈ seen) : BfI f n st ws bs ps (at_ + 1) := by
  obtain ⟨x0, hx0⟩ := M.hs
  have hl := (List.getElem?_eq_some_iff.mp hx0).1
  refine ⟨M.I.nd, M.I.rng, M.I.root, M.I.par, M.I.one, M.I.out, hl, fun i k x hi e => ?_, fun i k x hi e t ht hb => ?_⟩
  · by_cases z : i = at_
    · subst z; rw [hx0] at e; cases e; exact hw
    · exact M.I.nw i k x (by omega) e
  · by_cases z : i = at_
    · subst z; rw [hx0] at e; cases e; exact M.ok t (all t ht) hb
    · exact M.I.dn i k x (by omega) e t ht hb
end
theorem WayOk.rch {f : Nat → List Nat} {bs : List Nat} {st k : Nat} {l : List Nat} (w : WayOk f bs st k l) : RchB f bs st k := by
  have key : ∀ (i x : Nat), l[i]? = some x → RchB f bs st x := by
    intro i
    induction i with
    | zero =>
      intro x h
      have e := w.hd
      rw [List.head?_eq_getElem?, h] at e
      have e : x = st := Option.some.inj e
      subst e
      exact .start (w.out x (List.mem_of_getElem? h))
    | succ i ih =>
      intro x h
      have hi : i < l.length := by have := (List.getElem?_eq_some_iff.mp h).1; omega
      exact .step (ih _ (List.getElem?_eq_getElem hi)) (w.stp i _ x (List.getElem?_eq_getElem hi) h) (w.out x (List.mem_of_getElem? h))
  have hl := w.lst
  rw [List.getLast?_eq_getElem?] at hl
  exact key _ k hl
end VL
namespace VL
open PySem PySem.Spec PyProof.Rows L2 VL
abbrev nsO (w : World) : Obj := { cls := .type "set", dict := none, data := .set #[] 0 (.fresh 0 0 (!w.params.followText "set-order")) }
section
variable {P : Program} {w : World} {A : Around} {E : Value → Shared → Prop} {s : Shared}
theorem set_fed {l S : Addr} {items : Array Value} (ns : List Int) {R : Result → Shared → Prop} (hh : A.handled = none) (lst : s.heap.IsList l items) (allI : IntsAre items.toList ns) (hb : ns.length + 1 < scanBound) (hS : s.heap.get? S = some (nsO w)) (hSl : S ≠ l)
    (k : ∀ (h' : Heap) (tk c : Nat), SetR w h' S (fun j => decide (j ∈ ns)) c → c ≤ ns.length → (∀ b o, b ≠ S → s.heap.get? b = some o → h'.get? b = some o) → R (.ok (.ret .none)) { s with heap := h', toks := tk }) :
    codeAny (model P w) A (.builtin "set.update.loop" ⟨[.ref S, .ref s.heap.objs.size], []⟩) R { s with heap := s.heap.push { cls := .type "list_iterator", data := .fields #[.ref l, .int 0 0] } } := by
  obtain ⟨ol, hol, _⟩ := id lst
  have lt := Heap.lt_size hol
  have ltS := Heap.lt_size hS
  have sz : items.size = ns.length := by
    have q := IntsAre.length allI
    rw [Array.length_toList] at q
    exact q
  have at_ : ∀ (i : Nat) (v : Value), items[i]? = some v → ∃ k t, ns[i]? = some k ∧ v = .int k t := fun i v hv => by
    have hi : i < ns.length := by rw [← sz]; exact (Array.getElem?_eq_some_iff.mp hv).1
    obtain ⟨t, e⟩ := PyProof.Rows.IntsAre.int_at allI i v (by rw [Array.getElem?_toList]; exact hv)
    exact ⟨ns[i], t, List.getElem?_eq_getElem hi, by rw [e, List.getD_eq_getElem?_getD, List.getElem?_eq_getElem hi]; rfl⟩
  have up : ∀ b o, s.heap.get? b = some o → (s.heap.push { cls := .type "list_iterator", data := .fields #[.ref l, .int 0 0] }).get? b = some o := fun b o e => Heap.get?_push_of_some _ e
  refine set_update_ints ((Walks.list (A := A.in1) (by simpa using hh) s.heap.objs.size l (Nat.ne_of_lt lt) items).toS) S (by simp only [List.mem_cons, List.not_mem_nil, or_false, not_or]; exact ⟨Nat.ne_of_lt ltS, hSl⟩) ns sz hb at_ items.size 0 _ (by omega) (Nat.zero_le _)
    ⟨⟨_, Heap.get?_push_size _ rfl, rfl, rfl⟩, lst.push _⟩ ⟨0, Nat.le_refl 0, setR_new_at (up S _ hS)⟩ fun s' c m hc hR => ?_
  rw [Moved.eq_with m]
  refine k s'.heap s'.toks c hR (by omega) fun b o hb e => m.heap b o (fun hm => ?_) (up b o e)
  rcases List.mem_cons.mp hm with z | z
  · exact hb z
  · have z : b = s.heap.objs.size := List.mem_singleton.mp z
    have := Heap.lt_size e
    rw [z] at this
    exact absurd this (Nat.lt_irrefl _)
theorem set_list {l : Addr} {items : Array Value} (ns : List Int) {Q : Value → Shared → Prop} (hh : A.handled = none) (lst : s.heap.IsList l items) (allI : IntsAre items.toList ns) (hb : ns.length + 1 < scanBound)
    (k : ∀ (h' : Heap) (tk c : Nat), SetR w h' s.heap.objs.size (fun j => decide (j ∈ ns)) c → c ≤ ns.length → (∀ b o, s.heap.get? b = some o → h'.get? b = some o) → Q (.ref s.heap.objs.size) { s with heap := h', toks := tk }) :
    wpAny (model P w) A (call (.type "set") [.ref l]) Q E s := by
  obtain ⟨mc, mtl, hmro⟩ := F.called_set.mro
  have hmade := F.called_set.made
  have hsub := F.called_set.sub
  refine wpAny_call (codeAny_of_tree ?_)
  show wpAny _ _ (callAny (.type "set") _) _ _ _
  refine wpAny_pure ⟨Code.quiet_builtin _ (by decide +kernel), codeAny_builtin F.entry_type_call ?_⟩
  rw [Around.under_plain (weight_type_call_type "set" [.ref l] []) rfl]
  have n1 := F.called_set.notType
  have n2 := F.called_set.canCreate
  have n3 := F.typeCall_set_1 (.ref l)
  repeat (any_goals (first | assumption | wp_step))
  refine codeAny_mono (code_set_led1 (.ref l) (E := E) (Q₁ := fun obj s₁ => obj = .ref s.heap.objs.size ∧ s₁ = { s with heap := s.heap.push (nsO w) }) ⟨rfl, rfl⟩) fun r s₁ hr => ?_
  cases r with
  | error e => exact hr
  | ok fl =>
    cases fl with
    | ret obj =>
      obtain ⟨rfl, rfl⟩ := hr
      have hS : (s.heap.push (nsO w)).get? s.heap.objs.size = some (nsO w) := Heap.get?_push_size _ rfl
      have tS : Shared.TypeIs { s with heap := s.heap.push (nsO w) } (.ref s.heap.objs.size) "set" := ⟨_, hS, rfl⟩
      have n4 := F.called_set.init.lookup
      have n5 := F.called_set.init.bind (.ref s.heap.objs.size)
      repeat (any_goals (first | assumption | wp_step))
      refine codeAny_mono (codeAny_call_builtin (R := wants (fun r s₂ => r = .none ∧ ∃ h' tk c, s₂ = { s with heap := h', toks := tk } ∧ SetR w h' s.heap.objs.size (fun j => decide (j ∈ ns)) c ∧ c ≤ ns.length ∧ (∀ b o, s.heap.get? b = some o → h'.get? b = some o)) E) F.called_set.init.plain F.entry_set_init (check_set_init_1 tS ?_)) fun r₂ s₂ hr₂ => ?_
      · obtain ⟨ol, hol, hcl, nl, hdl⟩ := id lst
        have lt := Heap.lt_size hol
        obtain ⟨o1, o2, o3, o4⟩ := ol
        simp only at hcl hdl
        subst hcl hdl
        have hol2 : (s.heap.push (nsO w)).get? l = some { cls := .type "list", dict := o2, data := .seq items nl, slots := o4 } := Heap.get?_push_of_some _ hol
        have n6 := F.sub_list_set
        have n7 := F.sub_list_frozenset
        have n8 : (Value.type "list" == Value.type "dict") = false := by decide
        have lst2 : (s.heap.push (nsO w)).IsList l items := ⟨_, hol2, rfl, nl, rfl⟩
        unfold Builtin.«set.__init__» noKeywords Builtin.Frozenset.updateFrom
        generalize hpi : pyIter = piF
        wp_walk
        subst hpi
        refine wpAny_pyIter_list lst2 (wpAny_bind (wpAny_runValue ?_))
        refine set_fed (s := { s with heap := s.heap.push (nsO w) }) ns (by simp [hh]) lst2 allI hb hS (Nat.ne_of_gt lt) fun h' tk c hR hc keep => ?_
        show wpAny _ _ _ _ _ _
        refine wpAny_pure ?_
        show wpAny _ _ (ret Value.none) _ _ _
        exact wpAny_pure ⟨rfl, h', tk, c, rfl, hR, hc, fun b o e => keep b o (fun z => absurd (Heap.lt_size e) (by rw [z]; exact Nat.lt_irrefl _)) (Heap.get?_push_of_some _ e)⟩
      · cases r₂ with
        | error e => exact hr₂
        | ok fl₂ =>
          cases fl₂ with
          | ret r =>
            obtain ⟨rfl, h', tk, c, rfl, hR, hc, hk⟩ := hr₂
            repeat (any_goals (first | assumption | wp_step))
            exact k _ _ _ hR hc hk
          | _ => exact hr₂.elim
    | _ => exact hr.elim
end
end VL
namespace VL
open PySem PySem.Spec PyProof.Rows L2 VL
/-- the numbers of a list, each once, rising -/
def asc (xs : List Nat) (n : Nat) : List Nat := (List.range n).filter fun k => decide (k ∈ xs)
theorem mem_asc {xs : List Nat} {n k : Nat} (h : ∀ x ∈ xs, x < n) : k ∈ asc xs n ↔ k ∈ xs := by
  unfold asc
  rw [List.mem_filter, List.mem_range, decide_eq_true_iff]
  exact ⟨fun z => z.2, fun z => ⟨h k z, z⟩⟩
theorem asc_pw (xs : List Nat) (n : Nat) : (asc xs n).Pairwise (· < ·) := List.Pairwise.filter _ List.pairwise_lt_range
theorem pw_uniq : ∀ {xs ys : List Int}, xs.Pairwise (· < ·) → ys.Pairwise (· < ·) → (∀ k, k ∈ xs ↔ k ∈ ys) → xs = ys
  | [], [], _, _, _ => rfl
  | [], y :: ys, _, _, h => absurd ((h y).mpr List.mem_cons_self) (by simp)
  | x :: xs, [], _, _, h => absurd ((h x).mp List.mem_cons_self) (by simp)
  | x :: xs, y :: ys, h1, h2, h => by
    obtain ⟨a1, a2⟩ := List.pairwise_cons.mp h1
    obtain ⟨b1, b2⟩ := List.pairwise_cons.mp h2
    have e : x = y := by
      have m1 := (h x).mp List.mem_cons_self
      have m2 := (h y).mpr List.mem_cons_self
      rcases List.mem_cons.mp m1 with e | m1
      · exact e
      · rcases List.mem_cons.mp m2 with e | m2
        · exact e.symm
        · have := a1 y m2; have := b1 x m1; omega
    subst e
    congr 1
    refine pw_uniq a2 b2 fun k => ⟨fun hk => ?_, fun hk => ?_⟩
    · rcases List.mem_cons.mp ((h k).mp (List.mem_cons_of_mem _ hk)) with e | m
      · subst e; have := a1 k hk; omega
      · exact m
    · rcases List.mem_cons.mp ((h k).mpr (List.mem_cons_of_mem _ hk)) with e | m
      · subst e; have := b1 k hk; omega
      · exact m
end VL
namespace VL
open PySem PySem.Spec PyProof.Rows L2 VL
/-- handed arg a, with pre a, it answers r, the arguments being l then, where rel a r l -/
def Rsp {α : Type} (arg : α → List D) (pre : α → Prop) (rel : α → D → List D → Prop) : VSp := fun ds Q _ => ∃ a, ds = arg a ∧ pre a ∧ ∀ r l, rel a r l → Q r l
theorem Rsp.mono {α : Type} {arg : α → List D} {pre : α → Prop} {rel : α → D → List D → Prop} : Mono (Rsp arg pre rel) := fun _ _ _ _ _ h _ ⟨a, e, p, q⟩ => ⟨a, e, p, fun r l z => h _ _ (q r l z)⟩
end VL
namespace VL
open PySem PySem.Spec PyProof.Rows L2 VL
def rGetA (K : PySem.W.Frag) : V → V → Hp → VK → Prop := fun o i H Q => (∃ p xs k v, o = .ref p ∧ i = .int k ∧ SqL K H p xs ∧ atI xs k = some v ∧ Q v H) ∨ rIxD o i H Q
theorem pget_any {X : Cx} (hu : X.A.units + 1 < cLine) : PGet X (rGetA X.K) := by
  intro pins s σ H o i ov iv Q I ro ri h
  rcases h with h | h
  · obtain ⟨p, xs, k, z, rfl, rfl, hq, he, q⟩ := h
    cases ro
    obtain ⟨t, rfl⟩ := ri
    obtain ⟨its, r, pl, hz⟩ := I.list hq
    obtain ⟨j, h1, h2, h3, h4, h5⟩ := atI_get he
    obtain ⟨w, ew, rw'⟩ := r.get h2
    have hl := r.length
    have hn := line63
    have fin : EP X pins σ Q w s := ⟨z, H, I, rw', q⟩
    by_cases h0 : 0 ≤ k
    · have hj : k.toNat = j := by
        rw [seqIndex_of h0 h5] at h1
        exact Option.some.inj h1
      exact wpAny_getItem_list pl.isList h0 (by omega) (by rw [hj]; simpa using ew) fin
    · have hj : (k + (its.toArray.size : Int)).toNat = j := by
        rw [seqIndex_neg (by omega) h4] at h1
        rw [List.size_toArray, ← hl]
        exact Option.some.inj h1
      exact wpAny_getItem_list_neg pl.isList (by omega) (by rw [List.size_toArray] <;> omega) (by omega) (by rw [hj]; simpa using ew) fin
  · obtain ⟨a, z, rfl, g, q⟩ := h
    obtain rfl : ov = Value.ref a := ro
    exact d_getItem hu I g ri fun w' s' I' rw' => ⟨z, H, I', rw', q⟩
/-- what a container of ours holds under a key, read to be changed -/
def getM : D → D → Option D
  | .lst true ds, .int k => (ixN ds.length k).bind fun j => ds[j]?
  | .pin _ (.lst true ds), .int k => (ixN ds.length k).bind fun j => ds[j]?
  | .dK true ks ds, k => (keyD k).bind fun k => (kIx ks k).bind fun j => ds[j]?
  | _, _ => none
theorem getM_run {K : PySem.W.Frag} {G H : Hp} (hs : Sub G H) {c k d : D} {v w : V} {F1 F2 : List Addr} (rc : Rp K G H c v F1) (rk : Rp K G H k w F2) (h : getM c k = some d) (z : isFz d = true) :
    ∃ u, Rp K G H d u [] ∧ ∀ Q : VK, Q u H → rGetA K v w H Q := by
  have seq : ∀ (ds : List D) (i : Int), k = .int i → ((ixN ds.length i).bind fun j => ds[j]?) = some d → (∃ p vs F', v = .ref p ∧ SqL K H p vs ∧ RpL K G H ds vs F') → ∃ u, Rp K G H d u [] ∧ ∀ Q : VK, Q u H → rGetA K v w H Q := by
    intro ds i e2 e3 e4
    subst e2
    obtain ⟨p, vs, F', rfl, hq, rl⟩ := e4
    obtain ⟨rfl, _⟩ := rk
    cases hj : ixN ds.length i with
    | none => rw [hj] at e3; cases e3
    | some j =>
      rw [hj] at e3
      have e3 : ds[j]? = some d := e3
      obtain ⟨u, hu, ru⟩ := rl.at e3 z
      have ha : atI vs i = some u := by
        unfold atI
        rw [← rl.len, hj]
        exact hu
      exact ⟨u, ru, fun Q q => .inl ⟨p, vs, i, u, rfl, rfl, hq, ha, q⟩⟩
  cases c with
  | lst m ds =>
    cases m with
    | false => cases k <;> cases h
    | true =>
      cases k with
      | int i =>
        obtain ⟨a, vs, F', rfl, s, rfl, r⟩ := rc
        exact seq ds i rfl h ⟨a, vs, _, rfl, SqL.of s, r⟩
      | _ => cases h
  | pin u c1 =>
    cases c1 with
    | lst m ds =>
      cases m with
      | false => cases k <;> cases h
      | true =>
        cases k with
        | int i =>
          obtain ⟨rfl, a, vs, F', rfl, s, rfl, r⟩ := rc
          exact seq ds i rfl h ⟨a, vs, _, rfl, SqL.of s, r⟩
        | _ => cases h
    | _ => cases k <;> cases h
  | dK m ks xs =>
    cases m with
    | false => cases h
    | true =>
      obtain ⟨a, us, F', rfl, e, rfl, l, _, rl⟩ := rc
      have h : ((keyD k).bind fun k => (kIx ks k).bind fun j => xs[j]?) = some d := h
      cases hk : keyD k with
      | none => rw [hk] at h; cases h
      | some k0 =>
        rw [hk] at h
        have h : ((kIx ks k0).bind fun j => xs[j]?) = some d := h
        cases hj : kIx ks k0 with
        | none => rw [hj] at h; cases h
        | some j =>
          rw [hj] at h
          obtain ⟨u, hu, ru⟩ := rl.at h z
          obtain ⟨rfl, _⟩ := rk.keyD hk
          refine ⟨u, ru, fun Q q => .inr ⟨a, u, rfl, ?_, q⟩⟩
          have := DGet.k (k := kc k0) e
          rw [kzip_val (l.trans rl.len), hj] at this
          have e5 : ((some j).bind fun j => us[j]?) = some u := hu
          rw [e5] at this
          exact this
  | _ => cases k <;> cases h
section
variable {X : Cv}
/-- place[k] op= e, of numbers -/
def vAugP (f : Int → Int → Int) (i : Nat) (tp : VTP) (tk te : VTE) : VTS := fun N ε => tp N.rx ε fun p => tk N.rx ε fun k ε1 => ∃ d0 c x, ε[i]? = some (some d0) ∧ ε1[i]? = some (some d0) ∧ getP d0 p = some c ∧ getM c k = some (.int x) ∧ te N.rx ε1 fun y ε2 => ∃ z c', ε2[i]? = some (some d0) ∧ y = .int z ∧ putD c k (.int (f x z)) = some c' ∧ N.nx (ε2.set i (some (setP d0 p c')))
theorem vs_augP {o ie e : Expr} {i : Nat} {te tk : VTE} {tp : VTP} {pos tpos : Pos} {op : Operator} {f : Int → Int → Int} {k : Nat} (hr : Room k X.A) (ho : OpR X.toCx (inplaceOp op) (rI0 fun i j => .int (f i j))) (hp : VP X o i tp) (hk : VQ X ie tk) (he : VQ X e te)
    (ha : ∀ ov iv new, augStore ie ov iv new = (do holding [new, ov, iv] (setItem ov iv new); release [new, ov, iv] []; pure .next) := by intros; rfl) : VS X (.AugAssign (.Subscript o ie tpos) op e pos) (vAugP f i tp tk te) := by
  obtain ⟨te', e1, e2⟩ := he.ex
  obtain ⟨tp', p1, p2⟩ := hp.ex
  obtain ⟨tk', k1, k2⟩ := hk.ex
  have hpi : PIp X.toCx op (rI0 fun i j => .int (f i j)) := ho
  refine ⟨fun W => tAugS (tp' W) (tk' W) (te' W) (rGetA X.K) (rI0 fun i j => .int (f i j)) rSetAny, fun W tk => ps_augS (p1 W tk) (k1 W tk) (pget_any (by have := hr.units; omega)) (e1 W tk) hpi (pset_any (by have := hr.units; omega)) ha, fun b σ H ε T Tv W N E I q l x => ?_⟩
  refine p2 b σ H ε T Tv W N.rx _ _ I q (fun p d0 c v0 vc H1 s1 I1 ei g hs at_ q1 => ?_) x
  refine k2 b σ H1 ε T Tv W N.rx _ _ I1 q1 (fun kd kv ε1 H2 s2 I2 q2 => ?_) x
  obtain ⟨d0', c0, xx, ei0, ei1, g', hm, q2⟩ := q2
  rw [ei] at ei0
  cases ei0
  rw [g] at g'
  cases g'
  have x1 : XL X.K b.1 (T ++ [kd]) (Tv ++ [kv]) W N.rx := x.more I.lenT rfl
  obtain ⟨G, B, FR, su, rc, rk, _⟩ := I2.focusAt I.lenT ei1 g hs (at_.grow s2)
  obtain ⟨kv', vs2, Fk, A2, ek, rfl, rk, _, _⟩ := rk
  cases ek
  obtain ⟨u, ru, go⟩ := getM_run su rc rk hm rfl
  obtain ⟨rfl, _⟩ := ru
  refine go _ ?_
  refine e2 b σ H2 ε1 (T ++ [kd]) (Tv ++ [kv]) W N.rx _ _ I2 q2 (fun yd yv ε2 H3 s3 I3 q3 => ?_) x1
  obtain ⟨z, c', ei2, rfl, hput, q3⟩ := q3
  obtain ⟨_, _, _, rfl, _⟩ := I3.last (by have := I.lenT; simp [this])
  have I4 : SI X.K b.1 σ H3 ε2 (T ++ [kd]) (Tv ++ [kv]) := I3.pop (by have := I.lenT; simp [this])
  have I5 : SI X.K b.1 σ H3 ε2 (T ++ [kd] ++ [.int (f xx z)]) (Tv ++ [kv] ++ [.int (f xx z)]) := I4.push fun _ => ⟨rfl, rfl⟩
  have I6 := SI.swap (A := [kd]) (B := [.int (f xx z)]) (C := []) (Av := [kv]) (Bv := [.int (f xx z)]) (Cv := []) (by simpa only [List.append_assoc, List.append_nil] using I5) I.lenT rfl rfl
  refine ⟨xx, z, rfl, rfl, ?_⟩
  exact put_run (by simpa only [List.append_nil, List.cons_append, List.nil_append] using I6) I.lenT ei2 g hs ((at_.grow s2).grow s3) hput fun H' J => l.nx σ H' _ J q3
theorem SI.pin {K : PySem.W.Frag} {b : Bs} {σ : L2.St} {H : Hp} {ε : Ep} {T : List D} {Tv : List V} {d : D} {v : V} (I : SI K b σ H ε (T ++ [d]) (Tv ++ [v])) (hl : T.length = Tv.length) : SI K b σ H ε (T ++ [.pin v d]) (Tv ++ [v]) := by
  obtain ⟨G, F, Ft, J⟩ := I
  obtain ⟨F1, F2, rfl, r1, r2⟩ := J.temps.split2 hl
  have r2 := RpL.one.mp r2
  have r3 : Rp K G H (.pin v d) v F2 := ⟨rfl, r2⟩
  exact ⟨G, F, F1 ++ F2, J.s0, J.sub, J.slots, r1.append (RpL.one.mpr r3), J.nd, J.fr, J.own, J.gn, J.keep, J.kept⟩
end
end VL
namespace VL
open PySem PySem.Spec PyProof.Rows L2 VL
section
variable {X : Cv}
abbrev VTD := WV → Ep → (List (D × D) → Ep → Prop) → Prop
def vdNil : VTD := fun _ ε Q => Q [] ε
def vdCons (tk tv : VTE) (u : VTD) : VTD := fun N ε Q => tk N ε fun k ε1 => tv N ε1 fun y ε2 => u N ε2 fun ds ε3 => Q ((k, y) :: ds) ε3
/-- keys, and what stands under them -/
def keysD : List (D × D) → Option (List Kc)
  | [] => some []
  | (k, _) :: r => (keyD k).bind fun k => (keysD r).map (k :: ·)
def vDisp (t : VTD) : VTE := fun N ε Q => t N ε fun ds ε1 => ∃ ks, keysD ds = some ks ∧ ks.Nodup ∧ Q (.dK true ks (ds.map (·.2))) ε1
end
end VL
namespace VL
open PySem PySem.Spec PyProof.Rows L2 VL
end VL
namespace VL
open PySem PySem.Spec PyProof.Rows L2 VL
end VL
namespace VL
open PySem PySem.Spec PyProof.Rows L2 VL
inductive Rw where
  | sum (n : Nat) (x : Cs) (a : Opd) (s : Cs) (b : Opd)
  | test (n : Nat) (a : Opd) (s : Cs) (b : Opd) (to : Nat)
  | jump (n to : Nat)
  | fin (n : Nat)
def rwL : Rw → List D
  | .sum n x a s b => [.int (n : Int), .str cSum, .str x, opD a, .str s, opD b]
  | .test n a s b to => [.int (n : Int), .str cTest, opD a, .str s, opD b, .int (to : Int)]
  | .jump n to => [.int (n : Int), .str cJump, .int (to : Int)]
  | .fin n => [.int (n : Int), .str cEnd]
def rwD (r : Rw) : D := .tup (rwL r)
theorem rwD_fz (r : Rw) : isFz (rwD r) = true := by cases r <;> simp [rwD, rwL, isFz, isFzL, opD_fz]
theorem rws_fz (rs : List Rw) : isFzL (rs.map rwD) = true := by rw [isFzL_all]; simp [rwD_fz]
theorem rws_frz (rs : List Rw) : frzL (rs.map rwD) = rs.map rwD := frzL_id (rws_fz rs)
def Rw.num : Rw → Nat
  | .sum n _ _ _ _ => n
  | .test n _ _ _ _ => n
  | .jump n _ => n
  | .fin n => n
def Rw.tos : Rw → List Nat
  | .test _ _ _ _ to => [to]
  | .jump _ to => [to]
  | _ => []
def Rw.falls : Rw → Bool
  | .sum _ _ _ _ _ => true
  | .test _ _ _ _ _ => true
  | _ => false
def Rw.good : Rw → Bool
  | .sum _ x a s b => Cs.good x && (a.good && (Cs.good s && b.good))
  | .test _ a s b _ => a.good && (Cs.good s && b.good)
  | _ => true
def nums (rs : List Rw) : List Nat := rs.map Rw.num
theorem nums_len (rs : List Rw) : (nums rs).length = rs.length := by simp [nums]
structure RwOk (rs : List Rw) : Prop where
  pos : 0 < rs.length
  few : rs.length < 10000
  nd : (nums rs).Nodup
  tos : ∀ r ∈ rs, ∀ t ∈ r.tos, t ∈ nums rs
  good : ∀ r ∈ rs, r.good = true
  last : ∀ (k : Nat) r, rs[k]? = some r → r.falls = true → k + 1 < rs.length
def nxJ (rs : List Rw) (k : Nat) : Option Nat := match rs[k]? with
  | some (.jump _ to) => some ((nums rs).idxOf to)
  | _ => none
def stopJ (nx : Nat → Option Nat) : Nat → List Nat → Nat → Nat
  | 0, _, k => k
  | f + 1, seen, k => match nx k with
    | none => k
    | some b => if k ∈ seen then k else stopJ nx f (seen ++ [k]) b
def ringJ (nx : Nat → Option Nat) (c : Nat) : Nat → Nat → Nat → Nat
  | 0, m, _ => m
  | f + 1, m, h => if h = c then m else ringJ nx c f (min m h) ((nx h).getD 0)
def comeTo (rs : List Rw) (k : Nat) : Nat := match nxJ rs (stopJ (nxJ rs) (rs.length + 1) [] k) with
  | none => stopJ (nxJ rs) (rs.length + 1) [] k
  | some b => ringJ (nxJ rs) (stopJ (nxJ rs) (rs.length + 1) [] k) (rs.length + 1) (stopJ (nxJ rs) (rs.length + 1) [] k) b
theorem nx_lt {rs : List Rw} (R : RwOk rs) {k b : Nat} (h : nxJ rs k = some b) : b < rs.length := by
  unfold nxJ at h
  split at h
  · rename_i n to e
    cases h
    rw [← nums_len]
    exact List.idxOf_lt_length_iff.mpr (R.tos _ (List.mem_of_getElem? e) to (by simp [Rw.tos]))
  · cases h
theorem stop_lt {nx : Nat → Option Nat} {n : Nat} (hx : ∀ k b, nx k = some b → b < n) : ∀ (f : Nat) (seen : List Nat) (k : Nat), k < n → stopJ nx f seen k < n
  | 0, _, _, h => h
  | f + 1, seen, k, h => by
    unfold stopJ
    split
    · exact h
    · rename_i b e
      split
      · exact h
      · exact stop_lt hx f _ b (hx k b e)
theorem ring_lt {nx : Nat → Option Nat} {n c : Nat} : ∀ (f m h : Nat), m < n → ringJ nx c f m h < n
  | 0, _, _, h => h
  | f + 1, m, h, hm => by
    unfold ringJ
    split
    · exact hm
    · exact ring_lt f _ _ (by omega)
theorem come_lt {rs : List Rw} (R : RwOk rs) {k : Nat} (h : k < rs.length) : comeTo rs k < rs.length := by
  have h1 := stop_lt (fun k b e => nx_lt R (k := k) e) (rs.length + 1) [] k h
  unfold comeTo
  split
  · exact h1
  · exact ring_lt _ _ _ h1
/-- what is known on the way: those seen stand one behind the other -/
structure JInv (rs : List Rw) (k0 : Nat) (seen : List Nat) (k : Nat) : Prop where
  nd : seen.Nodup
  rng : ∀ x ∈ seen, x < rs.length
  lt : k < rs.length
  ch : ∀ (i a : Nat), seen[i]? = some a → nxJ rs a = (seen ++ [k])[i + 1]?
  val : stopJ (nxJ rs) (rs.length + 1 - seen.length) seen k = stopJ (nxJ rs) (rs.length + 1) [] k0
theorem JInv.start {rs : List Rw} {k : Nat} (h : k < rs.length) : JInv rs k [] k := ⟨List.nodup_nil, fun _ z => (nomatch z), h, fun i a z => (by simp at z), rfl⟩
theorem JInv.len {rs : List Rw} {k0 k : Nat} {seen : List Nat} (I : JInv rs k0 seen k) : seen.length ≤ rs.length := nodup_len I.nd I.rng
theorem JInv.more {rs : List Rw} (R : RwOk rs) {k0 k b : Nat} {seen : List Nat} (I : JInv rs k0 seen k) (h : nxJ rs k = some b) (hk : k ∉ seen) : JInv rs k0 (seen ++ [k]) b ∧ seen.length < rs.length := by
  have nd : (seen ++ [k]).Nodup := List.nodup_append.mpr ⟨I.nd, by simp, fun x hx y hy e => by rw [List.mem_singleton.mp hy] at e; exact hk (e ▸ hx)⟩
  have rg : ∀ x ∈ seen ++ [k], x < rs.length := fun x hx => by
    rcases List.mem_append.mp hx with hx | hx
    · exact I.rng x hx
    · rw [List.mem_singleton.mp hx]; exact I.lt
  have l := nodup_len nd rg
  rw [List.length_append, List.length_singleton] at l
  refine ⟨⟨nd, rg, nx_lt R h, fun i a e => ?_, ?_⟩, by omega⟩
  · have hi := (List.getElem?_eq_some_iff.mp e).1
    rw [List.length_append, List.length_singleton] at hi
    by_cases q : i < seen.length
    · rw [List.getElem?_append_left q] at e
      rw [I.ch i a e]
      rw [List.getElem?_append_left (l₁ := seen ++ [k]) (by simp; omega)]
    · have qi : i = seen.length := by omega
      subst qi
      rw [List.getElem?_append_right (Nat.le_refl _)] at e
      simp at e
      subst e
      rw [h]
      simp
  · rw [← I.val]
    obtain ⟨f, hf⟩ : ∃ f, rs.length + 1 - seen.length = f + 1 := ⟨rs.length - seen.length, by omega⟩
    have e2 : rs.length + 1 - (seen ++ [k]).length = f := by rw [List.length_append, List.length_singleton]; omega
    rw [e2, hf]
    show _ = (match nxJ rs k with | none => k | some b => if k ∈ seen then k else stopJ (nxJ rs) f (seen ++ [k]) b)
    rw [h]
    show _ = (if k ∈ seen then k else stopJ (nxJ rs) f (seen ++ [k]) b)
    rw [if_neg hk]
theorem JInv.stop {rs : List Rw} {k0 k : Nat} {seen : List Nat} (I : JInv rs k0 seen k) (h : nxJ rs k = none ∨ k ∈ seen) : stopJ (nxJ rs) (rs.length + 1) [] k0 = k := by
  rw [← I.val]
  have := I.len
  obtain ⟨f, hf⟩ : ∃ f, rs.length + 1 - seen.length = f + 1 := ⟨rs.length - seen.length, by omega⟩
  rw [hf]
  show (match nxJ rs k with | none => k | some b => if k ∈ seen then k else stopJ (nxJ rs) f (seen ++ [k]) b) = k
  split
  · rfl
  · rename_i b e
    rcases h with h | h
    · rw [h] at e; cases e
    · rw [if_pos h]
/-- the ring: from its place in those seen on to their end -/
structure KInv (rs : List Rw) (k0 c m h i : Nat) (seen : List Nat) (j : Nat) : Prop where
  at_ : seen[j]? = some c
  le : j < i ∧ i ≤ seen.length
  here : (seen ++ [c])[i]? = some h
  val : ringJ (nxJ rs) c (rs.length + 1 - (i - j - 1)) m h = comeTo rs k0
theorem JInv.ring {rs : List Rw} {k0 k b : Nat} {seen : List Nat} (I : JInv rs k0 seen k) (hk : k ∈ seen) (h : nxJ rs k = some b) : ∃ j, KInv rs k0 k k b (j + 1) seen j := by
  obtain ⟨j, hj⟩ := List.mem_iff_getElem?.mp hk
  have e := I.ch j k hj
  rw [h] at e
  refine ⟨j, hj, ⟨by omega, (List.getElem?_eq_some_iff.mp hj).1⟩, e.symm, ?_⟩
  have e2 : j + 1 - j - 1 = 0 := by omega
  rw [e2]
  unfold comeTo
  rw [I.stop (.inr hk), h]
  rfl
theorem KInv.next {rs : List Rw} (R : RwOk rs) {k0 c m h i j : Nat} {seen : List Nat} (J : JInv rs k0 seen c) (I : KInv rs k0 c m h i seen j) (hn : h ≠ c) : i < seen.length ∧ ∃ b, nxJ rs h = some b ∧ KInv rs k0 c (min m h) b (i + 1) seen j := by
  have hi : i < seen.length := by
    by_cases q : i < seen.length
    · exact q
    · exfalso
      have qi : i = seen.length := by have := I.le.2; omega
      have := I.here
      rw [qi, List.getElem?_append_right (Nat.le_refl _)] at this
      simp at this
      exact hn this.symm
  have hh : seen[i]? = some h := by have := I.here; rwa [List.getElem?_append_left hi] at this
  have e := J.ch i h hh
  have hlt : i + 1 < (seen ++ [c]).length := by simp; omega
  rw [List.getElem?_eq_getElem hlt] at e
  refine ⟨hi, _, e, I.at_, ⟨by have := I.le.1; omega, hi⟩, List.getElem?_eq_getElem hlt, ?_⟩
  rw [← I.val]
  have l := J.len
  obtain ⟨f, hf⟩ : ∃ f, rs.length + 1 - (i - j - 1) = f + 1 := ⟨rs.length - (i - j - 1), by omega⟩
  have e2 : rs.length + 1 - (i + 1 - j - 1) = f := by have := I.le.1; omega
  rw [e2, hf]
  show _ = (if h = c then m else ringJ (nxJ rs) c f (min m h) ((nxJ rs h).getD 0))
  rw [if_neg hn, e]
  rfl
theorem KInv.stop {rs : List Rw} {k0 c m h i j : Nat} {seen : List Nat} (J : JInv rs k0 seen c) (I : KInv rs k0 c m h i seen j) (hn : h = c) : comeTo rs k0 = m := by
  rw [← I.val]
  have l := J.len
  have := I.le
  obtain ⟨f, hf⟩ : ∃ f, rs.length + 1 - (i - j - 1) = f + 1 := ⟨rs.length - (i - j - 1), by omega⟩
  rw [hf]
  show (if h = c then m else _) = m
  rw [if_pos hn]
def nodeAt (rs : List Rw) (k : Nat) : Nd := match rs[k]? with
  | some (.sum _ x a s b) => .sum x a s b (comeTo rs (k + 1))
  | some (.test _ a s b to) => .test a s b (comeTo rs ((nums rs).idxOf to)) (comeTo rs (k + 1))
  | some (.fin _) => .fin
  | _ => .spin
def rawOf (rs : List Rw) : List Nd := (List.range rs.length).map (nodeAt rs)
theorem rawOf_len (rs : List Rw) : (rawOf rs).length = rs.length := by simp [rawOf]
theorem rawOf_at {rs : List Rw} {k : Nat} (h : k < rs.length) : (rawOf rs)[k]? = some (nodeAt rs k) := by simp [rawOf, h]
theorem place_lt {rs : List Rw} {t : Nat} (h : t ∈ nums rs) : (nums rs).idxOf t < rs.length := by rw [← nums_len]; exact List.idxOf_lt_length_iff.mpr h
theorem node_ok {rs : List Rw} (R : RwOk rs) {k : Nat} (h : k < rs.length) : (nodeAt rs k).ok rs.length ∧ (nodeAt rs k).good = true := by
  obtain ⟨r, hr⟩ : ∃ r, rs[k]? = some r := ⟨_, List.getElem?_eq_getElem h⟩
  have hm := List.mem_of_getElem? hr
  have hg := R.good r hm
  unfold nodeAt
  rw [hr]
  cases r with
  | sum n x a s b =>
    refine ⟨fun g hg => ?_, by simpa [Rw.good, Nd.good] using hg⟩
    have hg : g ∈ [comeTo rs (k + 1)] := hg
    rw [List.mem_singleton.mp hg]
    exact come_lt R (R.last k _ hr rfl)
  | test n a s b to =>
    refine ⟨fun g hg => ?_, by simpa [Rw.good, Nd.good] using hg⟩
    have hg : g ∈ [comeTo rs (k + 1), comeTo rs ((nums rs).idxOf to)] := hg
    rcases List.mem_cons.mp hg with hg | hg
    · rw [hg]; exact come_lt R (R.last k _ hr rfl)
    · rw [List.mem_singleton.mp hg]
      exact come_lt R (place_lt (R.tos _ hm to (by simp [Rw.tos])))
  | jump n to => exact ⟨fun g hg => (nomatch hg), rfl⟩
  | fin n => exact ⟨fun g hg => (nomatch hg), rfl⟩
theorem raw_ok {rs : List Rw} (R : RwOk rs) : (∀ x ∈ rawOf rs, x.ok (rawOf rs).length) ∧ ∀ x ∈ rawOf rs, x.good = true := by
  rw [rawOf_len]
  refine ⟨fun x hx => ?_, fun x hx => ?_⟩ <;>
  · unfold rawOf at hx
    obtain ⟨k, hk, rfl⟩ := List.mem_map.mp hx
    first | exact (node_ok R (List.mem_range.mp hk)).1 | exact (node_ok R (List.mem_range.mp hk)).2
def strsD (nm : List Cs) : List D := nm.map D.str
theorem strs_fz (nm : List Cs) : isFzL (strsD nm) = true := by rw [isFzL_all]; simp [strsD, isFz]
theorem strs_frz (nm : List Cs) : frzL (strsD nm) = strsD nm := frzL_id (strs_fz nm)
end VL
namespace VL
open PySem PySem.Spec PyProof.Rows L2 VL
/-- where a node falls to -/
def lastG : Nd → Option Nat
  | .sum _ _ _ _ to => some to
  | .test _ _ _ _ n => some n
  | _ => none
def firstRow (f : Nat → Nat) (k : Nat) : Nd → Rw
  | .sum x a s b _ => .sum (f k) x a s b
  | .test a s b y _ => .test (f k) a s b (f y)
  | .fin => .fin (f k)
  | .spin => .jump (f k) (f k)
def blk (f : Nat → Nat) (jf : Nat → Nd → Bool) (k : Nat) (x : Nd) : List Rw := firstRow f k x :: (match lastG x with
  | some t => if jf k x then [.jump (f k + 1) (f t)] else []
  | none => [])
end VL
namespace VL
open PySem PySem.Spec PyProof.Rows L2 VL
end VL
namespace VL
open PySem PySem.Spec PyProof.Rows L2 VL
def initP : Str × Option Str := ("JumpError", some "__init__")
abbrev fiA (K : PySem.W.Frag) : Addr := He.fAd K initP
/-- __init__(self, row), walked -/
def spI (K : PySem.W.Frag) : Sp := fun vs H Q _ => ∃ (a C : Addr) (r : V), vs = [.ref a, r] ∧ H a = some (exo a C none) ∧ OexC K C ∧ PySem.W.findIn K (.ref C) "row" = some none ∧
  ∀ dx, H dx = none → dx ≠ a → Q .non (upd (upd H dx (exd dx [("row", r)])) a (exo a C (some dx)))
end VL
namespace VL
open PySem PySem.Spec PyProof.Rows L2 VL
/-- the base's __init__, as every class of the law's calls it -/
structure ExFn (P : Program) (w : World) (K : PySem.W.Frag) (mg : Str → Option Value) (base : Heap) (k : Nat) : Prop where
  ex : ∃ fd ds, Vals [.non] ds ∧ Binds K fd ["self", "row"] ds ∧ FnOk P w K mg base (VL.CX P w) k (fiA K) fd ["self", "row"] (spI K)
theorem ExFn.mono {P w K mg base j k} (F : ExFn P w K mg base j) (h : j ≤ k) : ExFn P w K mg base k := let ⟨fd, ds, a, b, c⟩ := F.ex; ⟨fd, ds, a, b, c.mono h⟩
end VL
namespace VL
open PySem PySem.Spec PyProof.Rows L2 VL
section
variable {K : PySem.W.Frag} {b : Bs} {σ : L2.St} {H : Hp} {ε : Ep} {T : List D} {Tv : List V}
/-- the caught exception goes to a slot -/
theorem SI.exn {row : D} {v : V} {a dd : Addr} {cls : Value} {i : Nat} (I : SI K b σ H ε (T ++ [row]) (Tv ++ [v])) (hl : T.length = Tv.length) (e : H dd = some (.xd [("row", v)])) (fr : dd ∈ b.F0 ∨ b.H0 dd = none) (na : H a = none) (fz : isFz row = true)
    (hi : i < ε.length) (hk : ∀ u, b.kv[i]? ≠ some (some u)) : SI K b (σ.set i (some (.ref a))) (L2.upd H a (exk (clsV K cls) dd a)) (ε.set i (some (.exn a dd cls row))) T Tv := by
  have had : dd ≠ a := fun z => by rw [z, na] at e; cases e
  have hsub : Sub H (L2.upd H a (exk (clsV K cls) dd a)) := Sub.laid na
  obtain ⟨G, F, Ft, J0⟩ := I
  have nF := J0.ne na
  have nG := J0.gne na
  have aF := J0.h0 na
  have J := J0.grow hsub
  have e' : L2.upd H a (exk (clsV K cls) dd a) dd = some (.xd [("row", v)]) := hsub _ _ e
  clear J0 hsub
  generalize hH : L2.upd H a (exk (clsV K cls) dd a) = H' at J e' ⊢
  have ea : H' a = some (exk (clsV K cls) dd a) := by rw [← hH, upd_same]
  clear hH e
  obtain ⟨F1, F2, rfl, r1, r2⟩ := J.temps.split2 hl
  have r2 := RpL.one.mp r2
  have e2 := r2.fz fz
  subst e2
  have nd : dd ∉ F ++ F1 := fun z => by
    have z2 : ∃ o, H' dd = some o ∧ Mut (some o) := by
      rcases List.mem_append.mp z with z | z
      · exact J.slots.there dd z
      · exact r1.there dd z
    obtain ⟨o, eo, m⟩ := z2
    rw [e'] at eo
    cases eo
    exact m
  have sg1 : Sub G (L2.upd G dd (.xd [("row", v)])) := fun p o ep => by
    by_cases h : p = dd
    · subst h
      rw [upd_same, ← J.sub _ _ ep, e']
    · rw [upd_ne h]; exact ep
  have n1 : L2.upd G dd (.xd [("row", v)]) a = none := by rw [upd_ne had.symm]; exact nG
  have sg : Sub G (L2.upd (L2.upd G dd (.xd [("row", v)])) a (exk (clsV K cls) dd a)) := sg1.trans (Sub.laid n1)
  have nf : ∀ a ∈ F ++ F1, G a = none := fun a z => J.fr a (by simpa using z)
  refine SI.store (d := .exn a dd cls row) (v := .ref a) ⟨L2.upd (L2.upd G dd (.xd [("row", v)])) a (exk (clsV K cls) dd a), F, F1, J.s0.trans sg, fun p o ep => ?_, J.slots.mono sg fun _ _ => rfl, ?_, by simpa using J.nd, fun p z => ?_, fun p z => J.own p (by simpa using z), fun p o ea => ?_, J.keep, J.kept⟩ hl hi hk
  · by_cases h2 : p = a
    · subst h2
      rw [upd_same] at ep
      rw [ea, ep]
    · rw [upd_ne h2] at ep
      by_cases h : p = dd
      · subst h
        rw [upd_same] at ep
        rw [e', ep]
      · rw [upd_ne h] at ep; exact J.sub _ _ ep
  · have q := (r1.mono sg fun _ _ => rfl).append (RpL.one.mpr (show Rp K (L2.upd (L2.upd G dd (.xd [("row", v)])) a (exk (clsV K cls) dd a)) H' (.exn a dd cls row) (.ref a) [] from ⟨⟨rfl, upd_same⟩, v, by rw [upd_ne had]; exact upd_same, r2.mono sg fun _ _ => rfl⟩))
    rw [List.append_nil] at q
    exact q
  · have h1 : p ≠ dd := fun h => nd (h ▸ z)
    have h2 : p ≠ a := fun h => nF (by rw [← h]; simpa using z)
    rw [upd_ne h2, upd_ne h1]
    exact nf p z
  · by_cases h2 : p = a
    · subst h2
      exact .inr (inl3 aF)
    · rw [upd_ne h2] at ea
      by_cases h : p = dd
      · subst h
        exact .inr (inl3 fr)
      · rw [upd_ne h] at ea
        exact J.gn p o ea
end
end VL
namespace VL
open PySem PySem.Spec PyProof.Rows L2 VL
end VL
namespace VL
open PySem PySem.Spec PyProof.Rows L2 VL
inductive XC where
  | own (s : String)
  | ty (s : String)
def XC.val (K : PySem.W.Frag) : XC → Value
  | .own s => .ref (He.ga K (Str.ofString s))
  | .ty s => .type s
/-- a function that may refuse -/
def Osp {α : Type} (args : α → List D) (pre : α → Prop) (f : α → Option D) (cl : String) : VSp := fun ds Q E => ∃ a, ds = args a ∧ pre a ∧ match f a with
  | some r => Q r (args a)
  | none => E (.type cl) .non (args a)
theorem Osp.mono {α : Type} {args : α → List D} {pre : α → Prop} {f : α → Option D} {cl : String} : Mono (Osp args pre f cl) := fun ds A A' B B' hA hB ⟨a, e, p, q⟩ => ⟨a, e, p, by
  cases h : f a with
  | some r => rw [h] at q; exact hA _ _ q
  | none => rw [h] at q; exact hB _ _ _ q⟩
end VL
namespace VL
open PySem PySem.Spec PyProof.Rows L2 VL
theorem fzip_none : ∀ {fs : List Cs} {vs : List V} {f : Cs}, fdIx fs f = none → (fzip fs vs).lookup (toS f) = none
  | [], vs, f, _ => rfl
  | g :: fs, [], f, _ => rfl
  | g :: fs, w :: vs, f, h => by
    unfold fdIx at h
    rw [List.idxOf?_cons] at h
    show ((toS g, w) :: fzip fs vs).lookup (toS f) = none
    by_cases e : g = f
    · subst e
      simp at h
    · have e1 : (g == f) = false := by simpa using e
      rw [e1] at h
      have h2 : fdIx fs f = none := by simpa [fdIx] using h
      have e2 : (toS f == toS g) = false := by
        rw [beq_eq_false_iff_ne]
        intro z
        exact e (toS_inj z.symm)
      simp only [List.lookup, e2]
      exact fzip_none h2
theorem fzip_put : ∀ {fs : List Cs} {vs : List V} {f : Cs} {y : V}, fdIx fs f = none → fs.length = vs.length → putF (toS f) y (fzip fs vs) = fzip (fs ++ [f]) (vs ++ [y])
  | [], [], f, y, _, _ => rfl
  | [], _ :: _, _, _, _, h => by cases h
  | _ :: _, [], _, _, _, h => by cases h
  | g :: fs, w :: vs, f, y, h, hl => by
    unfold fdIx at h
    rw [List.idxOf?_cons] at h
    by_cases e : g = f
    · subst e
      simp at h
    · have e1 : (g == f) = false := by simpa using e
      rw [e1] at h
      have h2 : fdIx fs f = none := by simpa [fdIx] using h
      have e2 : ¬ toS g = toS f := fun z => e (toS_inj z)
      show putF (toS f) y ((toS g, w) :: fzip fs vs) = (toS g, w) :: fzip (fs ++ [f]) (vs ++ [y])
      unfold putF
      rw [if_neg e2, fzip_put h2 (Nat.succ.inj hl)]
section
variable {K : PySem.W.Frag} {b : Bs} {σ : L2.St} {H : Hp} {ε : Ep} {T : List D} {Tv : List V}
theorem SI.insAt (I : SI K b σ H ε T Tv) {i C : Nat} {fs : List Cs} {ds : List D} (e : ε[i]? = some (some (.ins true C fs ds))) : ∃ a dx vs, σ[i]? = some (some (.ref a)) ∧ H a = some (.ins (cA K C) dx (fzip fs vs)) := by
  obtain ⟨G, F, Ft, J⟩ := I
  obtain ⟨ov, A, B, C', hs, rfl, r, _⟩ := J.slots.focus e
  obtain ⟨v, rfl, a, dx, vs, F', rfl, ha, _, _, _⟩ := r
  exact ⟨a, dx, vs, hs, ha⟩
/-- a held thing becomes a field of an instance in a slot -/
theorem SI.fldNew {d : D} {v : V} (I : SI K b σ H ε (T ++ [d]) (Tv ++ [v])) (hl : T.length = Tv.length) {i C : Nat} {fs : List Cs} {ds : List D} {f : Cs} (e : ε[i]? = some (some (.ins true C fs ds))) (hf : fdIx fs f = none) :
    ∃ a dx vs, σ[i]? = some (some (.ref a)) ∧ H a = some (.ins (cA K C) dx (fzip fs vs)) ∧ fs.length = vs.length ∧ SI K b σ (upd H a (.ins (cA K C) dx (fzip (fs ++ [f]) (vs ++ [v])))) (ε.set i (some (.ins true C (fs ++ [f]) (ds ++ [d])))) T Tv := by
  obtain ⟨v0, v', G, B, FR, hs, at', su, r, rr, nd, fr, back⟩ := I.focus hl e (getP_nil ..)
  have e0 : v' = v0 := by cases at'; rfl
  subst e0
  obtain ⟨a, dx, vs, F', rfl, ha, rfl, hd, rl⟩ := r
  have hv := rl.len
  refine ⟨a, dx, vs, hs, ha, hd.trans hv, ?_⟩
  have nd0 : a ∉ F' ++ FR := (List.nodup_cons.mp (by simpa using nd)).1
  have keep : ∀ c, c ≠ a → upd H a (.ins (cA K C) dx (fzip (fs ++ [f]) (vs ++ [v]))) c = H c := fun c h => upd_ne h
  have J := back (upd H a (.ins (cA K C) dx (fzip (fs ++ [f]) (vs ++ [v])))) (.ins true C (fs ++ [f]) (ds ++ [d])) (a :: (F' ++ FR)) .non .non [] (fun c hc => keep c fun z => hc (by rw [z]; exact List.mem_cons_self)) ?_ ⟨rfl, rfl⟩ (.inl (by simp)) ⟨[], by simp⟩
  · exact (J.pop hl)
  · refine ⟨a, dx, vs ++ [v], F' ++ FR, rfl, upd_same, rfl, by simp [hd], ?_⟩
    refine (rl.mono Sub.refl fun c hc => keep c fun z => nd0 (by rw [← z]; exact List.mem_append_left _ hc)).append (rr.mono Sub.refl fun c hc => keep c fun z => nd0 (by rw [← z]; exact List.mem_append_right _ hc))
end
section
variable {X : Cv}
def vFld (i C : Nat) (f : Cs) (t : VTE) : VTS := fun N ε => t N.rx ε fun d ε1 => ∃ fs ds, ε1[i]? = some (some (.ins true C fs ds)) ∧ fdIx fs f = none ∧ fs.length < 1000 ∧ N.nx (ε1.set i (some (.ins true C (fs ++ [f]) (ds ++ [d]))))
theorem vs_fld {i C : Nat} {n x : Str} {f : Cs} {e : Expr} {t : VTE} {p1 p2 pos : Pos} (h : VE X e t) (hN : X.N[i]? = some n) (hv : Vis X.env.scope n) (cl : Cls X.K (cA X.K C)) (na : NoAttr X.K (cA X.K C) x) (hx : x = toS f)
    (hd : (n == ("__debug__" : Str)) = false := by decide) (hcd : (n == ("__classdict__" : Str)) = false := by decide) (hs : swapsWith e (some (.Attribute (.Name n p1) x p2)) pos.line X.env = pure false := by rfl) : VS X (.Assign [.Attribute (.Name n p1) x p2] e pos) (vFld i C f t) := by
  subst hx
  obtain ⟨t', a1, a2⟩ := h.ex
  refine ⟨fun W => sFld X.K (tVar i) (t' W) (toS f), fun W tk => ps_fld (pe_var hN hv hd hcd) (a1 W tk) hs, fun b σ H ε T Tv W N E I q l x => ?_⟩
  refine a2 b σ H ε T Tv W N.rx _ _ I q (fun d v ε1 H1 J z => ?_) x
  obtain ⟨fs, ds, e1, hf, hl, z⟩ := z
  obtain ⟨a, dx, vs, hs, ha, hlen, J2⟩ := J.fldNew I.lenT e1 hf
  refine ⟨_, hs, a, cA X.K C, dx, _, rfl, ha, cl, na, ?_, ?_⟩
  · unfold fzip
    rw [List.length_zip, List.length_map]
    omega
  · rw [fzip_put hf hlen]
    exact l.nx σ _ _ J2 z
end
/-- a method that keeps a promise over trees -/
structure Mv (P : Program) (w : World) (K : PySem.W.Frag) (mg : Str → Option Value) (base : Heap) (C : Nat) (m : Str) (k n : Nat) (vsp : VSp) : Prop where
  ex : ∃ f fd ps, Meth K (cA K C) m f ∧ Binds K fd ps [] ∧ FnOk P w K mg base (VL.CX P w) k f fd ps (Lift K n vsp)
theorem Mv.mono {P w K mg base C m j k n vsp} (F : Mv P w K mg base C m j n vsp) (h : j ≤ k) : Mv P w K mg base C m k n vsp := let ⟨f, fd, ps, a, b, d⟩ := F.ex; ⟨f, fd, ps, a, b, d.mono h⟩
section
variable {X : Cx} {k : Nat} {f C : Addr} {fd : FuncData} {ps : List Str} {sp : Sp} {E : L2.St → XK} {m : Str} {pos apos : Pos} {e o : Expr} {es : List Expr} {ta : TE} {t : TA}
theorem pe_methX {pl : Sem Bool} (he : PE X o ta) (c : Cls X.K C) (hm : Meth X.K C m f) (F : FnOk X.prog X.w X.K X.mg X.base (VL.CX X.prog X.w) k f fd ps sp) (hr : Room k X.A) (hb : Binds X.K fd ps []) (hx : ∀ σ, PassesAt (VL.CX X.prog X.w) X σ (E σ)) (ha : PA X (e :: es) t)
    (h1 : starEach (e :: es) X.env = (false, eval e X.env) :: starEach es X.env := by rfl) (h2 : (backTo pos (starEach es X.env)).any (·.1) = false := by rfl)
    (h3 : eval (.Call (.Attribute o m apos) (e :: es) [] pos) X.env = (do
      let w ← eval o X.env
      standAt apos.atName
      let (g, r) ← holding [w] (getMethod w m pl)
      callWith pos g r (backTo pos (starEach (e :: es) X.env)) (backToKw pos (keywordEach [] X.env))) := by rfl) :
    PE X (.Call (.Attribute o m apos) (e :: es) [] pos) (L2H.tMethH C m sp E ta t) := by
  refine ⟨fun pins s σ H Q I h => ?_⟩
  refine PySem.W.methodCall_KW (pl := pl) (thn (he.run pins s σ H _ I h) fun z s1 ⟨y, H1, I1, ry, a, dx, gs, ey, ea, l, q⟩ => ?_) h3
  subst ey
  obtain rfl : z = Value.ref a := ry
  refine getmeth_ok I1 ea c hm l ?_
  exact PySem.W.callWith_K (first := [.ref a]) (h₀ := X.base) I.ok.mod.kin hm.kp (thn (ha.run pos pins s1 σ H1 _ I1 q) fun us s2 ⟨vs, H2, I2, r, q2⟩ => ⟨I2.kIn, run_fnSD (us := .ref a :: us) (vs := .ref a :: vs) (dvs := []) F hr hb .nil (hx σ) I2 (.cons rfl r) (by simpa using q2)⟩) h1 h2
end
section
variable {X : Cv}
def vMeth (i C : Nat) (m : Cs) (vsp : VSp) (rs : List (Option Nat)) (t : VTA) : VTE := fun N ε Q => (∃ fs ds, ε[i]? = some (some (.ins true C fs ds)) ∧ fdIx fs m = none) ∧ t N ε fun ds ε1 => ∃ d, ε1[i]? = some (some d) ∧
  vsp (d :: ds) (fun r ds' => ds'.length = ds.length + 1 ∧ Q r (restore (some i :: rs) ds' (ε1.set i none))) (fun cls row ds' => ds'.length = ds.length + 1 ∧ N cls row (restore (some i :: rs) ds' (ε1.set i none)))
theorem ve_meth {i C k n : Nat} {x m : Str} {mc : Cs} {p apos pos : Pos} {e : Expr} {es : List Expr} {rs : List (Option Nat)} {t : VTA} {vsp : VSp} (F : Mv X.prog X.w X.K X.mg X.base C m k n vsp) (mo : Mono vsp) (cl : Cls X.K (cA X.K C)) (hm : m = toS mc) (hr : Room k X.A) (hN : X.N[i]? = some x) (hv : Vis X.env.scope x)
    (hn : (e :: es).length + 1 = n) (ha : VA X (e :: es) rs t) (hrs : rs.length = (e :: es).length := by rfl) (hd : (x == ("__debug__" : Str)) = false := by decide) (hcd : (x == ("__classdict__" : Str)) = false := by decide)
    (h1 : starEach (e :: es) X.env = (false, eval e X.env) :: starEach es X.env := by rfl) (h2 : (backTo pos (starEach es X.env)).any (·.1) = false := by rfl) {pl : Sem Bool}
    (h3 : eval (.Call (.Attribute (.Name x p) m apos) (e :: es) [] pos) X.env = (do
      let w ← eval (.Name x p) X.env
      standAt apos.atName
      let (g, r) ← holding [w] (getMethod w m pl)
      callWith pos g r (backTo pos (starEach (e :: es) X.env)) (backToKw pos (keywordEach [] X.env))) := by rfl) :
    VE X (.Call (.Attribute (.Name x p) m apos) (e :: es) [] pos) (vMeth i C mc vsp rs t) := by
  subst hm
  obtain ⟨f, fd, ps, hm, hb, F⟩ := F.ex
  obtain ⟨u', k1, k2⟩ := ha.ex
  refine ⟨fun W => L2H.tMethH (cA X.K C) (toS mc) (Lift X.K n vsp) (WE W) (tVar i) (u' W), fun W tk => pe_methX (pe_var hN hv hd hcd) cl hm F hr hb (fun σ => passAt tk σ) (k1 W tk) h1 h2 h3, fun b σ H ε T Tv W N Q Q' I q kk xl => ?_⟩
  obtain ⟨⟨fs, ds0, e0, nf⟩, q⟩ := q
  obtain ⟨a, dx, vs0, hs, h0⟩ := I.insAt e0
  refine ⟨_, hs, a, dx, _, rfl, h0, fzip_none nf, ?_⟩
  refine k2 b σ H ε T Tv W N _ _ I q (fun ds vs ε2 H2 J l hh q2 => ?_) xl
  obtain ⟨d, e, q2⟩ := q2
  obtain ⟨v', hs', J2⟩ := J.mov e
  rw [hs] at hs'
  cases hs'
  have J3 := SI.swap (A := ds) (B := [d]) (C := []) (Av := vs) (Bv := [.ref a]) (Cv := []) (by simpa only [List.append_assoc, List.append_nil] using J2) I.lenT l rfl
  have hl : (d :: ds).length = ((V.ref a) :: vs).length := by simp [l]
  exact call_run (ds := d :: ds) (vs := .ref a :: vs) (rs := some i :: rs) I.lenT hl (by rw [← hn, ← hrs, hh.len, ← l]; rfl) (by simpa using J3) ⟨hs, hh⟩ q2 (mo (d :: ds)) kk xl
def vNew (C : Nat) (vsp : VSp) (rs : List (Option Nat)) (t : VTA) : VTE := fun N ε Q => t N ε fun ds ε1 => vsp (.ins true C [] [] :: ds) (fun r ds' => r = .non ∧ ∃ o rest, ds' = o :: rest ∧ rest.length = ds.length ∧ Q o (restore rs rest ε1)) (fun _ _ _ => False)
theorem ve_new {C k n : Nat} {x : Str} {f : Addr} {fd : FuncData} {ps : List Str} {p pos : Pos} {e : Expr} {es : List Expr} {rs : List (Option Nat)} {t : VTA} {vsp : VSp} (M : L2.Mk X.K (cA X.K C) f) (hb : Binds X.K fd ps []) (F : FnOk X.prog X.w X.K X.mg X.base (VL.CX X.prog X.w) k f fd ps (Lift X.K n vsp)) (mo : Mono vsp)
    (hr : Room (k + 1) X.A) (hg : Gl X.toCx x) (hm : X.mg x = some (.ref (cA X.K C))) (hn : (e :: es).length + 1 = n) (ha : VA X (e :: es) rs t) (hrs : rs.length = (e :: es).length := by rfl)
    (hdb : (x == ("__debug__" : Str)) = false := by decide) (he : starEach (e :: es) X.env = (false, eval e X.env) :: starEach es X.env := by rfl) (hpl : (backTo pos (starEach es X.env)).any (·.1) = false := by rfl) :
    VE X (.Call (.Name x p) (e :: es) [] pos) (vNew C vsp rs t) := by
  obtain ⟨u', k1, k2⟩ := ha.ex
  refine ⟨fun W => tMake (cA X.K C) (Lift X.K n vsp) [] (fun _ _ _ => False) (u' W), fun W tk => pe_make M F hr hg hm hb .nil (fun _ _ _ _ _ _ _ h => by obtain ⟨_, _, _, _, _, _, _, _, _, _, _, _, z⟩ := h; exact z.elim) (k1 W tk) hdb he hpl, fun b σ H ε T Tv W N Q Q' I q kk xl => ?_⟩
  refine k2 b σ H ε T Tv W N _ _ I q (fun ds vs ε1 H1 J l hh z => ?_) xl
  intro y dx ny nd ne
  have Hy : (upd H1 dx (.own y)) y = none := by rw [upd_ne (Ne.symm ne)]; exact ny
  have J1 := J.grow (Sub.laid (o := .own y) nd)
  have J2 := SI.laid (T := T ++ ds) (Tv := Tv ++ vs) (ds := []) (vs := []) (d := .ins true C [] []) (by simpa using J1) J.lenT Hy (.ins (cA X.K C) dx []) fun G H' F e r => ⟨y, dx, [], F, rfl, e, rfl, rfl, r⟩
  have J3 := SI.swap (A := ds) (B := [.ins true C [] []]) (C := []) (Av := vs) (Bv := [.ref y]) (Cv := []) (by simpa only [List.append_assoc, List.append_nil] using J2) I.lenT l rfl
  have J4 : SI X.K b.1 σ (upd (upd H1 dx (.own y)) y (.ins (cA X.K C) dx [])) ε1 (T ++ (.ins true C [] [] :: ds)) (Tv ++ (.ref y :: vs)) := by simpa using J3
  obtain ⟨G, F', K0, out, fr⟩ := J4.enter I.lenT
  have hlen : (D.ins true C [] [] :: ds).length = n := by rw [← hn, ← hrs, hh.len, ← l]; rfl
  refine ⟨G, F', .ins true C [] [] :: ds, by simpa using K0, hlen, mo _ _ _ _ _ (fun r ds' z2 v H' I' => ?_) (fun _ _ _ z2 => z2.elim) z⟩
  obtain ⟨rfl, o, rest, rfl, hl2, z2⟩ := z2
  have I2 := out H' _ _ (by simpa using I')
  have hl3 : rest.length = vs.length := hl2.trans l
  have hT : (T ++ (o :: rest)).length = (Tv ++ (V.ref y :: vs)).length := by simp [I.lenT, hl3]
  have I3 : SI X.K b.1 σ H' ε1 ((T ++ (o :: rest)) ++ [.non]) ((Tv ++ (V.ref y :: vs)) ++ [v]) := by simpa using I2
  obtain ⟨_, _, _, ⟨rv, _⟩⟩ := I3.last hT
  refine ⟨rv, ?_⟩
  have I4 := I3.pop hT
  have I5 := SI.swap (A := [o]) (B := rest) (C := []) (Av := [.ref y]) (Bv := vs) (Cv := []) (by simpa using I4) I.lenT rfl hl3
  have I6 := SI.restore I.lenT hh hl3 (by simpa using I5)
  exact kk o (.ref y) _ H' I6 z2
end
end VL
namespace VL
open PySem PySem.Spec PyProof.Rows L2 VL
end VL
namespace VL
open PySem PySem.Spec PyProof.Rows L2 VL
section
variable {X : Cv} {i C : Nat} {n x : Str} {f : Cs} {p p1 p2 pos : Pos}
/-- a view's field -/
def wFld (C : Nat) (f : Cs) (t : VTV) : VTV := fun ε Q => t ε fun d => ∃ fs ds j y, d = .ins false C fs ds ∧ fdIx fs f = some j ∧ ds[j]? = some y ∧ Q y
theorem wv_fld {e : Expr} {t : VTV} (h : VV X e t) (cl : Cls X.K (cA X.K C)) (na : NoAttr X.K (cA X.K C) x) (hx : x = toS f) (hb : attributeBase e x X.env (eval e X.env) = eval e X.env := by rfl) : VV X (.Attribute e x pos) (wFld C f t) := by
  subst hx
  obtain ⟨t', h1, h2⟩ := h.ex
  refine ⟨fun W => tFld X.K (t' W) (toS f), fun W tk => pe_fld (h1 W tk) hb, fun b σ H ε T Tv W Q Q' I q k => ?_⟩
  refine h2 b σ H ε T Tv W _ _ I q fun d v H1 s1 r1 z => ?_
  obtain ⟨fs, ds, j, y, rfl, hf, hj, z⟩ := z
  obtain ⟨a, dx, vs, rfl, ha, _, hl, rl⟩ := r1
  obtain ⟨w, hw, rw2⟩ := rl.get hj
  exact ⟨a, cA X.K C, dx, _, w, rfl, ha, cl, na, fzip_look hf hw (hl.trans rl.len), k y w H1 s1 rw2 z⟩
/-- a view that is plain, quietly -/
theorem vq_view {e : Expr} {t : VTV} (h : VV X e t) : VQ X e (vView t) := by
  obtain ⟨t', h1, h2⟩ := h.ex
  refine ⟨t', h1, fun b σ H ε T Tv W N Q Q' I q k x => ?_⟩
  refine h2 b σ H ε T Tv W _ _ I q fun d v H1 s1 r1 z => ?_
  refine k d v ε H1 s1 ((I.grow s1).push fun G => ?_) z.2
  obtain ⟨z, _⟩ := z
  cases d <;> first | (exfalso; revert z; simp [flatD]; done) | exact r1
/-- a method asked of a view -/
def wMet (C : Nat) (m : Cs) (vsp : VSp) (t : VTV) (u : VTVs) : VTV := fun ε Q => t ε fun d => (∃ fs ds, d = .ins false C fs ds ∧ fdIx fs m = none) ∧ u ε fun ds => vsp (d :: ds) (fun r _ => Q (frz r)) (fun _ _ _ => False)
theorem wv_met {k nn : Nat} {o e : Expr} {es : List Expr} {m : Str} {mc : Cs} {apos : Pos} {t : VTV} {u : VTVs} {vsp : VSp} (F : Mv X.prog X.w X.K X.mg X.base C m k nn vsp) (mo : Mono vsp) (cl : Cls X.K (cA X.K C)) (hm : m = toS mc) (hr : Room k X.A) (ho : VV X o t) (hn : (e :: es).length + 1 = nn) (ha : VVs X (e :: es) u)
    (h1 : starEach (e :: es) X.env = (false, eval e X.env) :: starEach es X.env := by rfl) (h2 : (backTo pos (starEach es X.env)).any (·.1) = false := by rfl) {pl : Sem Bool}
    (h3 : eval (.Call (.Attribute o m apos) (e :: es) [] pos) X.env = (do
      let w ← eval o X.env
      standAt apos.atName
      let (g, r) ← holding [w] (getMethod w m pl)
      callWith pos g r (backTo pos (starEach (e :: es) X.env)) (backToKw pos (keywordEach [] X.env))) := by rfl) :
    VV X (.Call (.Attribute o m apos) (e :: es) [] pos) (wMet C mc vsp t u) := by
  subst hm
  obtain ⟨f, fd, ps, hm, hb, F⟩ := F.ex
  obtain ⟨t', o1, o2⟩ := ho.ex
  obtain ⟨u', a1, a2⟩ := ha.ex
  refine ⟨fun W => L2H.tMethH (cA X.K C) (toS mc) (Lift X.K nn vsp) (WE W) (t' W) (u' W), fun W tk => pe_methX (o1 W tk) cl hm F hr hb (fun σ => passAt tk σ) (a1 W tk) h1 h2 h3, fun b σ H ε T Tv W Q Q' I q kk => ?_⟩
  refine o2 b σ H ε T Tv W _ _ I q fun d v H1 s1 rd z => ?_
  obtain ⟨⟨fs, ds0, rfl, nf⟩, z⟩ := z
  obtain ⟨a, dx, vs0, rfl, h0, _, hl0, rl0⟩ := id rd
  refine ⟨a, dx, _, rfl, h0, fzip_none nf, ?_⟩
  refine a2 b σ H1 ε T Tv W _ _ (I.grow s1) z fun ds vs H2 s2 rr l z => ?_
  have rr2 : RpL X.K H2 H2 (.ins false C fs ds0 :: ds) (.ref a :: vs) [] := by
    have := (RpL.one.mpr (rd.up s2)).append rr
    simpa using this
  refine ⟨H2, [], .ins false C fs ds0 :: ds, si_view rr2, by rw [← hn, List.length_cons, l], mo _ _ _ _ _ (fun r ds' q' v H' I' => ?_) (fun _ _ _ z => z.elim) z⟩
  have l2 : ds'.length = (V.ref a :: vs).length := by
    have := I'.lenT
    simpa using this
  obtain ⟨G, F, su, rv⟩ := I'.last l2
  have s3 : Sub H2 H' := by
    obtain ⟨G2, F2, Ft2, J2⟩ := I'
    exact fun p o e => J2.keep p o e (fun z => nomatch z)
  exact kk (frz r) v H' (s1.trans (s2.trans s3)) (rv.view su) q'
end
end VL
namespace VL
open PySem PySem.Spec PyProof.Rows L2 VL
structure Mh (P : Program) (w : World) (K : PySem.W.Frag) (mg : Str → Option Value) (base : Heap) (C : Nat) (m : Str) (k n : Nat) (vsp : VSp) : Prop where
  ex : ∃ f fd ps, Meth K (cA K C) m f ∧ Binds K fd ps [] ∧ L2H.FnH P w K mg base (VL.CX P w) k f fd ps (Lift K n vsp)
section
variable {P : Program} {w : World} {K : PySem.W.Frag} {mg : Str → Option Value} {base : Heap} {x qual : Str} {params : Arguments} {body : List Stmt} {scope : Scope} {dvs : List V} {kws : List (Str × V)} {f : Addr} {fd : FuncData}
abbrev bodyH (P : Program) (w : World) (K : PySem.W.Frag) (mg : Str → Option Value) (base : Heap) (N : List Str) (κ : List Bool) (qual : Str) (scope : Scope) (f : Addr) (cdv : Value) (A : Around) (outer : List Env) (s : Shared) (H : Hp) (E : XK) (p : Addr × Obj) : Cv :=
  { L2H.cxH (VL.CX P w) P w K mg base N qual scope f cdv A outer s H E p with κ := κ }
theorem fn_okH {N ps : List Str} {κ : List Bool} {k n : Nat} {vsp : VSp} {t : VTS} (F : FunD K x qual params body scope dvs kws f fd) (S : FnScope N ps scope) (hn : ps.length = n) (hN : n ≤ N.length)
    (hbody : ∀ (cdv : Value) (A : Around) (outer : List Env) (s : Shared) (H : Hp) (E : XK) (p : Addr × Obj), L2H.RoomH k (A.deeper (envOfC qual scope s.heap.objs.size f cdv)) → VSs (bodyH P w K mg base N κ qual scope f cdv A outer s H E p) body t)
    (hm : Mono vsp)
    (hsp : ∀ ds Q Ex, ds.length = n → vsp ds Q Ex → t { nx := fun ε => n ≤ ε.length ∧ Q .non (finalL κ ds ε), rt := fun r ε => n ≤ ε.length ∧ Q r (finalL κ ds ε), rx := fun cls row ε => n ≤ ε.length ∧ Ex cls row (finalL κ ds ε) } (startE N.length ds)) :
    L2H.FnH P w K mg base (VL.CX P w) (k + 1) f fd ps (Lift K n vsp) := by
  obtain ⟨oc, od, dV, kV, doc, pm, an, cdv, ct, osl, rfl, lk, hcd, _, _⟩ := F.ex
  refine L2H.fn_ofH lk hcd S (fun vs H Q E h => by rw [h.len, hn]) fun A outer s H vs Q E p _ hr h => ?_
  obtain ⟨G, F0, ds, J, l, q⟩ := h
  obtain ⟨t', h1, h2⟩ := (hbody cdv A outer s H E p hr).ex
  refine ⟨t' (fun cls d _ H => E cls d H), h1 _ (takes_of rfl rfl rfl rfl), ?_⟩
  have hv : vs.length = n := by rw [← J.lenT, l]
  have I0 : SI K { callB H G F0 with kv := keptV κ vs } (L2.start N vs) H (startE N.length ds) [] [] := by
    have hs : RpS K G H (startE N.length ds) (L2.start N vs) F0 := by
      unfold startE L2.start
      rw [J.lenT]
      exact RpS.start _ J.temps
    refine ⟨G, F0, [], Sub.refl, J.sub, hs, ⟨rfl, rfl⟩, by simpa using J.nd, fun a z => J.fr a (by simpa using z), fun a z => J.own a (by simpa using z), J.gn, J.keep, fun j v e => ?_⟩
    obtain ⟨_, e2⟩ := keptV_get e
    unfold L2.start
    have hj := (List.getElem?_eq_some_iff.mp e2).1
    rw [List.getElem?_append_left (by simpa using hj), List.getElem?_map, e2]
    rfl
  refine h2 ⟨_, fun i u e => (keptV_get e).1⟩ _ H _ [] [] _ _ _ I0 (hsp ds _ _ l q) ⟨fun σ H1 ε J1 z => ?_, fun σ H1 ε d v J1 z => ?_, fun _ _ _ _ z => z.elim, fun _ _ _ _ z => z.elim⟩ fun cls dd σ H1 ε row v J1 e n z => ?_
  · exact z.2 _ H1 (SI.leave J (J1.push (d := .non) (v := .non) fun _ => ⟨rfl, rfl⟩) (by rw [l]; exact z.1))
  · exact z.2 v H1 (SI.leave J J1 (by rw [l]; exact z.1))
  · exact z.2 dd v H1 (SI.leave J J1 (by rw [l]; exact z.1)) e n
end
/-- a def whose last parameter has a number as default -/
structure Fd (P : Program) (w : World) (K : PySem.W.Frag) (mg : Str → Option Value) (base : Heap) (x : Str) (z : Int) (k n : Nat) (vsp : VSp) : Prop where
  ex : ∃ f fd ps, mg x = some (.ref f) ∧ PySem.W.keepIn K (.ref f) = true ∧ Binds K fd ps [] ∧ (∃ ds, Vals [.int z] ds ∧ Binds K fd ps ds) ∧ FnOk P w K mg base (VL.CX P w) k f fd ps (Lift K n vsp)
end VL
namespace VL
open PySem PySem.Spec PyProof.Rows L2 VL
/-- what is called to make an instance -/
structure Nv (P : Program) (w : World) (K : PySem.W.Frag) (mg : Str → Option Value) (base : Heap) (C k n : Nat) (vsp : VSp) : Prop where
  ex : ∃ f fd ps, L2.Mk K (cA K C) f ∧ Binds K fd ps [] ∧ FnOk P w K mg base (VL.CX P w) k f fd ps (Lift K n vsp)
theorem ve_newN {X : Cv} {C k n : Nat} {x : Str} {p pos : Pos} {e : Expr} {es : List Expr} {rs : List (Option Nat)} {t : VTA} {vsp : VSp} (F : Nv X.prog X.w X.K X.mg X.base C k n vsp) (mo : Mono vsp)
    (hr : Room (k + 1) X.A) (hg : Gl X.toCx x) (hm : X.mg x = some (.ref (cA X.K C))) (hn : (e :: es).length + 1 = n) (ha : VA X (e :: es) rs t) (hrs : rs.length = (e :: es).length := by rfl)
    (hdb : (x == ("__debug__" : Str)) = false := by decide) (h1 : starEach (e :: es) X.env = (false, eval e X.env) :: starEach es X.env := by rfl) (h2 : (backTo pos (starEach es X.env)).any (·.1) = false := by rfl) :
    VE X (.Call (.Name x p) (e :: es) [] pos) (vNew C vsp rs t) := by
  obtain ⟨f, fd, ps, M, hb, F⟩ := F.ex
  exact ve_new M hb F mo hr hg hm hn ha hrs hdb h1 h2
section
variable {P : Program} {w : World} {K : PySem.W.Frag} {mg : Str → Option Value} {base : Heap} {st : Stmt} {N ps : List Str} {κ : List Bool} {k n : Nat} {vsp : VSp} {t : VTS} {f : Addr} {x qual : Str}
theorem Mv.make {C : Nat} (hF : ∃ fd, FunD K x qual (defArgs st) (defBody st) (defScope st) [] [] f fd) (hm : Meth K (cA K C) x f) (S : FnScope N ps (defScope st))
    (hb : ∀ {fd}, FunD K x qual (defArgs st) (defBody st) (defScope st) [] [] f fd → Binds K fd ps []) (hn : ps.length = n) (hN : n ≤ N.length)
    (hbody : ∀ (f : Addr) (cdv : Value) (A : Around) (outer : List Env) (s : Shared) (H : Hp) (E : XK), Room k (A.deeper (envOfC qual (defScope st) s.heap.objs.size f cdv)) → VSs (bodyX P w K mg base N κ qual (defScope st) f cdv A outer s H E) (defBody st) t)
    (mo : Mono vsp) (rd : Rd n κ N.length vsp t) : Mv P w K mg base C x (k + 1) n vsp := by
  obtain ⟨fd, F⟩ := hF
  exact ⟨f, fd, ps, hm, hb F, fn_ok F S hn hN (hbody f) mo rd⟩
theorem Nv.make {C : Nat} (hF : ∃ fd, FunD K x qual (defArgs st) (defBody st) (defScope st) [] [] f fd) (hm : L2.Mk K (cA K C) f) (S : FnScope N ps (defScope st))
    (hb : ∀ {fd}, FunD K x qual (defArgs st) (defBody st) (defScope st) [] [] f fd → Binds K fd ps []) (hn : ps.length = n) (hN : n ≤ N.length)
    (hbody : ∀ (f : Addr) (cdv : Value) (A : Around) (outer : List Env) (s : Shared) (H : Hp) (E : XK), Room k (A.deeper (envOfC qual (defScope st) s.heap.objs.size f cdv)) → VSs (bodyX P w K mg base N κ qual (defScope st) f cdv A outer s H E) (defBody st) t)
    (mo : Mono vsp) (rd : Rd n κ N.length vsp t) : Nv P w K mg base C (k + 1) n vsp := by
  obtain ⟨fd, F⟩ := hF
  exact ⟨f, fd, ps, hm, hb F, fn_ok F S hn hN (hbody f) mo rd⟩
theorem Mh.make {C : Nat} (hF : ∃ fd, FunD K x qual (defArgs st) (defBody st) (defScope st) [] [] f fd) (hm : Meth K (cA K C) x f) (S : FnScope N ps (defScope st))
    (hb : ∀ {fd}, FunD K x qual (defArgs st) (defBody st) (defScope st) [] [] f fd → Binds K fd ps []) (hn : ps.length = n) (hN : n ≤ N.length)
    (hbody : ∀ (f : Addr) (cdv : Value) (A : Around) (outer : List Env) (s : Shared) (H : Hp) (E : XK) (p : Addr × Obj), L2H.RoomH k (A.deeper (envOfC qual (defScope st) s.heap.objs.size f cdv)) → VSs (bodyH P w K mg base N κ qual (defScope st) f cdv A outer s H E p) (defBody st) t)
    (mo : Mono vsp) (rd : Rd n κ N.length vsp t) : Mh P w K mg base C x (k + 1) n vsp := by
  obtain ⟨fd, F⟩ := hF
  exact ⟨f, fd, ps, hm, hb F, fn_okH F S hn hN (hbody f) mo rd⟩
theorem Fd.make {z : Int} (hF : ∃ f fd, mg x = some (.ref f) ∧ FunD K x x (defArgs st) (defBody st) (defScope st) [.int z] [] f fd) (S : FnScope N ps (defScope st))
    (hb : ∀ {f fd}, FunD K x x (defArgs st) (defBody st) (defScope st) [.int z] [] f fd → (∃ ds, Vals [] ds ∧ Binds K fd ps ds) ∧ ∃ ds, Vals [.int z] ds ∧ Binds K fd ps ds) (hn : ps.length = n) (hN : n ≤ N.length)
    (hbody : ∀ (f : Addr) (cdv : Value) (A : Around) (outer : List Env) (s : Shared) (H : Hp) (E : XK), Room k (A.deeper (envOfC x (defScope st) s.heap.objs.size f cdv)) → VSs (bodyX P w K mg base N κ x (defScope st) f cdv A outer s H E) (defBody st) t)
    (mo : Mono vsp) (rd : Rd n κ N.length vsp t) : Fd P w K mg base x z (k + 1) n vsp := by
  obtain ⟨f, fd, h1, F⟩ := hF
  obtain ⟨⟨d0, v0, b0⟩, b1⟩ := hb F
  cases v0
  exact ⟨f, fd, ps, h1, F.kp, b0, b1, fn_ok F S hn hN (hbody f) mo rd⟩
end
end VL
namespace VL
open PySem PySem.Spec PyProof.Rows L2 VL
/-- a memory: names and what they are worth -/
abbrev Mem := List (Cs × Int)
def mmD (m : Bool) (M : Mem) : D := .dK m (M.map fun p => .inr p.1) (M.map fun p => .int p.2)
def lookM (M : Mem) (s : Cs) : Int := (M.lookup s).getD 0
def putM : Mem → Cs → Int → Mem
  | [], s, v => [(s, v)]
  | (t, w) :: M, s, v => if t = s then (t, v) :: M else (t, w) :: putM M s v
def worthM (M : Mem) : Opd → Int
  | .inl i => i
  | .inr s => lookM M s
theorem mm_fzL (M : Mem) : isFzL (M.map fun p : Cs × Int => D.int p.2) = true := by rw [isFzL_all]; simp [isFz]
theorem mm_fz (M : Mem) : isFz (mmD false M) = true := mm_fzL M
theorem mm_frz (m : Bool) (M : Mem) : frz (mmD m M) = mmD false M := by
  show D.dK false _ (frzL (M.map fun p : Cs × Int => D.int p.2)) = _
  rw [frzL_id (mm_fzL M)]
  rfl
theorem isDct_mm {m : Bool} {M : Mem} : isDct (mmD m M) = true := rfl
/-- what a sign makes of two numbers; none: refused -/
def madeV (s : Cs) (i j : Int) : Option Int := if s = [43] then some (i + j) else if s = [45] then some (i - j) else if s = [38] then some (Builtin.bitAnd i j) else if s = [94] then some (Builtin.bitXor i j) else
  if j = 0 then none else if s = [47] then some (pdiv i j) else some (pmod i j)
def holdsV (s : Cs) (i j : Int) : Bool := if s = [60] then decide (i < j) else decide (i = j)
/-- small enough to divide by -/
abbrev Sm (i : Int) : Prop := i.natAbs < 2 ^ 250
inductive Dd where
  | sum (x : Cs) (i : Int) (s : Cs) (j r : Int)
  | test (i : Int) (s : Cs) (j : Int) (t : Bool)
def dedL : Dd → List D
  | .sum x i s j r => [.str cSum, .str x, .int i, .str s, .int j, .int r]
  | .test i s j t => [.str cTest, .int i, .str s, .int j, .bl t]
def dedD (d : Dd) : D := .tup (dedL d)
theorem ded_fz (d : Dd) : isFz (dedD d) = true := by cases d <;> rfl
theorem deds_fz (ds : List Dd) : isFzL (ds.map dedD) = true := by rw [isFzL_all]; simp [ded_fz]
theorem deds_frz (ds : List Dd) : frzL (ds.map dedD) = ds.map dedD := frzL_id (deds_fz ds)
structure Dds where
  mem : Mem
  most : Int
  done : List Dd
/-- where each row stands, by its number -/
def plcD (m : Bool) (rs : List Rw) : D := .dK m (natK (nums rs)) (natsD (List.range rs.length))
theorem plc_frz (m : Bool) (rs : List Rw) : frz (plcD m rs) = plcD false rs := by
  show D.dK false _ (frzL (natsD _)) = _
  rw [natsD_frz]
  rfl
abbrev cOn : Cs := [111, 110]
abbrev cFault : Cs := [102, 97, 117, 108, 116]
abbrev Told := List Dd × Cs × Mem
def toldD (r : Told) : D := .tup [.lst true (r.1.map dedD), .str r.2.1, mmD true r.2.2]
structure RS where
  pos : Nat
  jumps : Nat
  mem : Mem
  done : List Dd
def stepR (rs : List Rw) (most : Int) (s : RS) : Option (Sum Told RS) := match rs[s.pos]? with
  | none => none
  | some (.fin _) => some (.inl (s.done, cEnd, s.mem))
  | some (.jump _ to) => if rs.length < s.jumps + 1 then some (.inl (s.done, cOn, s.mem)) else some (.inr ⟨(nums rs).idxOf to, s.jumps + 1, s.mem, s.done⟩)
  | some (.sum _ x a sg b) => if most ≤ s.done.length then some (.inl (s.done, cOn, s.mem)) else match madeV sg (worthM s.mem a) (worthM s.mem b) with
    | none => some (.inl (s.done, cFault, s.mem))
    | some v => some (.inr ⟨s.pos + 1, 0, putM s.mem x v, s.done ++ [.sum x (worthM s.mem a) sg (worthM s.mem b) v]⟩)
  | some (.test _ a sg b to) => if most ≤ s.done.length then some (.inl (s.done, cOn, s.mem)) else
      some (.inr ⟨if holdsV sg (worthM s.mem a) (worthM s.mem b) = true then (nums rs).idxOf to else s.pos + 1, 0, s.mem, s.done ++ [.test (worthM s.mem a) sg (worthM s.mem b) (holdsV sg (worthM s.mem a) (worthM s.mem b))]⟩)
/-- what is asked of a state -/
structure RSok (rs : List Rw) (s : RS) : Prop where
  lt : s.pos < rs.length
  mem : s.mem.length ≤ 100000
  done : s.done.length ≤ 100000
  sm : ∀ n x a sg b, rs[s.pos]? = some (.sum n x a sg b) → Sm (worthM s.mem b)
inductive RunsN (rs : List Rw) (most : Int) (res : Told) : Nat → RS → Prop
  | stop {s : RS} : RSok rs s → stepR rs most s = some (.inl res) → RunsN rs most res 0 s
  | go {s s' : RS} {n : Nat} : RSok rs s → stepR rs most s = some (.inr s') → RunsN rs most res n s' → RunsN rs most res (n + 1) s
theorem RunsN.ok {rs : List Rw} {most : Int} {res : Told} {n : Nat} {s : RS} : RunsN rs most res n s → RSok rs s
  | .stop h _ => h
  | .go h _ _ => h
end VL
namespace VL
open PySem PySem.Spec PyProof.Rows L2 VL
/-- the same, but for dicts that are locked or unlocked -/
def Lk (G G' : Hp) : Prop := ∀ a, G' a = G a ∨ ∃ o kvs, (G a = some (.dK kvs) ∧ G' a = some (.frz o (.dK kvs))) ∨ (G a = some (.frz o (.dK kvs)) ∧ G' a = some (.dK kvs))
section
variable {K : PySem.W.Frag} {G G' H H' : Hp}
theorem Lk.rdK (h : Lk G G') {a : Addr} {kvs : List (Key × V)} (r : L2.Rd G a (.dK kvs)) : L2.Rd G' a (.dK kvs) := by
  rcases h a with e | ⟨o, k2, ⟨e1, e2⟩ | ⟨e1, e2⟩⟩
  · unfold L2.Rd; rw [e]; exact r
  · rcases r with r | ⟨q, r⟩
    · rw [e1] at r; cases r; exact .inr ⟨o, e2⟩
    · rw [e1] at r; cases r
  · rcases r with r | ⟨q, r⟩
    · rw [e1] at r; cases r
    · rw [e1] at r; cases r; exact .inl e2
theorem Lk.other (h : Lk G G') {a : Addr} {o : HO} (e : G a = some o) (n : ∀ kvs, o ≠ .dK kvs) (m : ∀ q kvs, o ≠ .frz q (.dK kvs)) : G' a = some o := by
  rcases h a with e2 | ⟨q, k2, ⟨e1, e2⟩ | ⟨e1, e2⟩⟩
  · rw [e2, e]
  · rw [e] at e1; cases e1; exact absurd rfl (n k2)
  · rw [e] at e1; cases e1; exact absurd rfl (m q k2)
theorem Lk.sqL (h : Lk G G') {a : Addr} {xs : List V} (r : SqL K G a xs) : SqL K G' a xs := by
  rcases r with (r | ⟨o, r⟩) | r
  · exact .inl (.inl (h.other r (fun _ z => nomatch z) fun _ _ z => nomatch z))
  · exact .inl (.inr ⟨o, h.other r (fun _ z => nomatch z) fun _ _ z => by cases z⟩)
  · exact .inr r
mutual
theorem Rp.lk (h : Lk G G') : ∀ {d : D} {v : V} {F : List Addr}, (∀ a ∈ F, H' a = H a) → Rp K G H d v F → Rp K G' H' d v F
  | .hole, _, _, _, r => r
  | .val _, _, _, _, r => r
  | .non, _, _, _, r => r
  | .bl _, _, _, _, r => r
  | .int _, _, _, _, r => r
  | .str _, _, _, _, r => r
  | .ty _, _, _, _, r => r
  | .pin u d, v, F, k, r => ⟨r.1, Rp.lk h k r.2⟩
  | .exn _ _ _ row, v, F, k, r => by
    obtain ⟨e, w, s, r⟩ := r
    exact ⟨⟨e.1, h.other e.2 (fun _ z => nomatch z) (fun _ _ z => nomatch z)⟩, w, h.other s (fun _ z => nomatch z) (fun _ _ z => nomatch z), Rp.lk h k r⟩
  | .tup ds, v, F, k, r => by
    obtain ⟨a, vs, e, s, r⟩ := r
    exact ⟨a, vs, e, h.other s (fun _ z => nomatch z) (fun _ _ z => nomatch z), RpL.lk h k r⟩
  | .lst false ds, v, F, k, r => by
    obtain ⟨a, vs, e, s, f, r⟩ := r
    exact ⟨a, vs, e, h.sqL s, f, RpL.lk h (fun _ z => nomatch z) r⟩
  | .lst true ds, v, F, k, r => by
    obtain ⟨a, vs, F', e, s, rfl, r⟩ := r
    exact ⟨a, vs, F', e, (k a List.mem_cons_self).trans s, rfl, RpL.lk h (fun b z => k b (List.mem_cons_of_mem _ z)) r⟩
  | .dK false ks ds, v, F, k, r => by
    obtain ⟨a, vs, e, s, f, l, n, r⟩ := r
    exact ⟨a, vs, e, h.rdK s, f, l, n, RpL.lk h (fun _ z => nomatch z) r⟩
  | .dK true ks ds, v, F, k, r => by
    obtain ⟨a, vs, F', e, s, rfl, l, n, r⟩ := r
    exact ⟨a, vs, F', e, (k a List.mem_cons_self).trans s, rfl, l, n, RpL.lk h (fun b z => k b (List.mem_cons_of_mem _ z)) r⟩
  | .dT false ks ds, v, F, k, r => by
    obtain ⟨a, vs, e, s, f, l, n, r⟩ := r
    exact ⟨a, vs, e, h.other s (fun _ z => nomatch z) (fun _ _ z => nomatch z), f, l, n, RpL.lk h (fun _ z => nomatch z) r⟩
  | .dT true ks ds, v, F, k, r => by
    obtain ⟨a, vs, F', e, s, rfl, l, n, r⟩ := r
    exact ⟨a, vs, F', e, (k a List.mem_cons_self).trans s, rfl, l, n, RpL.lk h (fun b z => k b (List.mem_cons_of_mem _ z)) r⟩
  | .ins false C fs ds, v, F, k, r => by
    obtain ⟨a, dx, vs, e, s, f, l, r⟩ := r
    exact ⟨a, dx, vs, e, h.other s (fun _ z => nomatch z) (fun _ _ z => nomatch z), f, l, RpL.lk h (fun _ z => nomatch z) r⟩
  | .ins true C fs ds, v, F, k, r => by
    obtain ⟨a, dx, vs, F', e, s, rfl, l, r⟩ := r
    exact ⟨a, dx, vs, F', e, (k a List.mem_cons_self).trans s, rfl, l, RpL.lk h (fun b z => k b (List.mem_cons_of_mem _ z)) r⟩
theorem RpL.lk (h : Lk G G') : ∀ {ds : List D} {vs : List V} {F : List Addr}, (∀ a ∈ F, H' a = H a) → RpL K G H ds vs F → RpL K G' H' ds vs F
  | [], _, _, _, r => r
  | d :: ds, vs, F, k, r => by
    obtain ⟨v, vs', F1, F2, rfl, rfl, r, rs⟩ := r
    exact ⟨v, vs', F1, F2, rfl, rfl, Rp.lk h (fun a z => k a (List.mem_append_left _ z)) r, RpL.lk h (fun a z => k a (List.mem_append_right _ z)) rs⟩
end
theorem RpO.lk (h : Lk G G') {od : Option D} {ov : Option V} {F : List Addr} (k : ∀ a ∈ F, H' a = H a) (r : RpO K G H od ov F) : RpO K G' H' od ov F := by
  cases od with
  | none => exact r
  | some d =>
    obtain ⟨v, e, r⟩ := r
    exact ⟨v, e, r.lk h k⟩
theorem RpS.lk (h : Lk G G') : ∀ {ε : Ep} {σ : L2.St} {F : List Addr}, (∀ a ∈ F, H' a = H a) → RpS K G H ε σ F → RpS K G' H' ε σ F
  | [], _, _, _, r => r
  | od :: ε, σ, F, k, r => by
    obtain ⟨ov, σ', F1, F2, rfl, rfl, r, rs⟩ := r
    exact ⟨ov, σ', F1, F2, rfl, rfl, r.lk h (fun a z => k a (List.mem_append_left _ z)), RpS.lk h (fun a z => k a (List.mem_append_right _ z)) rs⟩
end
section
variable {K : PySem.W.Frag} {b : Bs} {σ : L2.St} {H : Hp} {ε : Ep} {T : List D} {Tv : List V}
/-- a dict in a slot that stands still -/
theorem SI.dictAt (I : SI K b σ H ε T Tv) {i : Nat} {ks : List Kc} {xs : List D} (e : ε[i]? = some (some (.dK false ks xs))) :
    ∃ a vs, σ[i]? = some (some (.ref a)) ∧ ks.length = vs.length ∧ ((∃ G F Ft, SIx K b G F Ft σ H ε T Tv ∧ G a = some (.dK (kzip ks vs))) ∨ ∃ o, H a = some (.frz o (.dK (kzip ks vs)))) := by
  obtain ⟨G, F, Ft, J⟩ := I
  obtain ⟨ov, A, B, C', hs, rfl, r, _⟩ := J.slots.focus e
  obtain ⟨v, rfl, a, vs, rfl, s, _, l, _, rl⟩ := r
  refine ⟨a, vs, hs, l.trans rl.len, ?_⟩
  rcases s with s | ⟨o, s⟩
  · exact .inl ⟨G, _, Ft, J, s⟩
  · exact .inr ⟨o, J.sub _ _ s⟩
/-- the ground while a dict is locked -/
theorem SIx.lock {G : Hp} {F Ft : List Addr} (J : SIx K b G F Ft σ H ε T Tv) {a : Addr} {kvs : List (Key × V)} (e : G a = some (.dK kvs)) (o : Obj) :
    ∃ bL : Bs, bL.kv = b.kv ∧ bL.H0 = upd H a (.frz o (.dK kvs)) ∧ a ∉ bL.F0 ∧ SI K bL σ (upd H a (.frz o (.dK kvs))) ε T Tv ∧
      ∀ σ' H' ε' (T' : List D) (Tv' : List V), SI K bL σ' H' ε' T' Tv' → H' a = some (.frz o (.dK kvs)) ∧ SI K b σ' (upd H' a (.dK kvs)) ε' T' Tv' := by
  have na : a ∉ F ++ Ft := fun z => by rw [J.fr a z] at e; cases e
  have eH := J.sub _ _ e
  have lk : Lk G (upd G a (.frz o (.dK kvs))) := fun c => by
    by_cases h : c = a
    · subst h; exact .inr ⟨o, kvs, .inl ⟨e, upd_same⟩⟩
    · exact .inl (upd_ne h)
  have kp : ∀ c ∈ F ++ Ft, upd H a (.frz o (.dK kvs)) c = H c := fun c hc => upd_ne fun h => na (by rw [← h]; exact hc)
  refine ⟨⟨upd H a (.frz o (.dK kvs)), upd G a (.frz o (.dK kvs)), F ++ Ft, b.kv⟩, rfl, rfl, na, ⟨upd G a (.frz o (.dK kvs)), F, Ft, Sub.refl, fun c u h => ?_, J.slots.lk lk fun c z => kp c (List.mem_append_left _ z), J.temps.lk lk fun c z => kp c (List.mem_append_right _ z), J.nd, fun c z => ?_, fun c z => .inl z, fun c u h => .inl h, fun c u h _ => h, J.kept⟩, ?_⟩
  · by_cases hc : c = a
    · subst hc; rw [upd_same] at h ⊢; exact h
    · rw [upd_ne hc] at h ⊢; exact J.sub _ _ h
  · rw [upd_ne fun h => na (by rw [← h]; exact z)]; exact J.fr c z
  · rintro σ' H' ε' T' Tv' ⟨G', F', Ft', J'⟩
    have g' : G' a = some (.frz o (.dK kvs)) := J'.s0 _ _ upd_same
    have h' := J'.sub _ _ g'
    have na' : a ∉ F' ++ Ft' := fun z => by rw [J'.fr a z] at g'; cases g'
    have lk' : Lk G' (upd G' a (.dK kvs)) := fun c => by
      by_cases h : c = a
      · subst h; exact .inr ⟨o, kvs, .inr ⟨g', upd_same⟩⟩
      · exact .inl (upd_ne h)
    have kp' : ∀ c ∈ F' ++ Ft', upd H' a (.dK kvs) c = H' c := fun c hc => upd_ne fun h => na' (by rw [← h]; exact hc)
    refine ⟨h', upd G' a (.dK kvs), F', Ft', fun c u h => ?_, fun c u h => ?_, J'.slots.lk lk' fun c z => kp' c (List.mem_append_left _ z), J'.temps.lk lk' fun c z => kp' c (List.mem_append_right _ z), J'.nd, fun c z => ?_, fun c z => ?_, fun c u h => ?_, fun c u h n => ?_, J'.kept⟩
    · have h1 := J.s0 _ _ h
      by_cases hc : c = a
      · subst hc; rw [e] at h1; cases h1; exact upd_same
      · rw [upd_ne hc]
        exact J'.s0 _ _ (by show upd G a _ c = _; rw [upd_ne hc]; exact h1)
    · by_cases hc : c = a
      · subst hc; rw [upd_same] at h ⊢; exact h
      · rw [upd_ne hc] at h ⊢; exact J'.sub _ _ h
    · rw [upd_ne fun h => na' (by rw [← h]; exact z)]; exact J'.fr c z
    · rcases J'.own c z with q | q
      · exact J.own c q
      · by_cases hc : c = a
        · subst hc
          exact absurd z na'
        · refine J.h0 ?_
          have q : upd H a (.frz o (.dK kvs)) c = none := q
          rwa [upd_ne hc] at q
    · by_cases hc : c = a
      · subst hc
        rw [upd_same] at h
        cases h
        exact J.gn _ _ e
      · rw [upd_ne hc] at h
        rcases J'.gn c u h with q | q | q | q
        · have q : upd G a (.frz o (.dK kvs)) c = some u := q
          rw [upd_ne hc] at q
          exact J.gn _ _ q
        · exact .inr (inl3 (J.own c q))
        · have q : upd H a (.frz o (.dK kvs)) c = none := q
          rw [upd_ne hc] at q
          exact .inr (inl3 (J.h0 q))
        · exact .inr (.inr (.inr q))
    · have h1 := J.keep c u h n
      by_cases hc : c = a
      · subst hc; rw [eH] at h1; cases h1; exact upd_same
      · rw [upd_ne hc]
        refine J'.keep c u (by show upd H a _ c = _; rw [upd_ne hc]; exact h1) fun z => ?_
        rcases J.own c z with q | q
        · exact n q
        · rw [h] at q; cases q
/-- the ground while a dict that is locked already is walked -/
theorem SI.held (I : SI K b σ H ε T Tv) : ∃ bL : Bs, bL.kv = b.kv ∧ bL.H0 = H ∧ (∀ a o u, H a = some (.frz o u) → a ∉ bL.F0) ∧ SI K bL σ H ε T Tv ∧ ∀ σ' H' ε' (T' : List D) (Tv' : List V), SI K bL σ' H' ε' T' Tv' → SI K b σ' H' ε' T' Tv' := by
  obtain ⟨G, F, Ft, J⟩ := I
  refine ⟨⟨H, G, F ++ Ft, b.kv⟩, rfl, rfl, fun a o u h z => ?_, ⟨G, F, Ft, Sub.refl, J.sub, J.slots, J.temps, J.nd, J.fr, fun c z => .inl z, fun c u h => .inl h, fun c u h _ => h, J.kept⟩, ?_⟩
  · have : ∃ u, H a = some u ∧ Mut (some u) := by
      rcases List.mem_append.mp z with z | z
      · exact J.slots.there a z
      · exact J.temps.there a z
    obtain ⟨u2, e2, m⟩ := this
    rw [h] at e2
    cases e2
    exact m
  · rintro σ' H' ε' T' Tv' ⟨G', F', Ft', J'⟩
    refine ⟨G', F', Ft', J.s0.trans J'.s0, J'.sub, J'.slots, J'.temps, J'.nd, J'.fr, fun c z => ?_, fun c u h => ?_, fun c u h n => ?_, J'.kept⟩
    · rcases J'.own c z with q | q
      · exact J.own c q
      · exact J.h0 q
    · rcases J'.gn c u h with q | q | q | q
      · exact J.gn _ _ q
      · exact .inr (inl3 (J.own c q))
      · exact .inr (inl3 (J.h0 q))
      · exact .inr (.inr (.inr q))
    · refine J'.keep c u (J.keep c u h n) fun z => ?_
      rcases J.own c z with q | q
      · exact n q
      · rw [h] at q; cases q
end
def keyKD : Kc → D
  | .inl i => .int i
  | .inr s => .str s
theorem keyKD_rp {K : PySem.W.Frag} {G H : Hp} (k : Kc) : Rp K G H (keyKD k) (kV (kc k)) [] := by cases k <;> exact ⟨rfl, rfl⟩
section
variable {X : Cv}
theorem ps_or {Y : Cx} {st : Stmt} {t u : TS} (h : PS Y st t) (k : PS Y st u) : PS Y st (fun D σ H => t D σ H ∨ u D σ H) := ⟨fun pins s σ H D I q => q.elim (h.run pins s σ H D I) (k.run pins s σ H D I)⟩
end
end VL
namespace VL
open PySem PySem.Spec PyProof.Rows L2 VL
end VL
namespace VL
open PySem PySem.Spec PyProof.Rows L2 VL
end VL
namespace VL
open PySem PySem.Spec PyProof.Rows L2 VL
mutual
/-- nothing in it that stood before but numbers, texts, tuples -/
def newD : D → Bool
  | .non => true
  | .bl _ => true
  | .int _ => true
  | .str _ => true
  | .ty _ => true
  | .tup ds => newDL ds
  | .lst m ds => m && newDL ds
  | .dK m _ ds => m && newDL ds
  | .dT m _ ds => m && newDL ds
  | _ => false
def newDL : List D → Bool
  | [] => true
  | d :: ds => newD d && newDL ds
end
theorem newDL_all : ∀ ds : List D, newDL ds = ds.all newD
  | [] => by rw [newDL]; rfl
  | d :: ds => by rw [newDL, newDL_all ds, List.all_cons]
section
variable {K : PySem.W.Frag} {G1 G2 H : Hp}
mutual
theorem Rp.lend (hs : ∀ a vs, G1 a = some (.tup vs) → G2 a = some (.tup vs)) : ∀ {d : D} {v : V} {F : List Addr}, newD d = true → Rp K G1 H d v F → Rp K G2 H d v F
  | .hole, _, _, n, _ => by cases n
  | .val _, _, _, n, _ => by cases n
  | .pin _ _, _, _, n, _ => by cases n
  | .exn _ _ _ _, _, _, n, _ => by cases n
  | .ins _ _ _ _, _, _, n, _ => by cases n
  | .non, _, _, _, h => h
  | .bl _, _, _, _, h => h
  | .int _, _, _, _, h => h
  | .str _, _, _, _, h => h
  | .ty _, _, _, _, h => h
  | .tup ds, v, F, n, h => by
    obtain ⟨a, vs, e, s, r⟩ := h
    exact ⟨a, vs, e, hs _ _ s, RpL.lend hs (by simpa [newD] using n) r⟩
  | .lst false ds, v, F, n, _ => by simp [newD] at n
  | .lst true ds, v, F, n, h => by
    obtain ⟨a, vs, F', e, s, rfl, r⟩ := h
    exact ⟨a, vs, F', e, s, rfl, RpL.lend hs (by simpa [newD] using n) r⟩
  | .dK false ks ds, v, F, n, _ => by simp [newD] at n
  | .dK true ks ds, v, F, n, h => by
    obtain ⟨a, vs, F', e, s, rfl, l, nd, r⟩ := h
    exact ⟨a, vs, F', e, s, rfl, l, nd, RpL.lend hs (by simpa [newD] using n) r⟩
  | .dT false ks ds, v, F, n, _ => by simp [newD] at n
  | .dT true ks ds, v, F, n, h => by
    obtain ⟨a, vs, F', e, s, rfl, l, nd, r⟩ := h
    exact ⟨a, vs, F', e, s, rfl, l, nd, RpL.lend hs (by simpa [newD] using n) r⟩
theorem RpL.lend (hs : ∀ a vs, G1 a = some (.tup vs) → G2 a = some (.tup vs)) : ∀ {ds : List D} {vs : List V} {F : List Addr}, newDL ds = true → RpL K G1 H ds vs F → RpL K G2 H ds vs F
  | [], _, _, _, h => h
  | d :: ds, vs, F, n, h => by
    obtain ⟨v, vs', F1, F2, rfl, rfl, r, rs⟩ := h
    have n2 : newD d = true ∧ newDL ds = true := by simpa [newDL] using n
    exact ⟨v, vs', F1, F2, rfl, rfl, Rp.lend hs n2.1 r, RpL.lend hs n2.2 rs⟩
end
end
def lendG (G G1 : Hp) : Hp := fun a => match G a with
  | some o => some o
  | none => match G1 a with
    | some (.tup vs) => some (.tup vs)
    | _ => none
theorem lendG_l {G G1 : Hp} {a : Addr} {o : HO} (h : G a = some o) : lendG G G1 a = some o := by unfold lendG; rw [h]
theorem lendG_cases {G G1 : Hp} {a : Addr} {o : HO} (h : lendG G G1 a = some o) : G a = some o ∨ (G a = none ∧ ∃ vs, o = .tup vs ∧ G1 a = some (.tup vs)) := by
  unfold lendG at h
  split at h
  · next e => exact .inl (e.trans h)
  · next e =>
    split at h
    · next vs e2 => cases h; exact .inr ⟨e, vs, rfl, e2⟩
    · cases h
section
variable {K : PySem.W.Frag} {b : Bs} {σ : L2.St} {H H' : Hp} {ε : Ep} {T : List D} {Tv : List V}
theorem SI.lend (I : SI K b σ H ε T Tv) {ds : List D} {vs : List V} {r : D} {v : V} (I' : SI K (callB H H []) [] H' [] (ds ++ [r]) (vs ++ [v])) (hl : ds.length = vs.length) (hz : newD r = true) : SI K b σ H' ε (T ++ [r]) (Tv ++ [v]) := by
  obtain ⟨G, F, Ft, J⟩ := I
  obtain ⟨G1, Fs, Ft', J'⟩ := I'
  obtain ⟨_, rfl⟩ := J'.slots
  obtain ⟨F1, F2, rfl, _, r2⟩ := J'.temps.split2 hl
  have r2 := RpL.one.mp r2
  have keep : ∀ a o, H a = some o → H' a = some o := fun a o e => J'.keep a o e fun z => nomatch z
  have new : ∀ a ∈ F2, H a = none := fun a z => by
    rcases J'.own a (by simp [z]) with h | h
    · exact nomatch h
    · exact h
  have there : ∀ a ∈ F ++ Ft, ∃ o, H a = some o ∧ Mut (some o) := fun a z => by
    rcases List.mem_append.mp z with z | z
    · exact J.slots.there a z
    · exact J.temps.there a z
  have same : ∀ a ∈ F ++ Ft, H' a = H a := fun a z => by
    obtain ⟨o, e, _⟩ := there a z
    rw [e, keep a o e]
  have sg : Sub G (lendG G G1) := fun a o e => lendG_l e
  have tp : ∀ a vs, G1 a = some (.tup vs) → lendG G G1 a = some (.tup vs) := fun a vs e => by
    cases h : G a with
    | none => unfold lendG; rw [h, e]
    | some o =>
      have h1 := J'.s0 a o (J.sub a o h)
      rw [e] at h1
      cases h1
      exact lendG_l h
  refine ⟨lendG G G1, F, Ft ++ F2, J.s0.trans sg, fun a o e => ?_, J.slots.mono sg fun a z => same a (List.mem_append_left _ z), (J.temps.mono sg fun a z => same a (List.mem_append_right _ z)).append (RpL.one.mpr (Rp.lend tp hz r2)), ?_, fun a z => ?_, fun a z => ?_, fun a o e => ?_, fun a o e n => keep a o (J.keep a o e n), J.kept⟩
  · rcases lendG_cases e with h | ⟨_, vs, rfl, h2⟩
    · exact keep a o (J.sub a o h)
    · exact J'.sub a _ h2
  · rw [← List.append_assoc]
    refine List.nodup_append.mpr ⟨J.nd, ?_, fun a z c hc e => ?_⟩
    · have := J'.nd
      rw [List.nil_append] at this
      exact (List.nodup_append.mp this).2.1
    · subst e
      obtain ⟨o, e, _⟩ := there a z
      rw [new a hc] at e
      cases e
  · rw [← List.append_assoc] at z
    rcases List.mem_append.mp z with z | z
    · have g0 := J.fr a z
      cases h : lendG G G1 a with
      | none => rfl
      | some o =>
        rcases lendG_cases h with h | ⟨_, vs, rfl, h2⟩
        · rw [g0] at h; cases h
        · have h1 := J'.sub a _ h2
          rw [same a z] at h1
          obtain ⟨o, e, m⟩ := there a z
          rw [h1] at e
          cases e
          exact m.elim
    · cases h : lendG G G1 a with
      | none => rfl
      | some o =>
        rcases lendG_cases h with h | ⟨_, vs, rfl, h2⟩
        · have := J.sub a o h
          rw [new a z] at this
          cases this
        · rw [J'.fr a (by simp [z])] at h2
          cases h2
  · rw [← List.append_assoc] at z
    rcases List.mem_append.mp z with z | z
    · exact J.own a z
    · exact J.h0 (new a z)
  · rcases lendG_cases e with h | ⟨_, vs, rfl, h2⟩
    · exact J.gn a o h
    · exact .inr (.inr (.inr ⟨vs, rfl⟩))
end
section
variable {X : Cv}
def vLend (vsp : VSp) (t : VTVs) : VTE := fun N ε Q => t ε fun ds => vsp ds (fun r ds' => newD r = true ∧ Q r ε) (fun cls row ds' => newD row = true ∧ N cls row ε)
theorem ve_lend {x : Str} {p pos : Pos} {e : Expr} {es : List Expr} {t : VTVs} {k n : Nat} {vsp : VSp} (F : Fv X.prog X.w X.K X.mg X.base x k n vsp) (m : Mono vsp) (hr : Room k X.A) (hg : Gl X.toCx x) (hn : (e :: es).length = n) (ha : VVs X (e :: es) t)
    (hdb : (x == ("__debug__" : Str)) = false := by decide) (he : starEach (e :: es) X.env = (false, eval e X.env) :: starEach es X.env := by rfl) (hpl : (backTo pos (starEach es X.env)).any (·.1) = false := by rfl) :
    VE X (.Call (.Name x p) (e :: es) [] pos) (vLend vsp t) := by
  obtain ⟨f, fd, ps, hm, hk, hb, F⟩ := F.ex
  obtain ⟨t', a1, a2⟩ := ha.ex
  refine ⟨fun W => tCallS (Lift X.K n vsp) (WE W) (t' W), fun W tk => pe_callS F hr hg hm hk hb (fun σ => passAt tk σ) (a1 W tk) hdb he hpl, fun b σ H ε T Tv W N Q Q' I q kk x => ?_⟩
  refine a2 b σ H ε T Tv W _ _ I q fun ds vs H1 s1 rr l z => ?_
  have I1 := I.grow s1
  have ll : ∀ {ds' : List D} {d : D} {v : V} {H' : Hp}, SI X.K (callB H1 H1 []) [] H' [] (ds' ++ [d]) (vs ++ [v]) → ds'.length = vs.length := fun I' => by
    have := I'.lenT
    simpa using this
  refine ⟨H1, [], ds, si_view rr, by rw [l, hn], m _ _ _ _ _ (fun r ds' q' v H' I' => ?_) (fun cls row ds' q' dd v H' I' e fr => ?_) z⟩
  · exact kk r v ε H' (I1.lend I' (ll I') q'.1) q'.2
  · refine x cls dd σ H' ε row v (I1.lend I' (ll I') q'.1) e ?_ q'.2
    rcases fr with h | h
    · exact nomatch h
    · obtain ⟨_, _, _, J⟩ := I1
      exact J.h0 h
end
end VL
namespace VL
open PySem PySem.Spec PyProof.Rows L2 VL
end VL
namespace VL
open PySem PySem.Spec PyProof.Rows L2 PySem.W
/-- below 2 ^ B either way -/
abbrev Bd (B : Nat) (i : Int) : Prop := i.natAbs < 2 ^ B
def MemB (B : Nat) (M : Mem) : Prop := ∀ p ∈ M, Bd B p.2
def OpB (B : Nat) : Opd → Prop
  | .inl i => Bd B i
  | .inr _ => True
end VL
namespace VL
open PySem PySem.Spec PyProof.Rows L2 VL
abbrev cRest : Cs := [114, 101, 115, 116]
def signOk (s : Cs) : Prop := s = [43] ∨ s = [45] ∨ s = [47] ∨ s = cRest ∨ s = [38] ∨ s = [94]
def testOk (s : Cs) : Prop := s = [60] ∨ s = [61]
def Rw.sgn : Rw → Prop
  | .sum _ _ _ s _ => signOk s
  | .test _ _ s _ _ => testOk s
  | _ => True
/-- the deed of a row; none: refused -/
def deedR (M : Mem) : Rw → Option Dd
  | .sum _ x a s b => (madeV s (worthM M a) (worthM M b)).map fun v => .sum x (worthM M a) s (worthM M b) v
  | .test _ a s b _ => some (.test (worthM M a) s (worthM M b) (holdsV s (worthM M a) (worthM M b)))
  | _ => none
theorem cutL_maps {α β : Type} (f : α → β) (xs : List α) (lo hi : Option Int) : cutL (xs.map f) lo hi = (cutL xs lo hi).map f := by
  unfold cutL
  rw [List.length_map, List.map_take, List.map_drop]
theorem slice_script (ns : List Int) (lo hi : Option Int) : sliceD (scriptD ns) lo hi = some (.lst true ((cutL ns lo hi).map D.int)) := by
  show (if isFzL (ns.map D.int) = true then some (D.lst true (cutL (ns.map D.int) lo hi)) else none) = _
  rw [if_pos (show isFzL (ns.map D.int) = true from script_fz ns), cutL_maps]
theorem frz_ints (ns : List Int) : frzL (ns.map D.int) = ns.map D.int := frzL_id (show isFzL (ns.map D.int) = true from script_fz ns)
theorem new_dd (d : Dd) : newD (dedD d) = true := by cases d <;> rfl
theorem new_dds (ds : List Dd) : newDL (ds.map dedD) = true := by rw [newDL_all]; simp [new_dd]
theorem new_mm (M : Mem) : newD (mmD true M) = true := by
  show (true && newDL (M.map fun p : Cs × Int => D.int p.2)) = true
  rw [newDL_all]
  simp [newD]
theorem new_told (r : Told) : newD (toldD r) = true := by
  show newDL [.lst true (r.1.map dedD), .str r.2.1, mmD true r.2.2] = true
  show ((true && newDL (r.1.map dedD)) && (true && (newD (mmD true r.2.2) && true))) = true
  rw [new_dds, new_mm]
  rfl
end VL
namespace VL
open PySem PySem.Spec PyProof.Rows L2 VL
/-- along jumps to what is none; none: round and round -/
def folJ (nx : Nat → Option Nat) : Nat → Nat → Option Nat
  | 0, _ => none
  | f + 1, p => match nx p with
    | none => some p
    | some b => folJ nx f b
def fol (rs : List Rw) (p : Nat) : Option Nat := folJ (nxJ rs) (rs.length + 1) p
theorem folJ_none {nx : Nat → Option Nat} {f p : Nat} (h : nx p = none) : folJ nx (f + 1) p = some p := by
  show (match nx p with | none => some p | some b => folJ nx f b) = _
  rw [h]
theorem folJ_some {nx : Nat → Option Nat} {f p b : Nat} (h : nx p = some b) : folJ nx (f + 1) p = folJ nx f b := by
  show (match nx p with | none => some p | some b => folJ nx f b) = _
  rw [h]
theorem folJ_end {nx : Nat → Option Nat} : ∀ {f p q : Nat}, folJ nx f p = some q → nx q = none
  | 0, _, _, h => nomatch h
  | f + 1, p, q, h => by
    cases e : nx p with
    | none => rw [folJ_none e] at h; cases h; exact e
    | some b => rw [folJ_some e] at h; exact folJ_end h
/-- n steps of jumps -/
def itJ (nx : Nat → Option Nat) : Nat → Nat → Option Nat
  | 0, p => some p
  | n + 1, p => (nx p).bind (itJ nx n)
theorem itJ_add {nx : Nat → Option Nat} : ∀ {n m p q : Nat}, itJ nx n p = some q → itJ nx (n + m) p = itJ nx m q
  | 0, m, p, q, h => by cases h; rw [Nat.zero_add]
  | n + 1, m, p, q, h => by
    rw [Nat.succ_add]
    show (nx p).bind (itJ nx (n + m)) = _
    cases e : nx p with
    | none =>
      have h : (nx p).bind (itJ nx n) = some q := h
      rw [e] at h; cases h
    | some b =>
      have h : (nx p).bind (itJ nx n) = some q := h
      rw [e] at h
      exact itJ_add (p := b) h
theorem fol_end {rs : List Rw} {p q : Nat} (h : fol rs p = some q) : nxJ rs q = none := folJ_end h
theorem fol_self {rs : List Rw} {p : Nat} (h : nxJ rs p = none) : fol rs p = some p := folJ_none h
theorem fol_twice {rs : List Rw} {p q : Nat} (h : fol rs p = some q) : fol rs q = some q := fol_self (fol_end h)
/-- a run from a place, of at most so many deeds: the deeds, the word, the memory, where it came to -/
inductive MR (rs : List Rw) : Nat → Nat → Mem → List Dd → Cs → Mem → Option Nat → Prop
  | ring {m p : Nat} {M : Mem} : fol rs p = none → MR rs m p M [] cOn M none
  | fin {m p q n : Nat} {M : Mem} : fol rs p = some q → rs[q]? = some (.fin n) → MR rs m p M [] cEnd M (some q)
  | full {p q : Nat} {r : Rw} {M : Mem} : fol rs p = some q → rs[q]? = some r → r.falls = true → MR rs 0 p M [] cOn M (some q)
  | fault {m p q : Nat} {r : Rw} {M : Mem} : fol rs p = some q → rs[q]? = some r → r.falls = true → deedR M r = none → MR rs (m + 1) p M [] cFault M (some q)
  | sum {m p q n : Nat} {x s : Cs} {a b : Opd} {v : Int} {M M' : Mem} {ds : List Dd} {w : Cs} {z : Option Nat} : fol rs p = some q → rs[q]? = some (.sum n x a s b) → madeV s (worthM M a) (worthM M b) = some v →
      MR rs m (q + 1) (putM M x v) ds w M' z → MR rs (m + 1) p M (.sum x (worthM M a) s (worthM M b) v :: ds) w M' z
  | test {m p q n to : Nat} {s : Cs} {a b : Opd} {M M' : Mem} {ds : List Dd} {w : Cs} {z : Option Nat} : fol rs p = some q → rs[q]? = some (.test n a s b to) →
      MR rs m (if holdsV s (worthM M a) (worthM M b) = true then (nums rs).idxOf to else q + 1) M ds w M' z → MR rs (m + 1) p M (.test (worthM M a) s (worthM M b) (holdsV s (worthM M a) (worthM M b)) :: ds) w M' z
section
variable {rs : List Rw}
/-- only one answer -/
theorem MR.one {m p : Nat} {M : Mem} {ds ds' : List Dd} {w w' : Cs} {M1 M2 : Mem} {z z' : Option Nat} (h : MR rs m p M ds w M1 z) (k : MR rs m p M ds' w' M2 z') : ds = ds' ∧ w = w' ∧ M1 = M2 ∧ z = z' := by
  induction h generalizing ds' w' M2 z' with
  | ring h =>
    cases k with
    | ring _ => exact ⟨rfl, rfl, rfl, rfl⟩
    | fin e _ => rw [h] at e; cases e
    | full e _ _ => rw [h] at e; cases e
    | fault e _ _ _ => rw [h] at e; cases e
    | sum e _ _ _ => rw [h] at e; cases e
    | test e _ _ => rw [h] at e; cases e
  | fin h h2 =>
    cases k with
    | ring e => rw [h] at e; cases e
    | fin e _ => rw [h] at e; cases e; exact ⟨rfl, rfl, rfl, rfl⟩
    | full e e2 e3 => rw [h] at e; cases e; rw [h2] at e2; cases e2; cases e3
    | fault e e2 e3 _ => rw [h] at e; cases e; rw [h2] at e2; cases e2; cases e3
    | sum e e2 _ _ => rw [h] at e; cases e; rw [h2] at e2; cases e2
    | test e e2 _ => rw [h] at e; cases e; rw [h2] at e2; cases e2
  | full h h2 h3 =>
    cases k with
    | ring e => rw [h] at e; cases e
    | fin e e2 => rw [h] at e; cases e; rw [h2] at e2; cases e2; cases h3
    | full e _ _ => rw [h] at e; cases e; exact ⟨rfl, rfl, rfl, rfl⟩
  | fault h h2 h3 h4 =>
    cases k with
    | ring e => rw [h] at e; cases e
    | fin e e2 => rw [h] at e; cases e; rw [h2] at e2; cases e2; cases h3
    | fault e _ _ _ => rw [h] at e; cases e; exact ⟨rfl, rfl, rfl, rfl⟩
    | sum e e2 e3 _ => rw [h] at e; cases e; rw [h2] at e2; cases e2; simp [deedR, e3] at h4
    | test e e2 _ => rw [h] at e; cases e; rw [h2] at e2; cases e2; simp [deedR] at h4
  | sum h h2 h3 _ ih =>
    cases k with
    | ring e => rw [h] at e; cases e
    | fin e e2 => rw [h] at e; cases e; rw [h2] at e2; cases e2
    | fault e e2 e3 e4 => rw [h] at e; cases e; rw [h2] at e2; cases e2; simp [deedR, h3] at e4
    | sum e e2 e3 r =>
      rw [h] at e; cases e; rw [h2] at e2; cases e2; rw [h3] at e3; cases e3
      obtain ⟨rfl, rfl, rfl, rfl⟩ := ih r
      exact ⟨rfl, rfl, rfl, rfl⟩
    | test e e2 _ => rw [h] at e; cases e; rw [h2] at e2; cases e2
  | test h h2 _ ih =>
    cases k with
    | ring e => rw [h] at e; cases e
    | fin e e2 => rw [h] at e; cases e; rw [h2] at e2; cases e2
    | fault e e2 e3 e4 => rw [h] at e; cases e; rw [h2] at e2; cases e2; simp [deedR] at e4
    | sum e e2 e3 r => rw [h] at e; cases e; rw [h2] at e2; cases e2
    | test e e2 r =>
      rw [h] at e; cases e; rw [h2] at e2; cases e2
      obtain ⟨rfl, rfl, rfl, rfl⟩ := ih r
      exact ⟨rfl, rfl, rfl, rfl⟩
theorem MR.len {m p : Nat} {M : Mem} {ds : List Dd} {w : Cs} {M1 : Mem} {z : Option Nat} (h : MR rs m p M ds w M1 z) : ds.length ≤ m := by
  induction h with
  | sum _ _ _ _ ih => simpa using ih
  | test _ _ _ ih => simpa using ih
  | _ => simp
theorem MR.from {m p q : Nat} {M M1 : Mem} {ds : List Dd} {w : Cs} {z : Option Nat} (h : MR rs m q M ds w M1 z) (hf : fol rs p = fol rs q) : MR rs m p M ds w M1 z := by
  cases h with
  | ring h => exact .ring (hf.trans h)
  | fin h h2 => exact .fin (hf.trans h) h2
  | full h h2 h3 => exact .full (hf.trans h) h2 h3
  | fault h h2 h3 h4 => exact .fault (hf.trans h) h2 h3 h4
  | sum h h2 h3 r => exact .sum (hf.trans h) h2 h3 r
  | test h h2 r => exact .test (hf.trans h) h2 r
theorem MR.on {m p q : Nat} {M M1 : Mem} {ds : List Dd} {w : Cs} (h : MR rs m p M ds w M1 (some q)) {j : Nat} {ds2 : List Dd} {w2 : Cs} {M2 : Mem} {z2 : Option Nat} (k : MR rs (j + 1) q M1 ds2 w2 M2 z2) : MR rs (m + (j + 1)) p M (ds ++ ds2) w2 M2 z2 := by
  generalize hz : some q = z at h
  induction h with
  | ring _ => cases hz
  | fin h h2 =>
    cases hz
    have k2 := k.one (.fin (fol_twice h) h2)
    obtain ⟨rfl, rfl, rfl, rfl⟩ := k2
    exact .fin h h2
  | full h h2 h3 =>
    cases hz
    rw [Nat.zero_add]
    exact k.from (h.trans (fol_twice h).symm)
  | fault h h2 h3 h4 =>
    cases hz
    have k2 := k.one (.fault (fol_twice h) h2 h3 h4)
    obtain ⟨rfl, rfl, rfl, rfl⟩ := k2
    rw [Nat.succ_add]
    exact .fault h h2 h3 h4
  | sum h1 h2 h3 _ ih =>
    rw [Nat.succ_add]
    exact .sum h1 h2 h3 (ih k hz)
  | test h1 h2 _ ih =>
    rw [Nat.succ_add]
    exact .test h1 h2 (ih k hz)
end
end VL
namespace VL
open PySem PySem.Spec PyProof.Rows L2 VL
end VL
namespace VL
open PySem PySem.Spec PyProof.Rows L2 VL
theorem ded_frz (d : Dd) : frz (dedD d) = dedD d := frz_id (ded_fz d)
theorem rwD_frz (r : Rw) : frz (rwD r) = rwD r := frz_id (rwD_fz r)
section
variable {rs : List Rw}
/-- where a run ended -/
theorem MR.last {m p : Nat} {M : Mem} {ds : List Dd} {w : Cs} {M1 : Mem} {z : Option Nat} (h : MR rs m p M ds w M1 z) :
    (z = none ∧ w = cOn) ∨ (∃ q n, z = some q ∧ rs[q]? = some (.fin n) ∧ w = cEnd) ∨ ∃ q r, z = some q ∧ rs[q]? = some r ∧ r.falls = true ∧ ((ds.length = m ∧ w = cOn) ∨ (ds.length < m ∧ deedR M1 r = none ∧ w = cFault)) := by
  induction h with
  | ring _ => exact .inl ⟨rfl, rfl⟩
  | fin _ h2 => exact .inr (.inl ⟨_, _, rfl, h2, rfl⟩)
  | full _ h2 h3 => exact .inr (.inr ⟨_, _, rfl, h2, h3, .inl ⟨rfl, rfl⟩⟩)
  | fault _ h2 h3 h4 => exact .inr (.inr ⟨_, _, rfl, h2, h3, .inr ⟨Nat.succ_pos _, h4, rfl⟩⟩)
  | sum _ _ _ _ ih =>
    rcases ih with h | h | ⟨q, r, h1, h2, h3, h4⟩
    · exact .inl h
    · exact .inr (.inl h)
    · refine .inr (.inr ⟨q, r, h1, h2, h3, ?_⟩)
      rcases h4 with ⟨h, e⟩ | ⟨h, e⟩
      · exact .inl ⟨by simp [h], e⟩
      · exact .inr ⟨by simpa using h, e⟩
  | test _ _ _ ih =>
    rcases ih with h | h | ⟨q, r, h1, h2, h3, h4⟩
    · exact .inl h
    · exact .inr (.inl h)
    · refine .inr (.inr ⟨q, r, h1, h2, h3, ?_⟩)
      rcases h4 with ⟨h, e⟩ | ⟨h, e⟩
      · exact .inl ⟨by simp [h], e⟩
      · exact .inr ⟨by simpa using h, e⟩
end
end VL
namespace VL
open PySem PySem.Spec PyProof.Rows L2 VL
section
variable {X : Cv}
/-- a slice's part that is a literal -/
structure VOC (X : Cv) (e : Option Expr) (o : Option Int) : Prop where
  ex : ∃ l : TO, PO X.toCx e l ∧ ∀ (σ : L2.St) (H : Hp) (R : Option Int → Hp → Prop), R o H → l σ H R
theorem voc_none : VOC X none none := ⟨tNoPart, po_none, fun _ _ _ h => h⟩
theorem voc_int {i : Int} {j pos} : VOC X (some (.Constant (.int i) j pos)) (some i) := ⟨tPart (tC (.int i)), po_some pe_int, fun _ _ _ h => ⟨i, rfl, h⟩⟩
def vSlQ (t : VTE) (lo hi : Option Int) : VTE := fun N ε Q => t N ε fun x ε1 => ∃ d, sliceD x lo hi = some d ∧ Q d ε1
theorem vq_slice {e : Expr} {lo hi : Option Expr} {t : VTE} {o1 o2 : Option Int} {pos p2 : Pos} (h : VQ X e t) (hl : VOC X lo o1) (hh : VOC X hi o2) : VQ X (.Subscript e (.Slice lo hi none p2) pos) (vSlQ t o1 o2) := by
  obtain ⟨t', a1, a2⟩ := h.ex
  obtain ⟨l', b1, b2⟩ := hl.ex
  obtain ⟨h', c1, c2⟩ := hh.ex
  refine ⟨fun W => tSl (rSlD X.K) (t' W) l' h', fun W tk => pe_slice sl_any (a1 W tk) b1 c1, fun b σ H ε T Tv W N Q Q' I q k x => ?_⟩
  refine a2 b σ H ε T Tv W N _ _ I q (fun d v ε1 H1 s1 J z => ?_) x
  refine b2 σ H1 _ (c2 σ H1 _ ?_)
  obtain ⟨y, hy, z⟩ := z
  have op : OpN X.K (fun vs H Q => ∃ v, vs = [v] ∧ rSlD X.K v o1 o2 H Q) (fun ds Q => ∃ x d, ds = [x] ∧ sliceD x o1 o2 = some d ∧ Q d) := OpN.mk fun G H ds vs F Q Q' hs r q k => by
    obtain ⟨x, d, rfl, h, q⟩ := q
    obtain ⟨v, rfl, rx⟩ := r.one'
    exact ⟨v, rfl, sl_run hs rx h fun v H' nw => k d v H' nw q⟩
  obtain ⟨v', e', z'⟩ := op.runQ (ds := [d]) (vs := [v]) (Q := Q) (Q' := Q') I.lenT rfl s1 J ⟨d, y, rfl, hy, z⟩ k
  obtain ⟨rfl, _⟩ := List.cons.inj e'
  exact z'
theorem vq_frz {i : Nat} {x : Str} {pos : Pos} (hN : X.N[i]? = some x) (hv : Vis X.env.scope x) (hd : (x == ("__debug__" : Str)) = false := by decide) (hcd : (x == ("__classdict__" : Str)) = false := by decide) : VQ X (.Name x pos) (vFrz i) := by
  refine ⟨fun _ => tVar i, fun _ _ => pe_var hN hv hd hcd, fun b σ H ε T Tv W N Q Q' I h k _ => ?_⟩
  obtain ⟨d, e, q⟩ := h
  obtain ⟨v, hs, J⟩ := I.mov e
  have J2 := (J.freeze I.lenT).back I.lenT hs
  have e2 : (ε.set i none).set i (some (frz d)) = ε.set i (some (frz d)) := by simp
  rw [e2] at J2
  have hi := (List.getElem?_eq_some_iff.mp e).1
  obtain ⟨v', hs', J3⟩ := J2.var (i := i) (d := frz d) (by simp [hi]) (isFz_frz d)
  rw [hs] at hs'
  cases hs'
  exact ⟨v, hs, k (frz d) v _ H Sub.refl J3 q⟩
theorem nfq (i : Nat) {x : Str} {pos : Pos} (hN : X.N[i]? = some x := by rfl) (hv : Vis X.env.scope x := by first | exact Or.inl rfl | exact Or.inr (Or.inl rfl) | exact Or.inr (Or.inr rfl)) (hd : (x == ("__debug__" : Str)) = false := by decide) (hcd : (x == ("__classdict__" : Str)) = false := by decide) : VQ X (.Name x pos) (vFrz i) := vq_frz hN hv hd hcd
end
end VL
namespace VL
open PySem PySem.Spec PyProof.Rows L2 VL
abbrev cIf : Cs := [105, 102]
abbrev cElse : Cs := [101, 108, 115, 101]
abbrev cDone : Cs := [100, 111, 110, 101]
abbrev cRound : Cs := [114, 111, 117, 110, 100]
abbrev cPart : Cs := [112, 97, 114, 116]
abbrev cLeave : Cs := [108, 101, 97, 118, 101]
abbrev cAgain : Cs := [97, 103, 97, 105, 110]
abbrev cChoice : Cs := [99, 104, 111, 105, 99, 101]
inductive Ln where
  | sum (x : Cs) (a : Opd) (s : Cs) (b : Opd)
  | iff (a : Opd) (s : Cs) (b : Opd)
  | els
  | done
  | round (n : Int)
  | part (n : Int)
  | leave (n : Int)
  | again (n : Int)
  | fin
def lnL : Ln → List D
  | .sum x a s b => [.str cSum, .str x, opD a, .str s, opD b]
  | .iff a s b => [.str cIf, opD a, .str s, opD b]
  | .els => [.str cElse]
  | .done => [.str cDone]
  | .round n => [.str cRound, .int n]
  | .part n => [.str cPart, .int n]
  | .leave n => [.str cLeave, .int n]
  | .again n => [.str cAgain, .int n]
  | .fin => [.str cEnd]
def lnD (l : Ln) : D := .tup (lnL l)
theorem ln_fzL (l : Ln) : isFzL (lnL l) = true := by cases l <;> simp [lnL, isFzL, isFz, opD_fz]
theorem ln_fz (l : Ln) : isFz (lnD l) = true := ln_fzL l
theorem ln_frz (l : Ln) : frz (lnD l) = lnD l := frz_id (ln_fz l)
theorem lns_fz (L : List Ln) : isFzL (L.map lnD) = true := by rw [isFzL_all]; simp [ln_fz]
theorem lns_frz (L : List Ln) : frzL (L.map lnD) = L.map lnD := frzL_id (lns_fz L)
/-- what is open -/
inductive Tk where
  | iff
  | els
  | rnd (n : Int)
  | prt (n : Int)
def tkD : Tk → D
  | .iff => .tup [.str cIf, .int (-1)]
  | .els => .tup [.str cElse, .int (-1)]
  | .rnd n => .tup [.str cRound, .int n]
  | .prt n => .tup [.str cPart, .int n]
theorem tk_fz (k : Tk) : isFz (tkD k) = true := by cases k <;> rfl
theorem tks_fz (st : List Tk) : isFzL (st.map tkD) = true := by rw [isFzL_all]; simp [tk_fz]
theorem tks_frz (st : List Tk) : frzL (st.map tkD) = st.map tkD := frzL_id (tks_fz st)
/-- open ones as Python has them: the innermost last -/
def stD (st : List Tk) : List D := st.reverse.map tkD
theorem std_fz (st : List Tk) : isFzL (stD st) = true := tks_fz _
theorem std_frz (st : List Tk) : frzL (stD st) = stD st := tks_frz _
theorem std_len (st : List Tk) : (stD st).length = st.length := by simp [stD]
def stepT (st : List Tk) : Ln → Option (List Tk)
  | .iff _ _ _ => some (.iff :: st)
  | .round n => some (.rnd n :: st)
  | .part n => some (.prt n :: st)
  | .els => match st with
    | .iff :: t => some (.els :: t)
    | _ => none
  | .done => match st with
    | _ :: t => some t
    | [] => none
  | _ => some st
def home (st : List Tk) (n : Int) : Prop := Tk.rnd n ∈ st ∨ Tk.prt n ∈ st
def okT (st : List Tk) : Ln → Prop
  | .iff _ _ _ => st.length < 60
  | .round _ => st.length < 60
  | .part _ => st.length < 60
  | .leave n => home st n
  | .again n => Tk.rnd n ∈ st
  | _ => True
inductive RunsP (P : List Tk → Ln → Prop) : List Tk → List Ln → List Tk → Prop
  | nil {st : List Tk} : RunsP P st [] st
  | cons {st st1 st2 : List Tk} {l : Ln} {L : List Ln} : stepT st l = some st1 → P st l → RunsP P st1 L st2 → RunsP P st (l :: L) st2
theorem RunsP.mono {P P' : List Tk → Ln → Prop} (h : ∀ st l, P st l → P' st l) {st st' : List Tk} {L : List Ln} (r : RunsP P st L st') : RunsP P' st L st' := by
  induction r with
  | nil => exact .nil
  | cons e p _ ih => exact .cons e (h _ _ p) ih
theorem RunsP.app {P : List Tk → Ln → Prop} {a b c : List Tk} {L M : List Ln} (h : RunsP P a L b) (k : RunsP P b M c) : RunsP P a (L ++ M) c := by
  induction h with
  | nil => exact k
  | cons e p _ ih => exact .cons e p (ih k)
theorem RunsP.snoc {P : List Tk → Ln → Prop} {a b c : List Tk} {L : List Ln} {l : Ln} (h : RunsP P a L b) (e : stepT b l = some c) (p : P b l) : RunsP P a (L ++ [l]) c := h.app (.cons e p .nil)
inductive Fm where
  | sum (x : Cs) (a : Opd) (s : Cs) (b : Opd)
  | choice (a : Opd) (s : Cs) (b : Opd) (yes no : List Fm) (e : Bool)
  | round (n : Int) (body : List Fm)
  | part (n : Int) (body : List Fm)
  | leave (n : Int)
  | again (n : Int)
  | fin
mutual
def lnsF : Fm → List Ln
  | .sum x a s b => [.sum x a s b]
  | .choice a s b y n e => .iff a s b :: (lnsL y ++ ((if e = true then .els :: lnsL n else []) ++ [.done]))
  | .round n b => .round n :: (lnsL b ++ [.done])
  | .part n b => .part n :: (lnsL b ++ [.done])
  | .leave n => [.leave n]
  | .again n => [.again n]
  | .fin => [.fin]
def lnsL : List Fm → List Ln
  | [] => []
  | f :: fs => lnsF f ++ lnsL fs
end
mutual
def fmD : Fm → D
  | .sum x a s b => .tup [.str cSum, .str x, opD a, .str s, opD b]
  | .choice a s b y n e => .tup [.str cChoice, opD a, .str s, opD b, .lst false (fmsD y), .lst false (if e = true then fmsD n else [])]
  | .round n b => .tup [.str cRound, .int n, .lst false (fmsD b)]
  | .part n b => .tup [.str cPart, .int n, .lst false (fmsD b)]
  | .leave n => .tup [.str cLeave, .int n]
  | .again n => .tup [.str cAgain, .int n]
  | .fin => .tup [.str cEnd]
def fmsD : List Fm → List D
  | [] => []
  | f :: fs => fmD f :: fmsD fs
end
mutual
/-- how deep: a list without lists is 1 deep -/
def dpF : Fm → Nat
  | .choice _ _ _ y n e => max (dpL y) (if e = true then dpL n else 0) + 1
  | .round _ b => dpL b + 1
  | .part _ b => dpL b + 1
  | _ => 0
def dpL : List Fm → Nat
  | [] => 0
  | f :: fs => max (dpF f) (dpL fs)
end
mutual
theorem fm_fz : ∀ f : Fm, isFz (fmD f) = true
  | .sum x a s b => by simp [fmD, isFz, isFzL, opD_fz]
  | .choice a s b y n e => by
    have h1 := fms_fz y
    have h2 := fms_fz n
    rw [fmD]
    cases e <;> simp [isFz, isFzL, opD_fz, h1, h2]
  | .round n b => by
    have h1 := fms_fz b
    simp [fmD, isFz, isFzL, h1]
  | .part n b => by
    have h1 := fms_fz b
    simp [fmD, isFz, isFzL, h1]
  | .leave n => by simp [fmD, isFz, isFzL]
  | .again n => by simp [fmD, isFz, isFzL]
  | .fin => by simp [fmD, isFz, isFzL]
theorem fms_fz : ∀ fs : List Fm, isFzL (fmsD fs) = true
  | [] => by rw [fmsD]; rfl
  | f :: fs => by
    rw [fmsD]
    show (isFz (fmD f) && isFzL (fmsD fs)) = true
    rw [fm_fz f, fms_fz fs]
    rfl
end
theorem fms_frz (fs : List Fm) : frzL (fmsD fs) = fmsD fs := frzL_id (fms_fz fs)
theorem fm_frz (f : Fm) : frz (fmD f) = fmD f := frz_id (fm_fz f)
end VL
namespace VL
open PySem PySem.Spec PyProof.Rows L2 VL
def isLet (c : Nat) : Bool := decide (97 ≤ c ∧ c ≤ 122)
def isLd (c : Nat) : Bool := isLet c || decide (48 ≤ c ∧ c ≤ 57)
def keptW : List Cs := [[105, 102], [106, 117, 109, 112], [101, 110, 100], [114, 101, 115, 116], [114, 111, 117, 110, 100], [112, 97, 114, 116], [108, 101, 97, 118, 101], [97, 103, 97, 105, 110], [101, 108, 115, 101], [100, 111, 110, 101]]
/-- a letter ahead, then letters and figures -/
def wordOk (s : Cs) : Prop := (∃ c t, s = c :: t ∧ isLet c = true) ∧ ∀ c ∈ s, isLd c = true
def NameOk (s : Cs) : Prop := wordOk s ∧ s.length ≤ 8 ∧ s ∉ keptW
def OpdOk : Opd → Prop
  | .inl i => i.natAbs < 1000000000000000000
  | .inr s => NameOk s
theorem opd_bd {a : Opd} (h : OpdOk a) : OpB 61 a := by
  cases a with
  | inl i =>
    have h : i.natAbs < 1000000000000000000 := h
    show i.natAbs < 2 ^ 61
    omega
  | inr s => trivial
def LnOk : Ln → Prop
  | .sum x a s b => NameOk x ∧ OpdOk a ∧ signOk s ∧ OpdOk b
  | .iff a s b => OpdOk a ∧ testOk s ∧ OpdOk b
  | _ => True
/-- the numbers of rounds and parts -/
def homes : List Ln → List Int
  | [] => []
  | .round n :: L => n :: homes L
  | .part n :: L => n :: homes L
  | _ :: L => homes L
theorem homes_app (L M : List Ln) : homes (L ++ M) = homes L ++ homes M := by
  induction L with
  | nil => rfl
  | cons l L ih => cases l <;> simp [homes, ih]
/-- lines as they are drawn, up to so many -/
structure GenOk (L : List Ln) : Prop where
  runs : RunsP okT [] L []
  ln : ∀ l ∈ L, LnOk l
  nd : (homes L).Nodup
  rng : ∀ n ∈ homes L, 0 ≤ n ∧ n ≤ 9999
  few : L.length ≤ 121
end VL
namespace VL
open PySem PySem.Spec PyProof.Rows L2 VL
/-- what a drawn line keeps: the rounds and parts that are open -/
def hm (f k : Int) : Int := (f + 97 * k) % 10000
theorem hm_rng (f k : Int) : 0 ≤ hm f k ∧ hm f k ≤ 9999 := by
  unfold hm
  have h1 := Int.emod_nonneg (f + 97 * k) (show (10000 : Int) ≠ 0 by decide)
  have h2 := Int.emod_lt_of_pos (f + 97 * k) (show (0 : Int) < 10000 by decide)
  omega
theorem hm_inj {f : Int} {i j : Nat} (hi : i < 1000) (hj : j < 1000) (h : hm f (i : Int) = hm f (j : Int)) : i = j := by
  unfold hm at h
  omega
/-- k steps are done -/
structure GSt (f : Int) (k : Nat) (L : List Ln) (st : List Tk) : Prop where
  runs : RunsP okT [] L st
  ln : ∀ l ∈ L, LnOk l
  hs : ∃ js : List Nat, homes L = js.map (fun j : Nat => hm f (j : Int)) ∧ js.Pairwise (· < ·) ∧ ∀ j ∈ js, j < k
  len : L.length = k
  few : st.length ≤ 60
  pos : ∀ n, home st n → 0 ≤ n
/-- one line more -/
structure GLn (f : Int) (k : Nat) (st : List Tk) (l : Ln) (st' : List Tk) : Prop where
  step : stepT st l = some st'
  ok : okT st l
  ln : LnOk l
  hm : homes [l] = [] ∨ homes [l] = [hm f (k : Int)]
theorem stepT_len {st st' : List Tk} {l : Ln} (h : stepT st l = some st') (ho : okT st l) (hl : st.length ≤ 60) : st'.length ≤ 60 := by
  cases l with
  | iff a s b => cases h; have : st.length < 60 := ho; simp; omega
  | round n => cases h; have : st.length < 60 := ho; simp; omega
  | part n => cases h; have : st.length < 60 := ho; simp; omega
  | els =>
    cases st with
    | nil => cases h
    | cons k t => cases k <;> cases h; simpa using hl
  | done =>
    cases st with
    | nil => cases h
    | cons k t => cases h; simp at hl; omega
  | _ => cases h; exact hl
theorem stepT_home {st st' : List Tk} {l : Ln} (h : stepT st l = some st') {n : Int} (hn : home st' n) : home st n ∨ n ∈ homes [l] := by
  cases l with
  | iff a s b =>
    cases h
    rcases hn with hn | hn
    · exact .inl (.inl (by simpa using hn))
    · exact .inl (.inr (by simpa using hn))
  | round m =>
    cases h
    rcases hn with hn | hn
    · rcases List.mem_cons.mp hn with e | hn
      · cases e; exact .inr (by simp [homes])
      · exact .inl (.inl hn)
    · exact .inl (.inr (by simpa using hn))
  | part m =>
    cases h
    rcases hn with hn | hn
    · exact .inl (.inl (by simpa using hn))
    · rcases List.mem_cons.mp hn with e | hn
      · cases e; exact .inr (by simp [homes])
      · exact .inl (.inr hn)
  | els =>
    cases st with
    | nil => cases h
    | cons k t =>
      cases k <;> cases h
      rcases hn with hn | hn
      · exact .inl (.inl (by simpa using hn))
      · exact .inl (.inr (by simpa using hn))
  | done =>
    cases st with
    | nil => cases h
    | cons k t =>
      cases h
      rcases hn with hn | hn
      · exact .inl (.inl (List.mem_cons_of_mem _ hn))
      · exact .inl (.inr (List.mem_cons_of_mem _ hn))
  | _ => cases h; exact .inl hn
theorem GSt.next {f : Int} {k : Nat} {L : List Ln} {st st' : List Tk} {l : Ln} (G : GSt f k L st) (h : GLn f k st l st') : GSt f (k + 1) (L ++ [l]) st' where
  runs := G.runs.snoc h.step h.ok
  ln := fun x hx => by
    rcases List.mem_append.mp hx with hx | hx
    · exact G.ln x hx
    · rw [List.mem_singleton.mp hx]; exact h.ln
  hs := by
    obtain ⟨js, e, pw, lt⟩ := G.hs
    rw [homes_app, e]
    rcases h.hm with e2 | e2
    · exact ⟨js, by rw [e2, List.append_nil], pw, fun j hj => by have := lt j hj; omega⟩
    · refine ⟨js ++ [k], by rw [e2, List.map_append]; rfl, ?_, fun j hj => ?_⟩
      · exact List.pairwise_append.mpr ⟨pw, List.pairwise_singleton _ _, fun a ha b hb => by rw [List.mem_singleton.mp hb]; exact lt a ha⟩
      · rcases List.mem_append.mp hj with hj | hj
        · have := lt j hj; omega
        · rw [List.mem_singleton.mp hj]; omega
  len := by rw [List.length_append, G.len]; rfl
  few := stepT_len h.step h.ok G.few
  pos := fun n hn => by
    rcases stepT_home h.step hn with hn | hn
    · exact G.pos n hn
    · rcases h.hm with e | e
      · rw [e] at hn; cases hn
      · rw [e] at hn
        rw [List.mem_singleton.mp hn]
        exact (hm_rng f k).1
/-- what is open at the end is closed -/
theorem close_runs : ∀ (st : List Tk), RunsP okT st (List.replicate st.length .done) []
  | [] => .nil
  | _ :: t => .cons (st1 := t) rfl trivial (close_runs t)
theorem homes_done (n : Nat) : homes (List.replicate n .done) = [] := by
  induction n with
  | zero => rfl
  | succ n ih => exact ih
theorem GSt.gen {f : Int} {k : Nat} {L : List Ln} {st : List Tk} (G : GSt f k L st) (hk : k ≤ 61) : GenOk (L ++ List.replicate st.length .done) where
  runs := G.runs.app (close_runs st)
  ln := fun x hx => by
    rcases List.mem_append.mp hx with hx | hx
    · exact G.ln x hx
    · rw [(List.mem_replicate.mp hx).2]; trivial
  nd := by
    obtain ⟨js, e, pw, lt⟩ := G.hs
    rw [homes_app, homes_done, List.append_nil, e]
    refine List.pairwise_map.mpr (pw.imp_of_mem fun {a b} ha hb hab e => ?_)
    have := hm_inj (by have := lt a ha; omega) (by have := lt b hb; omega) e
    omega
  rng := fun n hn => by
    obtain ⟨js, e, pw, lt⟩ := G.hs
    rw [homes_app, homes_done, List.append_nil, e] at hn
    obtain ⟨j, _, rfl⟩ := List.mem_map.mp hn
    exact hm_rng f j
  few := by
    have := G.few
    have := G.len
    simp
    omega
end VL
namespace VL
open PySem PySem.Spec PyProof.Rows L2 VL
theorem e_intB {b : Bool} {Q : D → Prop} : sInt [.bl b] Q ↔ Q (.int (if b then 1 else 0)) := by
  constructor
  · rintro (⟨_, e, _⟩ | ⟨b', e, q⟩)
    · cases e
    · cases e; exact q
  · exact fun q => .inr ⟨b, rfl, q⟩
theorem vq_still {X : Cv} {e : Expr} {t : VTE} (h : VQ X e t) : VQ X e (vStill t) := by
  obtain ⟨t', h1, h2⟩ := h.ex
  refine ⟨t', h1, fun b σ H ε T Tv W N Q Q' I q k x => ?_⟩
  exact h2 b σ H ε T Tv W N _ _ I q (fun d v ε1 H1 s J z => k (frz d) v ε1 H1 s (J.freeze I.lenT) z) x
end VL
namespace VL
open PySem PySem.Spec PyProof.Rows L2 VL
def intsD (xs : List Int) : List D := xs.map D.int
mutual
/-- what is used behind it, if it is sound -/
def sndF (W R U : List Int) : Fm → Option (List Int)
  | .leave n => if n ∈ W then some U else none
  | .again n => if n ∈ R then some U else none
  | .round n B => if n ∈ U ∨ n < 0 ∨ 9999 < n then none else sndL (W ++ [n]) (R ++ [n]) (U ++ [n]) B
  | .part n B => if n ∈ U ∨ n < 0 ∨ 9999 < n then none else sndL (W ++ [n]) R (U ++ [n]) B
  | .choice _ _ _ Y Z e => (sndL W R U Y).bind fun U => if e = true then sndL W R U Z else some U
  | .sum _ _ _ _ => some U
  | .fin => some U
def sndL (W R U : List Int) : List Fm → Option (List Int)
  | [] => some U
  | f :: fs => (sndF W R U f).bind fun U => sndL W R U fs
end
end VL
namespace VL
open PySem PySem.Spec PyProof.Rows L2 VL
inductive All2 {α β : Type} (R : α → β → Prop) : List α → List β → Prop
  | nil : All2 R [] []
  | cons {a : α} {b : β} {l : List α} {m : List β} : R a b → All2 R l m → All2 R (a :: l) (b :: m)
theorem All2.app {α β : Type} {R : α → β → Prop} {a c : List α} {b d : List β} (h : All2 R a b) (k : All2 R c d) : All2 R (a ++ c) (b ++ d) := by
  induction h with
  | nil => exact k
  | cons r _ ih => exact .cons r ih
theorem All2.id {α : Type} {R : α → α → Prop} (h : ∀ a, R a a) : ∀ l : List α, All2 R l l
  | [] => .nil
  | a :: l => .cons (h a) (All2.id h l)
theorem All2.len {α β : Type} {R : α → β → Prop} {a : List α} {b : List β} (h : All2 R a b) : a.length = b.length := by
  induction h with
  | nil => rfl
  | cons _ _ ih => simp [ih]
/-- numbers changed, rounds and parts, leave and again: the same nesting -/
def sameSh : Ln → Ln → Prop
  | .round _, .round _ => True
  | .round _, .part _ => True
  | .part _, .round _ => True
  | .part _, .part _ => True
  | .leave _, .leave _ => True
  | .leave _, .again _ => True
  | .again _, .leave _ => True
  | .again _, .again _ => True
  | a, b => a = b
theorem sameSh.refl (l : Ln) : sameSh l l := by cases l <;> simp [sameSh]
end VL
namespace VL
open PySem PySem.Spec PyProof.Rows L2 VL
end VL
namespace VL
open PySem PySem.Spec PyProof.Rows L2 VL
/-- where a list goes -/
inductive Gs where
  | nil
  | leave (n : Int)
  | again (n : Int)
  | fin
  | on
abbrev Rs := Dds × Option Gs
def testD (d : Dds) (a : Opd) (s : Cs) (b : Opd) : Dds := ⟨d.mem, d.most, d.done ++ [.test (worthM d.mem a) s (worthM d.mem b) (holdsV s (worthM d.mem a) (worthM d.mem b))]⟩
inductive Opn where
  | sum (x : Cs) (a : Opd) (s : Cs) (b : Opd) (to : Nat)
  | test (a : Opd) (s : Cs) (b : Opd) (yes no : Nat)
  | stop
structure Cd where
  nx : Nat → Option Nat
  op : Nat → Opn
section
variable {c : Cd}
/-- in silence -/
def Sl (c : Cd) (p q : Nat) : Prop := ∃ n, itJ c.nx n p = some q
def Sl1 (c : Cd) (p q : Nat) : Prop := ∃ n, itJ c.nx (n + 1) p = some q
def Fol (c : Cd) (p q : Nat) : Prop := Sl c p q ∧ c.nx q = none
theorem Sl.refl {p : Nat} : Sl c p p := ⟨0, rfl⟩
theorem Sl.trans {p q r : Nat} (h : Sl c p q) (k : Sl c q r) : Sl c p r := by
  obtain ⟨n, h⟩ := h
  obtain ⟨m, k⟩ := k
  exact ⟨n + m, by rw [itJ_add h]; exact k⟩
theorem Sl1.sl {p q : Nat} (h : Sl1 c p q) : Sl c p q := let ⟨n, h⟩ := h; ⟨n + 1, h⟩
theorem Sl.then1 {p q r : Nat} (h : Sl c p q) (k : Sl1 c q r) : Sl1 c p r := by
  obtain ⟨n, h⟩ := h
  obtain ⟨m, k⟩ := k
  exact ⟨n + m, by rw [show n + m + 1 = n + (m + 1) by omega, itJ_add h]; exact k⟩
theorem it_stop {p q : Nat} (h : c.nx p = none) : ∀ {n : Nat}, itJ c.nx n p = some q → n = 0 ∧ q = p
  | 0, e => ⟨rfl, (Option.some.inj e).symm⟩
  | n + 1, e => by
    have e : (c.nx p).bind (itJ c.nx n) = some q := e
    rw [h] at e
    cases e
theorem Fol.one {p q r : Nat} (h : Fol c p q) (k : Fol c p r) : q = r := by
  obtain ⟨⟨n, h⟩, hq⟩ := h
  obtain ⟨⟨m, k⟩, hr⟩ := k
  rcases Nat.le_total n m with l | l
  · have e := itJ_add (m := m - n) h
    rw [show n + (m - n) = m by omega, k] at e
    exact (it_stop hq e.symm).2.symm
  · have e := itJ_add (m := n - m) k
    rw [show m + (n - m) = n by omega, h] at e
    exact (it_stop hr e.symm).2
theorem Fol.self {p : Nat} (h : c.nx p = none) : Fol c p p := ⟨.refl, h⟩
theorem Fol.back {p q r : Nat} (h : Sl c p q) (k : Fol c q r) : Fol c p r := ⟨h.trans k.1, k.2⟩
theorem Fol.on {p q r : Nat} (h : Sl c p q) (k : Fol c p r) : Fol c q r := by
  obtain ⟨n, h⟩ := h
  obtain ⟨⟨m, k⟩, hr⟩ := k
  rcases Nat.le_total n m with l | l
  · have e := itJ_add (m := m - n) h
    rw [show n + (m - n) = m by omega, k] at e
    exact ⟨⟨_, e.symm⟩, hr⟩
  · have e := itJ_add (m := n - m) k
    rw [show m + (n - m) = n by omega, h] at e
    rw [(it_stop hr e.symm).2]
    exact .self hr
/-- a run of code from deed to deed -/
inductive MG (c : Cd) : Nat → Nat → Mem → List Dd → Cs → Mem → Prop
  | ring {m p : Nat} {M : Mem} : (∀ q, ¬Fol c p q) → MG c m p M [] cOn M
  | fin {m p q : Nat} {M : Mem} : Fol c p q → c.op q = .stop → MG c m p M [] cEnd M
  | full {p q : Nat} {M : Mem} : Fol c p q → c.op q ≠ .stop → MG c 0 p M [] cOn M
  | fault {m p q : Nat} {x s : Cs} {a b : Opd} {t : Nat} {M : Mem} : Fol c p q → c.op q = .sum x a s b t → madeV s (worthM M a) (worthM M b) = none → MG c (m + 1) p M [] cFault M
  | sum {m p q t : Nat} {x s : Cs} {a b : Opd} {v : Int} {M M' : Mem} {ds : List Dd} {w : Cs} : Fol c p q → c.op q = .sum x a s b t → madeV s (worthM M a) (worthM M b) = some v →
      MG c m t (putM M x v) ds w M' → MG c (m + 1) p M (.sum x (worthM M a) s (worthM M b) v :: ds) w M'
  | test {m p q y n : Nat} {s : Cs} {a b : Opd} {M M' : Mem} {ds : List Dd} {w : Cs} : Fol c p q → c.op q = .test a s b y n →
      MG c m (if holdsV s (worthM M a) (worthM M b) = true then y else n) M ds w M' → MG c (m + 1) p M (.test (worthM M a) s (worthM M b) (holdsV s (worthM M a) (worthM M b)) :: ds) w M'
theorem MG.from {m p q : Nat} {M M1 : Mem} {ds : List Dd} {w : Cs} (s : Sl c p q) (h : MG c m q M ds w M1) : MG c m p M ds w M1 := by
  cases h with
  | ring h => exact .ring fun r k => h r (k.on s)
  | fin h h2 => exact .fin (.back s h) h2
  | full h h2 => exact .full (.back s h) h2
  | fault h h2 h3 => exact .fault (.back s h) h2 h3
  | sum h h2 h3 r => exact .sum (.back s h) h2 h3 r
  | test h h2 r => exact .test (.back s h) h2 r
theorem MG.one {m p : Nat} {M M1 M2 : Mem} {ds ds' : List Dd} {w w' : Cs} (h : MG c m p M ds w M1) (k : MG c m p M ds' w' M2) : ds = ds' ∧ w = w' ∧ M1 = M2 := by
  induction h generalizing ds' w' M2 with
  | ring h =>
    cases k with
    | ring _ => exact ⟨rfl, rfl, rfl⟩
    | fin e _ => exact (h _ e).elim
    | full e _ => exact (h _ e).elim
    | fault e _ _ => exact (h _ e).elim
    | sum e _ _ _ => exact (h _ e).elim
    | test e _ _ => exact (h _ e).elim
  | fin h h2 =>
    cases k with
    | ring e => exact (e _ h).elim
    | fin _ _ => exact ⟨rfl, rfl, rfl⟩
    | full e e2 => cases h.one e; exact (e2 h2).elim
    | fault e e2 _ => cases h.one e; rw [h2] at e2; cases e2
    | sum e e2 _ _ => cases h.one e; rw [h2] at e2; cases e2
    | test e e2 _ => cases h.one e; rw [h2] at e2; cases e2
  | full h h2 =>
    cases k with
    | ring e => exact (e _ h).elim
    | fin e e2 => cases h.one e; exact (h2 e2).elim
    | full _ _ => exact ⟨rfl, rfl, rfl⟩
  | fault h h2 h3 =>
    cases k with
    | ring e => exact (e _ h).elim
    | fin e e2 => cases h.one e; rw [h2] at e2; cases e2
    | fault _ _ _ => exact ⟨rfl, rfl, rfl⟩
    | sum e e2 e3 _ => cases h.one e; rw [h2] at e2; cases e2; rw [h3] at e3; cases e3
    | test e e2 _ => cases h.one e; rw [h2] at e2; cases e2
  | sum h h2 h3 _ ih =>
    cases k with
    | ring e => exact (e _ h).elim
    | fin e e2 => cases h.one e; rw [h2] at e2; cases e2
    | fault e e2 e3 => cases h.one e; rw [h2] at e2; cases e2; rw [h3] at e3; cases e3
    | sum e e2 e3 r =>
      cases h.one e; rw [h2] at e2; cases e2; rw [h3] at e3; cases e3
      obtain ⟨rfl, rfl, rfl⟩ := ih r
      exact ⟨rfl, rfl, rfl⟩
    | test e e2 _ => cases h.one e; rw [h2] at e2; cases e2
  | test h h2 _ ih =>
    cases k with
    | ring e => exact (e _ h).elim
    | fin e e2 => cases h.one e; rw [h2] at e2; cases e2
    | fault e e2 e3 => cases h.one e; rw [h2] at e2; cases e2
    | sum e e2 e3 r => cases h.one e; rw [h2] at e2; cases e2
    | test e e2 r =>
      cases h.one e; rw [h2] at e2; cases e2
      obtain ⟨rfl, rfl, rfl⟩ := ih r
      exact ⟨rfl, rfl, rfl⟩
mutual
def At (c : Cd) (lv ag : Int → Nat) : Nat → Fm → Nat → Prop
  | p, .sum x a s b, q => c.nx p = none ∧ ∃ t, c.op p = .sum x a s b t ∧ Sl c t q
  | p, .choice a s b Y Z e, q => c.nx p = none ∧ ∃ y n, c.op p = .test a s b y n ∧ AtL c lv ag y Y q ∧ (e = true → AtL c lv ag n Z q) ∧ (e = false → Sl c n q)
  | p, .round n B, q => Sl c p (ag n) ∧ (∃ r, AtL c lv ag (ag n) B r ∧ Sl1 c r (ag n)) ∧ Sl c (lv n) q
  | p, .part n B, q => (∃ b, Sl c p b ∧ AtL c lv ag b B q) ∧ Sl c (lv n) q
  | p, .leave n, _ => Sl1 c p (lv n)
  | p, .again n, _ => Sl1 c p (ag n)
  | p, .fin, _ => c.nx p = none ∧ c.op p = .stop
def AtL (c : Cd) (lv ag : Int → Nat) : Nat → List Fm → Nat → Prop
  | p, [], q => Sl c p q
  | p, f :: fs, q => ∃ r, At c lv ag p f r ∧ AtL c lv ag r fs q
end
def Dds.rem (d : Dds) : Nat := (d.most - (d.done.length : Int)).toNat
def To (c : Cd) (d d' : Dds) (p t : Nat) (ds : List Dd) : Prop :=
  (∀ ds2 w M2, MG c d'.rem t d'.mem ds2 w M2 → MG c d.rem p d.mem (ds ++ ds2) w M2) ∧ (ds = [] → d'.mem = d.mem ∧ Sl c p t)
def To1 (c : Cd) (d d' : Dds) (p t : Nat) (ds : List Dd) : Prop :=
  (∀ ds2 w M2, MG c d'.rem t d'.mem ds2 w M2 → MG c d.rem p d.mem (ds ++ ds2) w M2) ∧ (ds = [] → d'.mem = d.mem ∧ Sl1 c p t)
def Out (c : Cd) (lv ag : Int → Nat) (d d' : Dds) (p q : Nat) (ds : List Dd) : Option Gs → Prop
  | none => MG c d.rem p d.mem ds cFault d'.mem
  | some .on => MG c d.rem p d.mem ds cOn d'.mem
  | some .fin => MG c d.rem p d.mem ds cEnd d'.mem
  | some .nil => To c d d' p q ds
  | some (.leave n) => To1 c d d' p (lv n) ds
  | some (.again n) => To1 c d d' p (ag n) ds
structure Grow (d d' : Dds) (ds : List Dd) : Prop where
  done : d'.done = d.done ++ ds
  most : d'.most = d.most
  fit : ds = [] ∨ ((d.done ++ ds).length : Int) ≤ d.most
theorem Grow.refl (d : Dds) : Grow d d [] := ⟨by simp, rfl, .inl rfl⟩
theorem Grow.trans {d1 d2 d3 : Dds} {a b : List Dd} (h : Grow d1 d2 a) (k : Grow d2 d3 b) : Grow d1 d3 (a ++ b) where
  done := by rw [k.done, h.done, List.append_assoc]
  most := k.most.trans h.most
  fit := by
    rcases k.fit with e | f
    · subst e
      rw [List.append_nil]
      exact h.fit
    · right
      rw [h.done, h.most, List.append_assoc] at f
      exact f
theorem Grow.rem {d d' : Dds} {ds : List Dd} (h : Grow d d' ds) : d'.rem + ds.length = d.rem := by
  unfold Dds.rem
  rw [h.most, h.done]
  rcases h.fit with e | f
  · subst e; simp
  · simp at f ⊢; omega
def Simd (c : Cd) (lv ag : Int → Nat) (d : Dds) (p q : Nat) (r : Rs) : Prop := ∃ ds, Grow d r.1 ds ∧ Out c lv ag d r.1 p q ds r.2
theorem To.trans {d1 d2 d3 : Dds} {p q r : Nat} {a b : List Dd} (h : To c d1 d2 p q a) (k : To c d2 d3 q r b) : To c d1 d3 p r (a ++ b) :=
  ⟨fun ds2 w M2 g => by rw [List.append_assoc]; exact h.1 _ _ _ (k.1 _ _ _ g), fun e => by
    obtain ⟨rfl, rfl⟩ := List.append_eq_nil_iff.mp e
    exact ⟨(k.2 rfl).1.trans (h.2 rfl).1, (h.2 rfl).2.trans (k.2 rfl).2⟩⟩
theorem To.trans1 {d1 d2 d3 : Dds} {p q r : Nat} {a b : List Dd} (h : To c d1 d2 p q a) (k : To1 c d2 d3 q r b) : To1 c d1 d3 p r (a ++ b) :=
  ⟨fun ds2 w M2 g => by rw [List.append_assoc]; exact h.1 _ _ _ (k.1 _ _ _ g), fun e => by
    obtain ⟨rfl, rfl⟩ := List.append_eq_nil_iff.mp e
    exact ⟨(k.2 rfl).1.trans (h.2 rfl).1, (h.2 rfl).2.then1 (k.2 rfl).2⟩⟩
theorem To.sl {d : Dds} {p q : Nat} (h : Sl c p q) : To c d d p q [] := ⟨fun _ _ _ g => g.from h, fun _ => ⟨rfl, h⟩⟩
theorem To1.sl {d : Dds} {p q : Nat} (h : Sl1 c p q) : To1 c d d p q [] := ⟨fun _ _ _ g => g.from h.sl, fun _ => ⟨rfl, h⟩⟩
section
variable {lv ag : Int → Nat}
theorem Simd.pre {d1 d2 : Dds} {p q z : Nat} {r : Rs} {a : List Dd} (g : Grow d1 d2 a) (h : To c d1 d2 p q a) (k : Simd c lv ag d2 q z r) : Simd c lv ag d1 p z r := by
  obtain ⟨ds, g2, o⟩ := k
  refine ⟨a ++ ds, g.trans g2, ?_⟩
  obtain ⟨d3, e⟩ := r
  cases e with
  | none => exact h.1 _ _ _ o
  | some e =>
    cases e with
    | on => exact h.1 _ _ _ o
    | fin => exact h.1 _ _ _ o
    | nil => exact h.trans o
    | leave n => exact h.trans1 o
    | again n => exact h.trans1 o
end
end
end VL
namespace VL
open PySem PySem.Spec PyProof.Rows L2 VL
abbrev cHome : Cs := [104, 111, 109, 101]
/-- marks: what stands where -/
abbrev Mks := Cs → Int → Option Nat
def Mks.put (μ : Mks) (c : Cs) (i : Int) (v : Nat) : Mks := fun c' i' => if c' = c ∧ i' = i then some v else μ c' i'
def Mks.v (μ : Mks) (c : Cs) (i : Int) : Nat := (μ c i).getD 0
theorem Mks.v_of {μ : Mks} {c : Cs} {i : Int} {n : Nat} (h : μ c i = some n) : μ.v c i = n := by unfold Mks.v; rw [h]; rfl
theorem Mks.put_self {μ : Mks} {c : Cs} {i : Int} {v : Nat} : μ.put c i v c i = some v := if_pos ⟨rfl, rfl⟩
theorem Mks.put_ne {μ : Mks} {c c' : Cs} {i i' : Int} {v : Nat} (h : ¬(c' = c ∧ i' = i)) : μ.put c i v c' i' = μ c' i' := if_neg h
end VL
namespace VL
open PySem PySem.Spec PyProof.Rows L2 VL
def CtxW (L : List Ln) (μ : Mks) (W : List Int) : Prop := ∀ n ∈ W, ∃ p q, μ cHome n = some p ∧ μ cDone (p : Int) = some q ∧ p < L.length ∧ q < L.length
theorem CtxW.snoc {L : List Ln} {μ : Mks} {W : List Int} (h : CtxW L μ W) {n : Int} {p q : Nat} (h1 : μ cHome n = some p) (h2 : μ cDone (p : Int) = some q) (h3 : p < L.length) (h4 : q < L.length) : CtxW L μ (W ++ [n]) := fun m hm => by
  rcases List.mem_append.mp hm with hm | hm
  · exact h m hm
  · rw [List.mem_singleton.mp hm]; exact ⟨p, q, h1, h2, h3, h4⟩
end VL
namespace VL
open PySem PySem.Spec PyProof.Rows L2 VL
def gsD : Gs → D
  | .nil => .non
  | .leave n => .tup [.str cLeave, .int n]
  | .again n => .tup [.str cAgain, .int n]
  | .fin => .tup [.str cEnd]
  | .on => .tup [.str cOn]
/-- small enough -/
structure SOk (d : Dds) : Prop where
  mem : MemB (61 + d.done.length) d.mem
  few : d.mem.length ≤ 10 + d.done.length
  done : d.done.length ≤ 180
  most : d.most ≤ 180
/-- a line whose numbers are bounded -/
def LnB : Ln → Prop
  | .sum _ a _ b => OpB 61 a ∧ OpB 61 b
  | _ => True
theorem LnOk.b {l : Ln} (h : LnOk l) : LnB l := by
  cases l with
  | sum x a s b => exact ⟨opd_bd h.2.1, opd_bd h.2.2.2⟩
  | _ => trivial
end VL
namespace VL
open PySem PySem.Spec PyProof.Rows L2 VL
section
variable {X : Cv}
/-- name[k] = e, k any expression -/
def vSetN (i : Nat) (te : VTE) (tk : VTE) : VTS := fun N ε => te N.rx ε fun d ε1 => (∃ d0, ε1[i]? = some (some d0)) ∧ tk N.rx ε1 fun k ε2 => ∃ d0 c', ε2[i]? = some (some d0) ∧ putD d0 k d = some c' ∧ N.nx (ε2.set i (some c'))
theorem vs_setN {o ie e : Expr} {i : Nat} {te tk : VTE} {pos tpos : Pos} {k : Nat} (hr : Room k X.A) (he : VE X e te) (hp : VP X o i (vpName i)) (hk : VE X ie tk)
    (hsw : swapsWithSole [.Subscript o ie tpos] e pos.line X.env = pure false := by rfl) (hw : swappedStores [.Subscript o ie tpos] e X.env = pure none := by rfl)
    (h1 : (assignEach [.Subscript o ie tpos] X.env).map (·.2) = [assign (.Subscript o ie tpos) X.env] := by rfl)
    (ha : ∀ v, assign (.Subscript o ie tpos) X.env v = (do
      let ov ← holding [v] (eval o X.env)
      let iv ← holding [v, ov] (eval ie X.env)
      standAt tpos
      holding [v, ov, iv] (setItem ov iv v)
      release [v, ov, iv] []) := by intro _; rfl) : VS X (.Assign [.Subscript o ie tpos] e pos) (vSetN i te tk) := by
  obtain ⟨te', e1, e2⟩ := he.ex
  obtain ⟨tp', p1, p2⟩ := hp.ex
  obtain ⟨tk', k1, k2⟩ := hk.ex
  refine ⟨fun W => tAsg (te' W) (gSub (tp' W) (tk' W) rSetAny), fun W tk => ps_asg (e1 W tk) (pg_sub (p1 W tk) (k1 W tk) (pset_any (by have := hr.units; omega)) ha) hsw hw h1, fun b σ H ε T Tv W N E I q l x => ?_⟩
  refine e2 b σ H ε T Tv W N.rx _ _ I q (fun d v ε1 H1 I1 q1 => ?_) x
  have x1 : XL X.K b.1 (T ++ [d]) (Tv ++ [v]) W N.rx := x.more I.lenT rfl
  obtain ⟨q0, q1⟩ := q1
  refine p2 b σ H1 ε1 (T ++ [d]) (Tv ++ [v]) W N.rx (fun p => p = [] ∧ tk N.rx ε1 fun k ε2 => ∃ d0 c', ε2[i]? = some (some d0) ∧ putD d0 k d = some c' ∧ N.nx (ε2.set i (some c'))) _ I1 ⟨q0, rfl, q1⟩ (fun p d0 c v0 vc H2 s2 I2 ei g hs at_ q2 => ?_) x1
  obtain ⟨rfl, q2⟩ := q2
  cases at_
  refine k2 b σ H2 ε1 (T ++ [d]) (Tv ++ [v]) W N.rx _ _ I2 q2 (fun kd kv ε2 H3 I3 q3 => ?_) x1
  obtain ⟨d0', c', ei2, hm, q3⟩ := q3
  refine put_run (p := []) (by simpa only [List.append_assoc, List.cons_append, List.nil_append] using I3) I.lenT ei2 (getP_nil d0') hs .nil hm fun H' J => l.nx σ H' _ J (by rw [setP_nilE]; exact q3)
end
end VL
namespace VL
open PySem PySem.Spec PyProof.Rows L2 VL
def RunPre (d : Dds) (L : List Ln) : Prop := SOk d ∧ d.rem < 200 ∧ ∀ l ∈ L, LnB l
/-- told by what it runs to -/
def RsOut (o : Rs) (f : Dds → List D) (A : D → List D → Prop) (B : Value → D → List D → Prop) : Prop := match o with
  | (d', some g) => A (gsD g) (f d')
  | (d', none) => B (.type "ByNought") .non (f d')
theorem RsOut.mono {o : Rs} {f : Dds → List D} {A A' : D → List D → Prop} {B B' : Value → D → List D → Prop} (hA : ∀ r l, A r l → A' r l) (hB : ∀ c r l, B c r l → B' c r l) (q : RsOut o f A B) : RsOut o f A' B' := by
  obtain ⟨d', g⟩ := o
  cases g with
  | none => exact hB _ _ _ q
  | some g => exact hA _ _ q
theorem RsOut.of {o : Rs} {f : Dds → List D} {A : D → List D → Prop} {B : Value → D → List D → Prop} (q1 : ∀ d' g, o = (d', some g) → A (gsD g) (f d')) (q2 : ∀ d', o = (d', none) → B (.type "ByNought") .non (f d')) : RsOut o f A B := by
  obtain ⟨d', g⟩ := o
  cases g with
  | none => exact q2 d' rfl
  | some g => exact q1 d' g rfl
theorem RsOut.yes {o : Rs} {f : Dds → List D} {A : D → List D → Prop} {B : Value → D → List D → Prop} (q : RsOut o f A B) {d' : Dds} {g : Gs} (e : o = (d', some g)) : A (gsD g) (f d') := by
  subst e
  exact q
theorem RsOut.no {o : Rs} {f : Dds → List D} {A : D → List D → Prop} {B : Value → D → List D → Prop} (q : RsOut o f A B) {d' : Dds} (e : o = (d', none)) : B (.type "ByNought") .non (f d') := by
  subst e
  exact q
theorem RunPre.mono {d : Dds} {L M : List Ln} (h : RunPre d L) (s : ∀ l ∈ M, l ∈ L) : RunPre d M := ⟨h.1, h.2.1, fun l hl => h.2.2 l (s l hl)⟩
theorem RunPre.on {d d' : Dds} {L M : List Ln} {ds : List Dd} (h : RunPre d L) (g : Grow d d' ds) (o : SOk d') (s : ∀ l ∈ M, l ∈ L) : RunPre d' M := ⟨o, by have := g.rem; have := h.2.1; omega, fun l hl => h.2.2 l (s l hl)⟩
end VL
namespace VL
open PySem PySem.Spec PyProof.Rows L2 VL
theorem kIx_get {α : Type} [DecidableEq α] : ∀ {ks : List α} {k : α} {j : Nat}, kIx ks k = some j → ks[j]? = some k
  | [], _, _, h => by cases h
  | a :: ks, k, j, h => by
    unfold kIx at h
    split at h
    · next e => cases h; rw [e]; rfl
    · cases e : kIx ks k with
      | none => rw [e] at h; cases h
      | some i =>
        rw [e] at h
        cases h
        show ks[i]? = some k
        exact kIx_get e
theorem kIx_app {α : Type} [DecidableEq α] : ∀ (ks : List α) (k k' : α), kIx (ks ++ [k]) k' = match kIx ks k' with | some j => some j | none => if k = k' then some ks.length else none
  | [], k, k' => by
    show (if k = k' then some 0 else (kIx [] k').map (· + 1)) = if k = k' then some 0 else none
    split <;> rfl
  | a :: ks, k, k' => by
    show (if a = k' then some 0 else (kIx (ks ++ [k]) k').map (· + 1)) = match (if a = k' then some 0 else (kIx ks k').map (· + 1)) with | some j => some j | none => if k = k' then some (ks.length + 1) else none
    by_cases h : a = k'
    · rw [if_pos h, if_pos h]
    · rw [if_neg h, if_neg h, kIx_app ks k k']
      cases kIx ks k' with
      | some j => rfl
      | none =>
        by_cases g : k = k'
        · rw [if_pos g, if_pos g]; rfl
        · rw [if_neg g, if_neg g]; rfl
def keyCI (c : Cs) (i : Int) : List Kc := [.inr c, .inl i]
theorem keyCI_inj {c c' : Cs} {i i' : Int} (h : keyCI c i = keyCI c' i') : c = c' ∧ i = i' := by
  unfold keyCI at h
  simp at h
  exact h
structure RepM (μ : Mks) (ks : List (List Kc)) (js : List Nat) : Prop where
  len : ks.length = js.length
  at_ : ∀ c i, ((kIx ks (keyCI c i)).bind fun j => js[j]?) = μ c i
def mksD (m : Bool) (ks : List (List Kc)) (js : List Nat) : D := .dT m ks (natsD js)
theorem RepM.nil : RepM (fun _ _ => none) [] [] := ⟨rfl, fun _ _ => rfl⟩
theorem key_of (c : Cs) (i : Int) : keyT (.tup [.str c, .int i]) = some (keyCI c i) := rfl
theorem mks_put {μ : Mks} {ks : List (List Kc)} {js : List Nat} (h : RepM μ ks js) (hl : js.length < 1000000) {c : Cs} {i : Int} {v : Nat} :
    ∃ ks' js', putD (mksD true ks js) (.tup [.str c, .int i]) (.int (v : Int)) = some (mksD true ks' js') ∧ RepM (μ.put c i v) ks' js' ∧ js'.length ≤ js.length + 1 := by
  have e : putD (mksD true ks js) (.tup [.str c, .int i]) (.int (v : Int)) = some (match kIx ks (keyCI c i) with | some j => D.dT true ks ((natsD js).set j (D.int (v : Int))) | none => .dT true (ks ++ [keyCI c i]) (natsD js ++ [D.int (v : Int)])) := by
    show (if (natsD js).length < 1000000 then (keyT (.tup [.str c, .int i])).map (fun k => match kIx ks k with | some j => D.dT true ks ((natsD js).set j (D.int (v : Int))) | none => .dT true (ks ++ [k]) (natsD js ++ [D.int (v : Int)])) else none) = _
    rw [if_pos (by rw [natsD_len]; exact hl), key_of]
    rfl
  rw [e]
  cases hk : kIx ks (keyCI c i) with
  | some j =>
    have hj := kIx_lt hk
    refine ⟨ks, js.set j v, ?_, ⟨by rw [List.length_set]; exact h.len, fun c' i' => ?_⟩, by rw [List.length_set]; omega⟩
    · show some (D.dT true ks ((natsD js).set j (D.int (v : Int)))) = some (.dT true ks (natsD (js.set j v)))
      unfold natsD
      rw [List.map_set]
    · by_cases g : c' = c ∧ i' = i
      · obtain ⟨rfl, rfl⟩ := g
        rw [Mks.put_self, hk]
        show (js.set j v)[j]? = _
        rw [List.getElem?_set_self (by rw [← h.len]; exact hj)]
      · rw [Mks.put_ne g, ← h.at_ c' i']
        cases hk' : kIx ks (keyCI c' i') with
        | none => rfl
        | some j' =>
          show (js.set j v)[j']? = js[j']?
          rw [List.getElem?_set_ne]
          intro z
          subst z
          have := kIx_get hk
          rw [kIx_get hk'] at this
          exact g (keyCI_inj (Option.some.inj this))
  | none =>
    refine ⟨ks ++ [keyCI c i], js ++ [v], ?_, ⟨by simp [h.len], fun c' i' => ?_⟩, by simp⟩
    · show some (D.dT true (ks ++ [keyCI c i]) (natsD js ++ [D.int (v : Int)])) = some (.dT true (ks ++ [keyCI c i]) (natsD (js ++ [v])))
      unfold natsD
      rw [List.map_append]
      rfl
    · rw [kIx_app]
      by_cases g : c' = c ∧ i' = i
      · obtain ⟨rfl, rfl⟩ := g
        rw [Mks.put_self, hk]
        show ((if keyCI c' i' = keyCI c' i' then some ks.length else none : Option Nat).bind fun j => (js ++ [v])[j]?) = _
        rw [if_pos rfl, h.len]
        show (js ++ [v])[js.length]? = _
        simp
      · rw [Mks.put_ne g, ← h.at_ c' i']
        cases hk' : kIx ks (keyCI c' i') with
        | none =>
          show ((if keyCI c i = keyCI c' i' then some ks.length else none : Option Nat).bind fun j => (js ++ [v])[j]?) = none
          rw [if_neg (fun z => g (by obtain ⟨a, b⟩ := keyCI_inj z; exact ⟨a.symm, b.symm⟩))]
          rfl
        | some j' =>
          have hj := kIx_lt hk'
          show (js ++ [v])[j']? = js[j']?
          rw [List.getElem?_append_left (by rw [← h.len]; exact hj)]
theorem mks_ix {μ : Mks} {ks : List (List Kc)} {js : List Nat} (h : RepM μ ks js) {m : Bool} {c : Cs} {i : Int} {v : Nat} (e : μ c i = some v) {P : D → Prop} (q : P (.int (v : Int))) : ∃ d, ixD (mksD m ks js) (.tup [.str c, .int i]) = some d ∧ isFz d = true ∧ P d := by
  refine ⟨.int (v : Int), ?_, rfl, q⟩
  show ((keyT (.tup [.str c, .int i])).bind fun k => (kIx ks k).bind fun j => (natsD js)[j]?) = _
  rw [key_of]
  have a := h.at_ c i
  rw [e] at a
  show ((kIx ks (keyCI c i)).bind fun j => (natsD js)[j]?) = _
  cases hk : kIx ks (keyCI c i) with
  | none => rw [hk] at a; cases a
  | some j =>
    rw [hk] at a
    have a : js[j]? = some v := a
    show (natsD js)[j]? = _
    unfold natsD
    rw [List.getElem?_map, a]
    rfl
theorem mks_mem {μ : Mks} {ks : List (List Kc)} {js : List Nat} (h : RepM μ ks js) {m : Bool} {c : Cs} {i : Int} {P : Bool → Prop} (q : P (μ c i).isSome) : ∃ r, memD (.tup [.str c, .int i]) (mksD m ks js) = some r ∧ P r := by
  refine ⟨_, ?_, q⟩
  show (keyT (.tup [.str c, .int i])).map (fun k => (kIx ks k).isSome) = _
  rw [key_of, ← h.at_ c i]
  show some (kIx ks (keyCI c i)).isSome = _
  congr 1
  cases hk : kIx ks (keyCI c i) with
  | none => rfl
  | some j =>
    have hj := kIx_lt hk
    show true = (js[j]?).isSome
    rw [List.getElem?_eq_getElem (by rw [← h.len]; exact hj)]
    rfl
theorem mks_fz {ks : List (List Kc)} {js : List Nat} : isFz (mksD false ks js) = true := by
  show (!false && isFzL (natsD js)) = true
  rw [natsD_fz]
  rfl
theorem mks_frz {m : Bool} {ks : List (List Kc)} {js : List Nat} : frz (mksD m ks js) = mksD false ks js := by
  show D.dT false ks (frzL (natsD js)) = _
  rw [natsD_frz]
  rfl
end VL
namespace VL
open PySem PySem.Spec PyProof.Rows L2 VL
/-- nothing else is changed -/
structure FrM (μ μ' : Mks) (p q : Nat) (hs : List Int) : Prop where
  pos : ∀ c, c ≠ cHome → ∀ k : Nat, (k < p ∨ q ≤ k) → μ' c (k : Int) = μ c (k : Int)
  hm : ∀ n, n ∉ hs → μ' cHome n = μ cHome n
theorem FrM.refl {μ : Mks} {p q : Nat} {hs : List Int} : FrM μ μ p q hs := ⟨fun _ _ _ _ => rfl, fun _ _ => rfl⟩
theorem FrM.trans {μ1 μ2 μ3 : Mks} {p q r s : Nat} {a b : List Int} (h : FrM μ1 μ2 p q a) (k : FrM μ2 μ3 r s b) {P Q : Nat} {hs : List Int} (h1 : P ≤ p) (h2 : q ≤ Q) (h3 : P ≤ r) (h4 : s ≤ Q) (h5 : ∀ n ∈ a, n ∈ hs) (h6 : ∀ n ∈ b, n ∈ hs) : FrM μ1 μ3 P Q hs :=
  ⟨fun c hc i hi => by rw [k.pos c hc i (by omega), h.pos c hc i (by omega)], fun n hn => by rw [k.hm n (fun z => hn (h6 n z)), h.hm n (fun z => hn (h5 n z))]⟩
theorem FrM.put {μ : Mks} {c : Cs} (hc : c ≠ cHome) {i v : Nat} : FrM μ (μ.put c (i : Int) v) i (i + 1) [] :=
  ⟨fun c' _ k hk => Mks.put_ne (fun z => by have := z.2; omega), fun n _ => Mks.put_ne (fun z => hc z.1.symm)⟩
end VL
namespace VL
open PySem PySem.Spec PyProof.Rows L2 VL
end VL
namespace VL
open PySem PySem.Spec PyProof.Rows L2 VL
def leC (a b : Cs) : Bool := !Spec.ltCps b a
theorem leC_anti : ∀ {a b : Cs}, leC a b = true → leC b a = true → a = b
  | [], [], _, _ => rfl
  | [], b :: t, h, k => by simp [leC, Spec.ltCps] at k
  | a :: r, [], h, k => by simp [leC, Spec.ltCps] at h
  | a :: r, b :: t, h, k => by
    simp only [leC, Spec.ltCps, Bool.not_eq_true', Bool.or_eq_false_iff, decide_eq_false_iff_not, Bool.and_eq_false_iff, beq_eq_false_iff_ne] at h k
    have e : a = b := by omega
    subst e
    have h2 := h.2.resolve_left (fun z => z rfl)
    have k2 := k.2.resolve_left (fun z => z rfl)
    rw [leC_anti (a := r) (b := t) (by simp [leC, h2]) (by simp [leC, k2])]
theorem leC_tot : ∀ a b : Cs, leC a b = true ∨ leC b a = true
  | [], [] => .inl rfl
  | [], _ :: _ => .inl rfl
  | _ :: _, [] => .inr rfl
  | a :: r, b :: t => by
    simp only [leC, Spec.ltCps, Bool.not_eq_true', Bool.or_eq_false_iff, decide_eq_false_iff_not, Bool.and_eq_false_iff, beq_eq_false_iff_ne]
    rcases Nat.lt_trichotomy a b with h | h | h
    · exact .inl ⟨by omega, .inl (by omega)⟩
    · subst h
      rcases leC_tot r t with k | k
      · exact .inl ⟨by omega, .inr (by simpa [leC] using k)⟩
      · exact .inr ⟨by omega, .inr (by simpa [leC] using k)⟩
    · exact .inr ⟨by omega, .inl (by omega)⟩
theorem leC_trans : ∀ {a b c : Cs}, leC a b = true → leC b c = true → leC a c = true
  | [], _, [], _, _ => rfl
  | [], _, _ :: _, _, _ => rfl
  | _ :: _, [], _, h, _ => by simp [leC, Spec.ltCps] at h
  | _ :: _, _ :: _, [], _, h => by simp [leC, Spec.ltCps] at h
  | a :: r, b :: t, c :: u, h, k => by
    simp only [leC, Spec.ltCps, Bool.not_eq_true', Bool.or_eq_false_iff, decide_eq_false_iff_not, Bool.and_eq_false_iff, beq_eq_false_iff_ne] at h k ⊢
    refine ⟨by omega, ?_⟩
    by_cases e : c = a
    · subst e
      have e2 : b = c := by omega
      subst e2
      have h2 := h.2.resolve_left (fun z => z rfl)
      have k2 := k.2.resolve_left (fun z => z rfl)
      have := leC_trans (a := r) (b := t) (c := u) (by simp [leC, h2]) (by simp [leC, k2])
      exact .inr (by simpa [leC] using this)
    · exact .inl e
def sortK (ks : List Cs) : List Cs := ks.mergeSort leC
theorem sortK_perm (ks : List Cs) : (sortK ks).Perm ks := List.mergeSort_perm ks leC
theorem sortK_pw (ks : List Cs) : (sortK ks).Pairwise fun a b => leC a b = true := List.pairwise_mergeSort (le := leC) (fun _ _ _ h k => leC_trans h k) (fun a b => by rw [Bool.or_eq_true]; exact leC_tot a b) ks
theorem sortK_mem {ks : List Cs} {k : Cs} : k ∈ sortK ks ↔ k ∈ ks := (sortK_perm ks).mem_iff
theorem perm_pw_eq : ∀ {xs ys : List Cs}, xs.Perm ys → xs.Pairwise (fun a b => leC a b = true) → ys.Pairwise (fun a b => leC a b = true) → xs = ys
  | [], ys, h, _, _ => h.nil_eq
  | x :: xs, [], h, _, _ => (h.symm.nil_eq).symm ▸ rfl
  | x :: xs, y :: ys, h, h1, h2 => by
    obtain ⟨a1, a2⟩ := List.pairwise_cons.mp h1
    obtain ⟨b1, b2⟩ := List.pairwise_cons.mp h2
    have e : x = y := by
      have m1 := h.mem_iff.mp (List.mem_cons_self (a := x) (l := xs))
      have m2 := h.mem_iff.mpr (List.mem_cons_self (a := y) (l := ys))
      rcases List.mem_cons.mp m1 with e | m1
      · exact e
      · rcases List.mem_cons.mp m2 with e | m2
        · exact e.symm
        · exact leC_anti (a1 y m2) (b1 x m1)
    subst e
    rw [perm_pw_eq (List.Perm.cons_inv h) a2 b2]
theorem rising_pw : ∀ (ys : List Str) (p : Str), risingS p ys = true → (p :: ys).Pairwise fun a b => leC a.cps.toList b.cps.toList = true
  | [], p, _ => List.pairwise_singleton _ _
  | x :: r, p, h => by
    unfold risingS at h
    rw [Bool.and_eq_true] at h
    have ih := rising_pw r x h.2
    refine List.pairwise_cons.mpr ⟨fun y hy => ?_, ih⟩
    rcases List.mem_cons.mp hy with rfl | hy
    · exact h.1
    · exact leC_trans h.1 ((List.pairwise_cons.mp ih).1 y hy)
theorem sortedS_pw {ys : List Str} (h : sortedS ys = true) : ys.Pairwise fun a b => leC a.cps.toList b.cps.toList = true := by
  cases ys with
  | nil => exact List.Pairwise.nil
  | cons x r => exact rising_pw r x h
theorem cps_toS (s : Cs) : (toS s).cps.toList = s := rfl
theorem sortedS_eq {ys : List Str} {ks : List Cs} (p : ys.Perm (ks.map toS)) (h : sortedS ys = true) : ys = (sortK ks).map toS := by
  have e : ys.map (fun y => y.cps.toList) = sortK ks := by
    refine perm_pw_eq (((p.map fun y => y.cps.toList).trans ?_).trans (sortK_perm ks).symm) (List.pairwise_map.mpr (sortedS_pw h)) (sortK_pw ks)
    rw [List.map_map]
    have : ks.map ((fun y : Str => y.cps.toList) ∘ toS) = ks := by
      conv => rhs; rw [← List.map_id ks]
      exact List.map_congr_left fun s _ => cps_toS s
    rw [this]
  rw [← e, List.map_map]
  conv => lhs; rw [← List.map_id ys]
  exact List.map_congr_left fun y _ => (toS_cps y).symm
/-- sorted(d), d with text keys -/
def sSortD : List D → (D → Prop) → Prop := fun ds Q => ∃ m ks ys, ∃ ns : List Cs, ds = [.dK m ks ys] ∧ isFzL ys = true ∧ ks = ns.map Sum.inr ∧ ns.length < 64 ∧ Q (.lst true (strsD (sortK ns)))
section
variable {K : PySem.W.Frag}
theorem strs_rp {G H : Hp} : ∀ ns : List Cs, RpL K G H (strsD ns) ((ns.map toS).map V.str) []
  | [] => ⟨rfl, rfl⟩
  | n :: ns => ⟨.str (toS n), (ns.map toS).map V.str, [], [], rfl, rfl, ⟨rfl, rfl⟩, strs_rp ns⟩
theorem kzip_fst : ∀ {ks : List Kc} {vs : List V}, ks.length = vs.length → (kzip ks vs).map (·.1) = ks.map kc
  | [], [], _ => rfl
  | k :: ks, v :: vs, h => by
    show kc k :: (kzip ks vs).map (·.1) = kc k :: ks.map kc
    rw [kzip_fst (by simpa using h)]
theorem opn_sortD : OpN K (fun xs H Q => ∃ (a : Addr) (kvs : List (Key × V)) (ks : List Str), xs = [.ref a] ∧ L2.Rd H a (.dK kvs) ∧ kvs.map (·.1) = ks.map Sum.inr ∧ ks.length < 64 ∧ ∀ ys p, ys.Perm ks → sortedS ys = true → H p = none → Q (.ref p) (upd H p (.lst (ys.map V.str)))) sSortD := OpN.mk fun G H ds vs F Q Q' hs r q k => by
  obtain ⟨m, ks, ys, ns, rfl, hf, rfl, hl, q⟩ := q
  obtain ⟨v, rfl, rx⟩ := r.one'
  have : ∃ a us, v = .ref a ∧ L2.Rd H a (.dK (kzip (ns.map Sum.inr) us)) ∧ (ns.map (Sum.inr : Cs → Kc)).length = ys.length ∧ RpL K G H ys us [] := by
    cases m with
    | false => obtain ⟨a, us, e, s, _, l, n, r⟩ := rx; exact ⟨a, us, e, hs.rd s, l, r⟩
    | true => obtain ⟨a, us, F', e, s, _, l, n, r⟩ := rx; have := r.fz hf; subst this; exact ⟨a, us, e, .inl s, l, r⟩
  obtain ⟨a, us, rfl, e, l, rl⟩ := this
  refine ⟨a, _, ns.map toS, rfl, e, ?_, by simpa using hl, fun zs p hp hso hn => ?_⟩
  · rw [kzip_fst (l.trans rl.len), List.map_map, List.map_map]
    rfl
  · rw [sortedS_eq hp hso]
    exact k _ _ _ (.lst (strs_rp _) hn) q
end
/-- a def whose last parameter, of the name y, is named by the asker -/
structure Fk (P : Program) (w : World) (K : PySem.W.Frag) (mg : Str → Option Value) (base : Heap) (x y : Str) (k n : Nat) (vsp : VSp) : Prop where
  ex : ∃ f fd ps, mg x = some (.ref f) ∧ PySem.W.keepIn K (.ref f) = true ∧ KBn K fd ps (n - 1) [y] (fun us ws => us ++ ws) (fun vs zs => vs ++ zs) ∧ FnOk P w K mg base (VL.CX P w) k f fd ps (Lift K n vsp)
/-- a def whose last parameter has a number as default and is named by some askers -/
structure Fdk (P : Program) (w : World) (K : PySem.W.Frag) (mg : Str → Option Value) (base : Heap) (x y : Str) (z : Int) (k n : Nat) (vsp : VSp) : Prop where
  ex : ∃ f fd ps, mg x = some (.ref f) ∧ PySem.W.keepIn K (.ref f) = true ∧ Binds K fd ps [] ∧ (∃ ds, Vals [.int z] ds ∧ Binds K fd ps ds) ∧ KBn K fd ps (n - 1) [y] (fun us ws => us ++ ws) (fun vs zs => vs ++ zs) ∧ FnOk P w K mg base (VL.CX P w) k f fd ps (Lift K n vsp)
theorem Fdk.d {P w K mg base x y z k n vsp} (F : Fdk P w K mg base x y z k n vsp) : Fd P w K mg base x z k n vsp := let ⟨f, fd, ps, a, b, c, d, _, e⟩ := F.ex; ⟨f, fd, ps, a, b, c, d, e⟩
theorem Fdk.k {P w K mg base x y z k n vsp} (F : Fdk P w K mg base x y z k n vsp) : Fk P w K mg base x y k n vsp := let ⟨f, fd, ps, a, b, _, _, c, e⟩ := F.ex; ⟨f, fd, ps, a, b, c, e⟩
section
variable {P : Program} {w : World} {K : PySem.W.Frag} {mg : Str → Option Value} {base : Heap} {x : Str} {st : Stmt} {N ps : List Str} {κ : List Bool} {k n : Nat} {vsp : VSp} {t : VTS}
theorem Fdk.make {z : Int} {y : Str} (hF : ∃ f fd, mg x = some (.ref f) ∧ FunD K x x (defArgs st) (defBody st) (defScope st) [.int z] [] f fd) (S : FnScope N ps (defScope st))
    (hb : ∀ {f fd}, FunD K x x (defArgs st) (defBody st) (defScope st) [.int z] [] f fd → (∃ ds, Vals [] ds ∧ Binds K fd ps ds) ∧ (∃ ds, Vals [.int z] ds ∧ Binds K fd ps ds) ∧ KBn K fd ps (n - 1) [y] (fun us ws => us ++ ws) (fun vs zs => vs ++ zs)) (hn : ps.length = n) (hN : n ≤ N.length)
    (hbody : ∀ (f : Addr) (cdv : Value) (A : Around) (outer : List Env) (s : Shared) (H : Hp) (E : XK), Room k (A.deeper (envOfC x (defScope st) s.heap.objs.size f cdv)) → VSs (bodyX P w K mg base N κ x (defScope st) f cdv A outer s H E) (defBody st) t)
    (mo : Mono vsp) (rd : Rd n κ N.length vsp t) : Fdk P w K mg base x y z (k + 1) n vsp := by
  obtain ⟨f, fd, h1, F⟩ := hF
  obtain ⟨⟨d0, v0, b0⟩, b1, b2⟩ := hb F
  cases v0
  exact ⟨f, fd, ps, h1, F.kp, b0, b1, b2, fn_ok F S hn hN (hbody f) mo rd⟩
end
end VL
namespace VL
open PySem PySem.Spec PyProof.Rows L2 VL
def osR (rs : List Rw) : List Nat := orderAt (glOf (rawOf rs)) (rawOf rs).length (comeTo rs 0)
theorem osR_ok {rs : List Rw} (R : RwOk rs) : OrdOk (glOf (rawOf rs)) (rawOf rs).length (comeTo rs 0) (osR rs) :=
  order_ok (by rw [rawOf_len]; exact come_lt R R.pos) fun x hx g hg => by
    obtain ⟨h1, _⟩ := raw_ok R
    unfold glOf at hg
    rw [List.getElem?_eq_getElem hx] at hg
    exact h1 _ (List.getElem_mem hx) g hg
theorem os_first {rs : List Rw} (R : RwOk rs) : comeTo rs 0 ∈ osR rs ∧ (osR rs).idxOf (comeTo rs 0) = 0 := by
  have h := (osR_ok R).head
  cases e : osR rs with
  | nil => rw [e] at h; cases h
  | cons a t =>
    rw [e] at h
    cases h
    exact ⟨List.mem_cons_self, by simp⟩
end VL
namespace VL
open PySem PySem.Spec PyProof.Rows L2 VL
structure KeysIn (nm : List Cs) (M : Mem) : Prop where
  nd : (M.map (·.1)).Nodup
  sub : ∀ s ∈ M.map (·.1), s ∈ nm
theorem nd_sub_len {α : Type} [DecidableEq α] : ∀ {xs ys : List α}, xs.Nodup → (∀ x ∈ xs, x ∈ ys) → xs.length ≤ ys.length
  | [], ys, _, _ => Nat.zero_le _
  | x :: xs, ys, nd, h => by
    obtain ⟨h1, h2⟩ := List.nodup_cons.mp nd
    have hx : x ∈ ys := h x List.mem_cons_self
    have := nd_sub_len (xs := xs) (ys := ys.erase x) h2 fun y hy => (List.mem_erase_of_ne (fun e => h1 (by rw [← e]; exact hy))).mpr (h y (List.mem_cons_of_mem _ hy))
    rw [List.length_erase_of_mem hx] at this
    have lp : 0 < ys.length := List.length_pos_of_mem hx
    rw [List.length_cons]
    omega
theorem KeysIn.len {nm : List Cs} {M : Mem} (h : KeysIn nm M) : M.length ≤ nm.length := by
  have := nd_sub_len h.nd h.sub
  simpa using this
theorem KeysIn.nil {nm : List Cs} : KeysIn nm [] := ⟨List.nodup_nil, fun _ h => nomatch h⟩
theorem putM_keys : ∀ {M : Mem} {s : Cs} {v : Int}, (putM M s v).map (·.1) = if s ∈ M.map (·.1) then M.map (·.1) else M.map (·.1) ++ [s]
  | [], s, v => rfl
  | (t, w) :: M, s, v => by
    unfold putM
    by_cases h : t = s
    · subst h; simp
    · rw [if_neg h, List.map_cons, putM_keys (M := M)]
      have e : s ∈ List.map (·.1) ((t, w) :: M) ↔ s ∈ M.map (·.1) := by
        rw [List.map_cons, List.mem_cons]
        exact ⟨fun h2 => h2.resolve_left (fun e => h e.symm), .inr⟩
      by_cases h2 : s ∈ M.map (·.1)
      · rw [if_pos h2, if_pos (e.mpr h2)]; rfl
      · rw [if_neg h2, if_neg (fun z => h2 (e.mp z))]; rfl
theorem KeysIn.put {nm : List Cs} {M : Mem} (h : KeysIn nm M) {s : Cs} (hs : s ∈ nm) (v : Int) : KeysIn nm (putM M s v) := by
  refine ⟨?_, fun t ht => ?_⟩
  · rw [putM_keys]
    split
    · exact h.nd
    · rename_i hn
      exact List.nodup_append.mpr ⟨h.nd, by simp, fun a ha b hb e => by rw [List.mem_singleton.mp hb] at e; exact hn (e ▸ ha)⟩
  · rw [putM_keys] at ht
    split at ht
    · exact h.sub t ht
    · rcases List.mem_append.mp ht with ht | ht
      · exact h.sub t ht
      · rw [List.mem_singleton.mp ht]; exact hs
end VL
namespace VL
open PySem PySem.Spec PyProof.Rows L2 VL
end VL
namespace VL
open PySem PySem.Spec PyProof.Rows L2 VL
abbrev cYes : Cs := [121, 101, 115]
/-- a row whose goals are told by keys -/
inductive Sr where
  | sum (x : Cs) (a : Opd) (s : Cs) (b : Opd)
  | test (a : Opd) (s : Cs) (b : Opd) (h : Nat)
  | jump (c : Cs) (i : Int)
  | fin
def DefS (S : List Sr) (μ : Mks) (k : Nat) : Prop := match S[k]? with
  | some (.jump c i) => ∃ q, μ c i = some q ∧ q < S.length
  | some (.test _ _ _ h) => ∃ q, μ cYes (h : Int) = some q ∧ q < S.length
  | _ => True
def CtxS (S : List Sr) (μ : Mks) (c : Cs) (W : List Int) : Prop := ∀ n ∈ W, ∃ q, μ c n = some q ∧ q < S.length
theorem CtxS.snoc {S : List Sr} {μ : Mks} {c : Cs} {W : List Int} (h : CtxS S μ c W) {n : Int} {q : Nat} (h1 : μ c n = some q) (h2 : q < S.length) : CtxS S μ c (W ++ [n]) := fun m hm => by
  rcases List.mem_append.mp hm with hm | hm
  · exact h m hm
  · rw [List.mem_singleton.mp hm]; exact ⟨q, h1, h2⟩
end VL
namespace VL
open PySem PySem.Spec PyProof.Rows L2 VL
/-- nothing else is changed -/
structure FrR (μ μ' : Mks) (p q : Nat) (hs : List Int) : Prop where
  pos : ∀ c, c ≠ cLeave → c ≠ cAgain → ∀ k : Nat, (k < p ∨ q ≤ k) → μ' c (k : Int) = μ c (k : Int)
  hm : ∀ c, (c = cLeave ∨ c = cAgain) → ∀ n, n ∉ hs → μ' c n = μ c n
theorem FrR.refl {μ : Mks} {p q : Nat} {hs : List Int} : FrR μ μ p q hs := ⟨fun _ _ _ _ _ => rfl, fun _ _ _ _ => rfl⟩
theorem FrR.trans {μ1 μ2 μ3 : Mks} {p q r s : Nat} {a b : List Int} (h : FrR μ1 μ2 p q a) (k : FrR μ2 μ3 r s b) {P Q : Nat} {hs : List Int} (h1 : P ≤ p) (h2 : q ≤ Q) (h3 : P ≤ r) (h4 : s ≤ Q) (h5 : ∀ n ∈ a, n ∈ hs) (h6 : ∀ n ∈ b, n ∈ hs) : FrR μ1 μ3 P Q hs where
  pos c c1 c2 n hn := (k.pos c c1 c2 n (by omega)).trans (h.pos c c1 c2 n (by omega))
  hm c hc n hn := (k.hm c hc n fun z => hn (h6 n z)).trans (h.hm c hc n fun z => hn (h5 n z))
theorem FrR.put {μ : Mks} {c : Cs} (h1 : c ≠ cLeave) (h2 : c ≠ cAgain) {i v : Nat} : FrR μ (μ.put c (i : Int) v) i (i + 1) [] where
  pos d d1 d2 n hn := Mks.put_ne fun z => by have := z.2; omega
  hm d hd n hn := Mks.put_ne fun z => by rcases hd with e | e <;> (rw [e] at z; first | exact h1 z.1.symm | exact h2 z.1.symm)
section
variable {S : List Sr} {μ : Mks}
theorem DefS.jump {k : Nat} {c : Cs} {i : Int} (d : DefS S μ k) (h : S[k]? = some (.jump c i)) : μ.v c i < S.length := by
  unfold DefS at d
  rw [h] at d
  obtain ⟨q, h1, h2⟩ := d
  rw [Mks.v_of h1]
  exact h2
theorem DefS.test {k : Nat} {a : Opd} {s : Cs} {b : Opd} {h0 : Nat} (d : DefS S μ k) (h : S[k]? = some (.test a s b h0)) : μ.v cYes (h0 : Int) < S.length := by
  unfold DefS at d
  rw [h] at d
  obtain ⟨q, h1, h2⟩ := d
  rw [Mks.v_of h1]
  exact h2
end
theorem MG.on {c : Cd} {m p q : Nat} {M M1 : Mem} {ds : List Dd} {w : Cs} (s : Sl c p q) (h : MG c m p M ds w M1) : MG c m q M ds w M1 := by
  cases h with
  | ring h => exact .ring fun r k => h r (.back s k)
  | fin h h2 => exact .fin (.on s h) h2
  | full h h2 => exact .full (.on s h) h2
  | fault h h2 h3 => exact .fault (.on s h) h2 h3
  | sum h h2 h3 h4 => exact .sum (.on s h) h2 h3 h4
  | test h h2 h3 => exact .test (.on s h) h2 h3
end VL
namespace VL
open PySem PySem.Spec PyProof.Rows L2 VL
theorem homes_round (k : Int) (B : List Fm) : homes (lnsF (.round k B)) = k :: homes (lnsL B) := by rw [lnsF]; show k :: homes (lnsL B ++ [.done]) = _; rw [homes_app]; simp [homes]
theorem homes_part (k : Int) (B : List Fm) : homes (lnsF (.part k B)) = k :: homes (lnsL B) := by rw [lnsF]; show k :: homes (lnsL B ++ [.done]) = _; rw [homes_app]; simp [homes]
end VL
namespace VL
open PySem PySem.Spec PyProof.Rows L2 VL
end VL
namespace VL
open PySem PySem.Spec PyProof.Rows L2 VL
/-- the signs of a number -/
def intC (i : Int) : Cs := (Str.ofString (toString i)).cps.toList
theorem intC_nat (n : Nat) : intC (n : Int) = TL.numL n := TL.tl_num n
theorem intC_neg (n : Nat) : intC (-((n + 1 : Nat) : Int)) = 45 :: TL.numL (n + 1) := by
  have e : toString (-((n + 1 : Nat) : Int)) = "-" ++ toString ((n + 1 : Nat) : Int) := rfl
  rw [← TL.tl_num]
  show (Str.ofString _).cps.toList = 45 :: (Str.ofString _).cps.toList
  rw [signs_ofString, signs_ofString, e, String.toList_append, List.map_append]
  rfl
def sStr : List D → (D → Prop) → Prop := fun ds Q => (∃ i : Int, ds = [.int i] ∧ i.natAbs.log2 < 1920 ∧ Q (.str (intC i))) ∨ ∃ s, ds = [.str s] ∧ Q (.str s)
theorem e_strS {s : Cs} {Q : D → Prop} : sStr [.str s] Q ↔ Q (.str s) := ⟨fun h => by rcases h with ⟨i, e, _⟩ | ⟨t, e, q⟩ <;> cases e; exact q, fun q => .inr ⟨s, rfl, q⟩⟩
/-- sep.join(texts) -/
def sJoin : List D → (D → Prop) → Prop := fun ds Q => ∃ a m ss, ds = [.str a, .lst m (strsD ss)] ∧ (ss.map (·.length)).sum + ss.length * a.length ≤ 16777216 ∧ Q (.str (TL.joinL a ss))
/-- text.split(sep) -/
def sSplit : List D → (D → Prop) → Prop := fun ds Q => ∃ a b, ds = [.str a, .str b] ∧ b ≠ [] ∧ b.all (· < 256) = true ∧ a.length < 1000000 ∧ Q (.lst true (strsD (TL.spl b 0 [] a)))
/-- text.partition(sep) -/
def partC (a b : Cs) : Cs × Cs × Cs := match TL.par b [] a with
  | some (p, q) => (p, b, q)
  | none => (a, [], [])
def sPart : List D → (D → Prop) → Prop := fun ds Q => ∃ a b, ds = [.str a, .str b] ∧ b ≠ [] ∧ a.length < 1000000 ∧ Q (.tup [.str (partC a b).1, .str (partC a b).2.1, .str (partC a b).2.2])
/-- text.startswith(start) -/
def sStarts : List D → (D → Prop) → Prop := fun ds Q => ∃ a b, ds = [.str a, .str b] ∧ Q (.bl (b.isPrefixOf a))
section
variable {a b : Cs} {m : Bool} {ss : List Cs} {Q : D → Prop}
theorem e_join : sJoin [.str a, .lst m (strsD ss)] Q ↔ (ss.map (·.length)).sum + ss.length * a.length ≤ 16777216 ∧ Q (.str (TL.joinL a ss)) := by
  refine ⟨fun ⟨_, _, _, e, h, q⟩ => ?_, fun ⟨h, q⟩ => ⟨_, _, _, rfl, h, q⟩⟩
  obtain ⟨e1, e2⟩ := List.cons.inj e
  cases e1
  have e3 := (List.map_inj_right (f := D.str) (fun _ _ h => D.str.inj h)).mp (D.lst.inj (List.cons.inj e2).1).2
  subst e3
  exact ⟨h, q⟩
theorem e_split : sSplit [.str a, .str b] Q ↔ b ≠ [] ∧ b.all (· < 256) = true ∧ a.length < 1000000 ∧ Q (.lst true (strsD (TL.spl b 0 [] a))) := ⟨fun ⟨_, _, e, h⟩ => by cases e; exact h, fun h => ⟨_, _, rfl, h⟩⟩
theorem e_part : sPart [.str a, .str b] Q ↔ b ≠ [] ∧ a.length < 1000000 ∧ Q (.tup [.str (partC a b).1, .str (partC a b).2.1, .str (partC a b).2.2]) := ⟨fun ⟨_, _, e, h⟩ => by cases e; exact h, fun h => ⟨_, _, rfl, h⟩⟩
theorem e_starts : sStarts [.str a, .str b] Q ↔ Q (.bl (b.isPrefixOf a)) := ⟨fun ⟨_, _, e, h⟩ => by cases e; exact h, fun h => ⟨_, _, rfl, h⟩⟩
end
end VL
namespace VL
open PySem PySem.Spec PyProof.Rows L2 VL
def sJoinA (a : Cs) : List D → (D → Prop) → Prop := fun ds Q => ∃ m ss, ds = [.lst m (strsD ss)] ∧ (ss.map (·.length)).sum + ss.length * a.length ≤ 16777216 ∧ Q (.str (TL.joinL a ss))
theorem e_joinA {a : Cs} {m : Bool} {ss : List Cs} {Q : D → Prop} : sJoinA a [.lst m (strsD ss)] Q ↔ (ss.map (·.length)).sum + ss.length * a.length ≤ 16777216 ∧ Q (.str (TL.joinL a ss)) := by
  refine ⟨fun ⟨_, _, e, h, q⟩ => ?_, fun ⟨h, q⟩ => ⟨_, _, rfl, h, q⟩⟩
  have e3 := (List.map_inj_right (f := D.str) (fun _ _ h => D.str.inj h)).mp (D.lst.inj (List.cons.inj e).1).2
  subst e3
  exact ⟨h, q⟩
end VL
namespace VL
open PySem PySem.Spec PyProof.Rows L2 VL
def sInG (neg : Bool) (ss : List Cs) : List D → (D → Prop) → Prop := fun ds Q => ∃ s, ds = [.str s] ∧ Q (.bl (if neg then !decide (s ∈ ss) else decide (s ∈ ss)))
theorem e_inG {neg : Bool} {s : Cs} {ss : List Cs} {Q : D → Prop} : sInG neg ss [.str s] Q ↔ Q (.bl (if neg then !decide (s ∈ ss) else decide (s ∈ ss))) := ⟨fun ⟨_, e, q⟩ => by cases e; exact q, fun q => ⟨_, rfl, q⟩⟩
end VL
namespace VL
open PySem PySem.Spec PyProof.Rows L2 VL
def opC : Opd → Cs
  | .inl i => intC i
  | .inr s => s
theorem name_free {s : Cs} (h : NameOk s) {c : Nat} (hc : isLd c = false) : c ∉ s := fun z => by
  have := h.1.2 c z
  rw [hc] at this
  cases this
theorem op_free {a : Opd} (h : OpdOk a) {c : Nat} (hc : isLd c = false) (hm : c ≠ 45) : c ∉ opC a := by
  cases a with
  | inr s => exact name_free h hc
  | inl i =>
    show c ∉ intC i
    have hf : c < 48 ∨ 57 < c := by
      unfold isLd at hc
      rw [Bool.or_eq_false_iff, decide_eq_false_iff_not] at hc
      omega
    rcases Int.lt_or_le i 0 with hi | hi
    · obtain ⟨n, rfl⟩ : ∃ n : Nat, i = -((n + 1 : Nat) : Int) := ⟨i.natAbs - 1, by omega⟩
      rw [intC_neg]
      intro z
      rcases List.mem_cons.mp z with e | z
      · exact hm e
      · exact TL.numL_free hf z
    · obtain ⟨n, rfl⟩ := Int.eq_ofNat_of_zero_le hi
      rw [intC_nat]
      exact TL.numL_free hf
theorem joinL_free {sep : Cs} {c : Nat} (hs : c ∉ sep) : ∀ {ws : List Cs}, (∀ w ∈ ws, c ∉ w) → c ∉ TL.joinL sep ws
  | [], _ => by simp [TL.joinL]
  | [w], h => h w (List.mem_singleton.mpr rfl)
  | w :: v :: ws, h => by
    show c ∉ w ++ (sep ++ TL.joinL sep (v :: ws))
    intro z
    rcases List.mem_append.mp z with z | z
    · exact h w List.mem_cons_self z
    · rcases List.mem_append.mp z with z | z
      · exact hs z
      · exact joinL_free hs (ws := v :: ws) (fun u hu => h u (List.mem_cons_of_mem _ hu)) z
end VL
namespace VL
open PySem PySem.Spec PyProof.Rows L2 VL
def vM1 (op : List D → (D → Prop) → Prop) (ra rb : Option Nat) (to te : VTE) : VTE := fun N ε Q => to N ε fun x ε1 => (∃ s, x = .str s) ∧ te N ε1 fun y ε2 => op [x, y] fun d => Q d (restore [ra, rb] [x, y] ε2)
end VL
namespace VL
open PySem PySem.Spec PyProof.Rows L2 VL
/-- for .. in zip(still, ours) -/
def vForZO (j i : Nat) (g : VTG) (body : VTS) : VTS := fun N ε => ∃ ts m xs, ε[j]? = some (some (.lst false ts)) ∧ ε[i]? = some (some (.lst m xs)) ∧ isFzL ts = true ∧ isFzL xs = true ∧
  vForL g body (zipD ts xs) { nx := fun ε' => N.nx (ε'.set i (some (.lst m xs))), rt := fun d ε' => N.rt d (ε'.set i (some (.lst m xs))), rx := N.rx } (ε.set i none)
section
variable {X : Cv}
/-- a block over a list of ours, that is ours behind it -/
def vLcO (i : Nat) (own : List Nat) (w : List D → List D) (g : VTG) (tt : VTT) (te : VTE) : VTE := fun _ ε Q => ∃ m xs, ε[i]? = some (some (.lst m xs)) ∧ isFzL xs = true ∧
  vLcL own g tt te (w xs) [] (pull own (ε.set i none)).2.2 fun acc ε' => Q (.lst true acc) ((restore (pull own (ε.set i none)).1 (pull own (ε.set i none)).2.1 ε').set i (some (.lst m xs)))
end
end VL
namespace VL
open PySem PySem.Spec PyProof.Rows L2 VL
theorem num_len4 {n : Nat} (h : n ≤ 9999) : (TL.numL n).length ≤ 4 := TL.numL_len (by decide) (by omega)
theorem opC_len {a : Opd} (h : OpdOk a) : (opC a).length ≤ 19 := by
  cases a with
  | inr s => have := h.2.1; show s.length ≤ 19; omega
  | inl i =>
    have h : i.natAbs < 1000000000000000000 := h
    show (intC i).length ≤ 19
    by_cases hi : i < 0
    · obtain ⟨n, rfl⟩ : ∃ n : Nat, i = -((n + 1 : Nat) : Int) := ⟨i.natAbs - 1, by omega⟩
      rw [intC_neg]
      have := TL.numL_len (n := n + 1) (k := 18) (by decide) (by omega)
      simp
      omega
    · obtain ⟨n, rfl⟩ := Int.eq_ofNat_of_zero_le (show 0 ≤ i by omega)
      rw [intC_nat]
      have := TL.numL_len (n := n) (k := 18) (by decide) (by omega)
      omega
theorem sign_len {s : Cs} (h : signOk s) : s.length ≤ 4 := by
  have h : s ∈ [[43], [45], [47], [114, 101, 115, 116], [38], [94]] := by simpa [signOk] using h
  exact (by decide : ∀ s ∈ ([[43], [45], [47], [114, 101, 115, 116], [38], [94]] : List Cs), s.length ≤ 4) s h
theorem test_len {s : Cs} (h : testOk s) : s.length ≤ 4 := by
  have h : s ∈ [[60], [61]] := by simpa [testOk] using h
  exact (by decide : ∀ s ∈ ([[60], [61]] : List Cs), s.length ≤ 4) s h
end VL
namespace VL
open PySem PySem.Spec PyProof.Rows L2 VL
mutual
/-- the numbers of rounds and parts, in the order of the text -/
def hmF : Fm → List Int
  | .choice _ _ _ Y Z e => hmL Y ++ (if e = true then hmL Z else [])
  | .round n B => n :: hmL B
  | .part n B => n :: hmL B
  | .sum _ _ _ _ => []
  | .leave _ => []
  | .again _ => []
  | .fin => []
def hmL : List Fm → List Int
  | [] => []
  | f :: fs => hmF f ++ hmL fs
end
/-- a word at the tail is none -/
def tl (lv : Bool) (n : Int) : Rs → Rs
  | (d, some (.leave m)) => if lv = true ∧ m = n then (d, some .nil) else (d, some (.leave m))
  | (d, some (.again m)) => if lv = false ∧ m = n then (d, some .nil) else (d, some (.again m))
  | r => r
/-- leaves of another -/
def rn (o m : Int) : Rs → Rs
  | (d, some (.leave n)) => (d, some (.leave (if n = o then m else n)))
  | r => r
mutual
def okF (W R : Int → Prop) : Fm → Prop
  | .leave n => W n
  | .again n => R n
  | .round n B => okL (fun k => k = n ∨ W k) (fun k => k = n ∨ R k) B
  | .part n B => okL (fun k => k = n ∨ W k) R B
  | .choice _ _ _ Y Z e => okL W R Y ∧ (if e = true then okL W R Z else True)
  | .sum _ _ _ _ => True
  | .fin => True
def okL (W R : Int → Prop) : List Fm → Prop
  | [] => True
  | f :: fs => okF W R f ∧ okL W R fs
end
mutual
theorem ok_monoF : ∀ (f : Fm) {W R W' R' : Int → Prop}, (∀ k, W k → W' k) → (∀ k, R k → R' k) → okF W R f → okF W' R' f
  | .leave n, W, R, W', R', hw, hr, h => by rw [okF] at h ⊢; exact hw n h
  | .again n, W, R, W', R', hw, hr, h => by rw [okF] at h ⊢; exact hr n h
  | .round n B, W, R, W', R', hw, hr, h => by
    rw [okF] at h ⊢
    exact ok_monoL B (fun k z => z.imp id (hw k)) (fun k z => z.imp id (hr k)) h
  | .part n B, W, R, W', R', hw, hr, h => by
    rw [okF] at h ⊢
    exact ok_monoL B (fun k z => z.imp id (hw k)) hr h
  | .choice a s b Y Z e, W, R, W', R', hw, hr, h => by
    rw [okF] at h ⊢
    refine ⟨ok_monoL Y hw hr h.1, ?_⟩
    cases e with
    | true => exact ok_monoL Z hw hr h.2
    | false => trivial
  | .sum x a s b, W, R, W', R', hw, hr, h => by rw [okF]; trivial
  | .fin, W, R, W', R', hw, hr, h => by rw [okF]; trivial
theorem ok_monoL : ∀ (F : List Fm) {W R W' R' : Int → Prop}, (∀ k, W k → W' k) → (∀ k, R k → R' k) → okL W R F → okL W' R' F
  | [], W, R, W', R', hw, hr, h => by rw [okL]; trivial
  | f :: fs, W, R, W', R', hw, hr, h => by
    rw [okL] at h ⊢
    exact ⟨ok_monoF f hw hr h.1, ok_monoL fs hw hr h.2⟩
end
end VL
namespace VL
open PySem PySem.Spec PyProof.Rows L2 PySem.Calls
section
variable {X : Cv}
/-- o.setdefault(n, m): n's number, or m as n's number -/
def vSetd (i : Nat) (t : VTP) (te : VTVs) : VTE := fun N ε Q => t N ε fun p => ∃ d0 ks ds, ε[i]? = some (some d0) ∧ getP d0 p = some (.dK true ks ds) ∧ te ε fun es => ∃ n m : Int, es = [.int n, .int m] ∧ ds.length < 1000000 ∧ isFzL ds = true ∧
  match kIx ks (.inl n) with
  | some j => ∃ z : Int, ds[j]? = some (.int z) ∧ Q (.int z) ε
  | none => Q (.int m) (ε.set i (some (setP d0 p (.dK true (ks ++ [.inl n]) (ds ++ [.int m])))))
end
end VL
namespace VL
open PySem PySem.Spec PyProof.Rows L2 VL
def vAddL (t1 t2 : VTE) : VTE := fun N ε Q => t1 N ε fun x ε1 => t2 N ε1 fun y ε2 => ∃ m xs ys, x = .lst m xs ∧ y = .lst true ys ∧ isFzL xs = true ∧ xs.length + ys.length < 1000000 ∧ Q (.lst true (xs ++ ys)) ε2
section
variable {X : Cv}
theorem ve_addL {e1 e2 : Expr} {t1 t2 : VTE} {pos : Pos} (h1 : VE X e1 t1) (h2 : VE X e2 t2) : VE X (.BinOp e1 .Add e2 pos) (vAddL t1 t2) := by
  obtain ⟨ta', tb', a1, a2, a3⟩ := two_args (vg_val h1) (vg_val h2)
  refine ⟨fun W => tOp (rAddA X.K) (ta' W) (tb' W), fun W tk => pe_op opr_add (a1 W tk) (a2 W tk), fun b σ H ε T Tv W N Q Q' I q k xl => ?_⟩
  refine a3 b σ H ε T Tv W N _ _ I q (fun x y v w ε2 H2 J _ _ z => ?_) xl
  obtain ⟨m, xs, ys, rfl, rfl, hz, hl, z⟩ := z
  have hT := I.lenT
  obtain ⟨G, F, Ft, J⟩ := J
  obtain ⟨F1, F2, rfl, r1, r2⟩ := J.temps.split2 hT
  obtain ⟨v', vs', A, B, e, rfl, rx, w', ws', A2, B2, e2, rfl, ry, rfl, rfl⟩ := r2
  cases e
  cases e2
  have hx : ∃ a us, v = .ref a ∧ SqL X.K H2 a us ∧ RpL X.K G H2 xs us [] := by
    cases m with
    | false => obtain ⟨a, us, e, s, _, r⟩ := rx; exact ⟨a, us, e, J.sub.sqL s, r⟩
    | true => obtain ⟨a, us, F', e, s, _, r⟩ := rx; have := r.fz hz; subst this; exact ⟨a, us, e, SqL.of s, r⟩
  obtain ⟨a, us, rfl, s1, rxs⟩ := hx
  obtain ⟨c, vs, F', rfl, hc, rfl, rys⟩ := ry
  have sb : ∀ g, g ∈ F ++ (F1 ++ F') → g ∈ F ++ (F1 ++ (A ++ ((c :: F') ++ []))) := fun g z => by
    simp only [List.mem_append, List.mem_cons, List.not_mem_nil, or_false] at z ⊢
    rcases z with z | z | z
    · exact .inl z
    · exact .inr (.inl z)
    · exact .inr (.inr (.inr (.inr z)))
  have nd : (F ++ (F1 ++ F')).Nodup := by
    have h1 : (F ++ (F1 ++ (A ++ ((c :: F') ++ [])))).Perm ((A ++ [c]) ++ (F ++ (F1 ++ F'))) := by
      apply List.perm_iff_count.mpr
      intro g
      simp only [List.count_append, List.count_cons, List.count_nil]
      omega
    exact (List.nodup_append.mp (h1.nodup_iff.mp J.nd)).2.1
  have I2 : SI X.K b.1 σ H2 ε2 (T ++ (xs ++ ys)) (Tv ++ (us ++ vs)) := ⟨G, F, F1 ++ F', J.s0, J.sub, J.slots, r1.append (by simpa using rxs.append rys), nd, fun g z => J.fr g (sb g z), fun g z => J.own g (sb g z), J.gn, J.keep, J.kept⟩
  refine .inr (.inr (.inl ⟨a, c, us, vs, rfl, rfl, s1, SqL.of hc, by rw [← rxs.len, ← rys.len]; exact Nat.le_of_lt (k1m hl), fun p hp => ?_⟩))
  exact k _ _ _ _ (SI.laid I2 hT hp (.lst (us ++ vs)) (d := .lst true (xs ++ ys)) fun G H' F e r => ⟨p, us ++ vs, F, rfl, e, rfl, r⟩) z
end
end VL
namespace VL
open PySem PySem.Spec PyProof.Rows L2 VL
section
variable {K : PySem.W.Frag} {G H : Hp}
theorem RpS.view (hs : Sub G H) : ∀ {ε : Ep} {σ : L2.St} {F : List Addr}, RpS K G H ε σ F → RpS K H H (ε.map (Option.map frz)) σ []
  | [], σ, F, h => ⟨h.1, rfl⟩
  | od :: ε, σ, F, h => by
    obtain ⟨ov, σ', F1, F2, rfl, rfl, r, rs⟩ := h
    refine ⟨ov, σ', [], [], rfl, rfl, ?_, rs.view hs⟩
    cases od with
    | none => rfl
    | some d =>
      obtain ⟨v, e, r⟩ := r
      exact ⟨v, e, r.view hs⟩
end
def vPeek (t : VTE) : VTE := fun _ ε Q => t noX (ε.map (Option.map frz)) fun d _ => ∃ ds, d = .lst true ds ∧ ds.all flatD = true ∧ Q (.lst true ds) ε
/-- seen as if all stood still -/
theorem SI.look {K : PySem.W.Frag} {b : Bs} {σ : L2.St} {H : Hp} {ε : Ep} {T : List D} {Tv : List V} (I : SI K b σ H ε T Tv) : SI K (callB H H []) σ H (ε.map (Option.map frz)) [] [] := by
  obtain ⟨G, F, Ft, J⟩ := I
  exact ⟨H, [], [], Sub.refl, Sub.refl, J.slots.view J.sub, ⟨rfl, rfl⟩, List.nodup_nil, (fun _ z => nomatch z), (fun _ z => nomatch z), (fun a o e => .inl e), (fun a o e _ => e), fun j v e => by simp [callB] at e⟩
end VL
namespace VL
open PySem PySem.Spec PyProof.Rows L2 VL
mutual
def gdF : Fm → Bool
  | .sum x a s b => Cs.good x && (a.good && (Cs.good s && b.good))
  | .choice a s b Y Z e => (a.good && (Cs.good s && b.good)) && (gdL Y && (if e = true then gdL Z else true))
  | .round _ B => gdL B
  | .part _ B => gdL B
  | .leave _ => true
  | .again _ => true
  | .fin => true
def gdL : List Fm → Bool
  | [] => true
  | f :: fs => gdF f && gdL fs
end
mutual
def nsF : Fm → Nat
  | .choice _ _ _ Y Z e => nsL Y + (if e = true then nsL Z else 0) + 1
  | .round _ B => nsL B + 1
  | .part _ B => nsL B + 1
  | .sum _ _ _ _ => 1
  | .leave _ => 1
  | .again _ => 1
  | .fin => 1
def nsL : List Fm → Nat
  | [] => 0
  | f :: fs => nsF f + nsL fs
end
end VL
namespace VL
open PySem PySem.Spec PyProof.Rows L2 VL
end VL
namespace VL
open PySem PySem.Spec PyProof.Rows L2 VL
inductive FrH where
  | form
  | choice (a : Opd) (s : Cs) (b : Opd)
  | part (n : Int)
  | round (n : Int)
structure Fr where
  h : FrH
  yes : Option (List Fm)
  own : List Fm
def FrH.ns : FrH → List Int
  | .part n => [n]
  | .round n => [n]
  | _ => []
def FrH.isForm : FrH → Bool
  | .form => true
  | _ => false
def FrH.isCh : FrH → Bool
  | .choice _ _ _ => true
  | _ => false
def FrH.ok : FrH → Prop
  | .choice a s b => a.good = true ∧ Cs.good s = true ∧ b.good = true
  | _ => True
/-- the names that the laws of tidying draw -/
def allNm : List Cs := [[120], [121], [122], [119], [97, 98], [97, 97], [98, 98], [98, 97], [113, 49], [113], [113, 49, 49], [113, 50], [115, 117, 109, 49, 97, 97, 97, 97], [115, 117, 109, 49, 97, 97, 97, 98], [115, 117, 109, 50, 97, 97, 97, 97], [116, 117, 109, 49, 97, 97, 97, 97]]
def LnC : Ln → Prop
  | .sum x a _ b => (OpB 61 a ∧ OpB 61 b) ∧ x ∈ allNm
  | _ => True
theorem LnC.b {l : Ln} (h : LnC l) : LnB l := by
  cases l with
  | sum x a s b => exact h.1
  | _ => trivial
/-- what a list of statements keeps -/
structure FmsOk (W R : Int → Prop) (F : List Fm) : Prop where
  ok : okL W R F
  gd : gdL F = true
  lb : ∀ l ∈ lnsL F, LnC l
theorem FmsOk.nil {W R : Int → Prop} : FmsOk W R [] := ⟨by rw [okL]; trivial, rfl, fun l hl => by rw [lnsL] at hl; exact nomatch hl⟩
def LvS (st : List Fr) (k : Int) : Prop := ∃ f ∈ st, f.h = .round k ∨ f.h = .part k
def AgS (st : List Fr) (k : Int) : Prop := ∃ f ∈ st, f.h = .round k
/-- a stack of frames, the top first -/
def StOk : List Fr → Prop
  | [] => True
  | f :: st => (FmsOk (LvS (f :: st)) (AgS (f :: st)) f.own ∧ dpL f.own + st.length ≤ 30) ∧ (∀ Y, f.yes = some Y → FmsOk (LvS (f :: st)) (AgS (f :: st)) Y ∧ dpL Y + st.length ≤ 30) ∧ f.h.ok ∧ (f.h.isForm = true ↔ st = []) ∧ StOk st
def frN (f : Fr) : List Int := f.h.ns ++ ((f.yes.elim [] hmL) ++ hmL f.own)
def stN (st : List Fr) : List Int := st.flatMap frN
def frC (f : Fr) : Nat := 1 + ((f.yes.elim 0 nsL) + nsL f.own)
def stC : List Fr → Nat
  | [] => 0
  | f :: st => frC f + stC st
theorem FmsOk.mono {W R W' R' : Int → Prop} {F : List Fm} (hw : ∀ k, W k → W' k) (hr : ∀ k, R k → R' k) (h : FmsOk W R F) : FmsOk W' R' F := ⟨ok_monoL F hw hr h.ok, h.gd, h.lb⟩
end VL
namespace VL
open PySem PySem.Spec PyProof.Rows L2 VL
structure FrsOk (k : Nat) (st : List Fr) : Prop where
  ok : StOk st
  ne : st ≠ []
  nd : (stN st).Nodup
  lt : ∀ n ∈ stN st, n < 97 * (k : Int)
  hy : ∀ f ∈ st, ∀ Y, f.yes = some Y → f.h.isCh = true
theorem FrsOk.up {k j : Nat} {st : List Fr} (h : FrsOk k st) (l : k ≤ j) : FrsOk j st := ⟨h.ok, h.ne, h.nd, fun n hn => by have := h.lt n hn; omega, h.hy⟩
theorem FrsOk.init : FrsOk 0 [⟨.form, none, []⟩] := by
  refine ⟨⟨⟨FmsOk.nil, by rw [dpL]; decide⟩, (fun Y e => nomatch e), trivial, ⟨fun _ => rfl, fun _ => rfl⟩, trivial⟩, (fun z => nomatch z), ?_, ?_, ?_⟩
  · show ((([] : List Int) ++ ([] ++ hmL [])) ++ []).Nodup
    rw [hmL]; exact List.nodup_nil
  · show ∀ n ∈ ((([] : List Int) ++ ([] ++ hmL [])) ++ []), _
    rw [hmL]; exact fun n hn => nomatch hn
  · intro f hf Y e
    rw [List.mem_singleton.mp hf] at e
    exact nomatch e
/-- a frame is opened -/
theorem FrsOk.push {k : Nat} {st : List Fr} {hd : FrH} (h : FrsOk k st) (l : st.length ≤ 29) (g : hd.ok) (nf : hd.isForm = false) (fresh : ∀ n ∈ hd.ns, n < 97 * (k : Int) ∧ n ∉ stN st) : FrsOk k (⟨hd, none, []⟩ :: st) := by
  have e : stN (⟨hd, none, []⟩ :: st) = hd.ns ++ stN st := by
    show (hd.ns ++ ([] ++ hmL [])) ++ stN st = _
    rw [hmL, List.append_nil, List.append_nil]
  have one : hd.ns.Nodup := by cases hd <;> simp [FrH.ns]
  refine ⟨⟨⟨FmsOk.nil, by show dpL [] + st.length ≤ 30; rw [dpL]; omega⟩, (fun Y e => nomatch e), g, ⟨fun z => (by have : hd.isForm = true := z; rw [nf] at this; exact nomatch this), fun z => absurd z h.ne⟩, h.ok⟩, (fun z => nomatch z), ?_, ?_, ?_⟩
  · rw [e, List.nodup_append]
    exact ⟨one, h.nd, fun a ha b hb z => (fresh a ha).2 (z ▸ hb)⟩
  · rw [e]
    intro n hn
    rcases List.mem_append.mp hn with hn | hn
    · exact (fresh n hn).1
    · exact h.lt n hn
  · intro f hf
    rcases List.mem_cons.mp hf with rfl | hf
    · exact fun Y e => nomatch e
    · exact h.hy f hf
/-- the form when all else is closed -/
theorem FrsOk.fin {k : Nat} {f : Fr} (h : FrsOk k [f]) : (okL (fun _ => False) (fun _ => False) f.own ∧ gdL f.own = true ∧ (∀ l ∈ lnsL f.own, LnC l)) ∧ dpL f.own ≤ 30 ∧ (hmL f.own).Nodup ∧ nsL f.own < stC [f] ∧ f.h.isForm = true ∧ f.yes = none := by
  have isf := h.ok.2.2.2.1.mpr rfl
  have hfm : f.h = .form := by
    cases e : f.h with
    | form => rfl
    | _ => rw [e] at isf; exact nomatch isf
  have hy : f.yes = none := by
    cases e : f.yes with
    | none => rfl
    | some Y => have := h.hy f (List.mem_cons_self ..) Y e; rw [hfm] at this; exact nomatch this
  obtain ⟨⟨h1, h2⟩, _⟩ := h.ok
  have hw : ∀ n, LvS [f] n → False := fun n ⟨x, hx, e⟩ => by
    rw [List.mem_singleton.mp hx, hfm] at e
    rcases e with e | e <;> exact nomatch e
  have hr : ∀ n, AgS [f] n → False := fun n ⟨x, hx, e⟩ => by
    rw [List.mem_singleton.mp hx, hfm] at e
    exact nomatch e
  refine ⟨⟨ok_monoL _ hw hr h1.ok, h1.gd, h1.lb⟩, h2, ?_, ?_, isf, hy⟩
  · have := h.nd
    have e : stN [f] = hmL f.own := by
      show (f.h.ns ++ (f.yes.elim [] hmL ++ hmL f.own)) ++ [] = _
      rw [hfm, hy, List.append_nil]; rfl
    rw [e] at this
    exact this
  · show nsL f.own < 1 + (f.yes.elim 0 nsL + nsL f.own) + 0
    rw [hy]
    show nsL f.own < 1 + (0 + nsL f.own) + 0
    omega
end VL
namespace VL
open PySem PySem.Spec PyProof.Rows L2 VL
def FrH.d : FrH → D
  | .form => .tup [.str [102, 111, 114, 109]]
  | .choice a s b => .tup [.str cChoice, opD a, .str s, opD b]
  | .part n => .tup [.str cPart, .int n]
  | .round n => .tup [.str cRound, .int n]
end VL
namespace VL
open PySem PySem.Spec PyProof.Rows L2 VL
end VL
namespace VL
open PySem PySem.Spec PyProof.Rows L2 VL
end VL
namespace VL
open PySem PySem.Spec PyProof.Rows L2 VL
end VL
namespace VL
open PySem PySem.Spec PyProof.Rows L2 VL
/-- every deed of the lines keeps I, and is a small one -/
structure KeepI (I : Dds → Prop) (L : List Ln) : Prop where
  few : ∀ d, I d → d.mem.length < 100000 ∧ d.done.length < 100000
  sum : ∀ x a s b, Ln.sum x a s b ∈ L → ∀ d, I d → ¬d.most ≤ (d.done.length : Int) → Sm (worthM d.mem b) ∧ ∀ v, madeV s (worthM d.mem a) (worthM d.mem b) = some v → I ⟨putM d.mem x v, d.most, d.done ++ [.sum x (worthM d.mem a) s (worthM d.mem b) v]⟩
  test : ∀ a s b, Ln.iff a s b ∈ L → ∀ d, I d → ¬d.most ≤ (d.done.length : Int) → I (testD d a s b)
theorem KeepI.mono {I : Dds → Prop} {L L' : List Ln} (h : KeepI I L) (s : ∀ l ∈ L', l ∈ L) : KeepI I L' := ⟨h.few, fun x a s' b hl => h.sum x a s' b (s _ hl), fun a s' b hl => h.test a s' b (s _ hl)⟩
/-- what a run of four thousand turns asks -/
def PreI (d : Dds) (L : List Ln) : Prop := d.rem < 4000 ∧ ∃ I : Dds → Prop, KeepI I L ∧ I d
theorem PreI.mono {d : Dds} {L L' : List Ln} (h : PreI d L) (s : ∀ l ∈ L', l ∈ L) : PreI d L' := ⟨h.1, let ⟨I, k, i⟩ := h.2; ⟨I, k.mono s, i⟩⟩
theorem PreI.few {d : Dds} {L : List Ln} (h : PreI d L) : d.mem.length < 100000 ∧ d.done.length < 100000 := let ⟨_, k, i⟩ := h.2; k.few d i
end VL
namespace VL
open PySem PySem.Spec PyProof.Rows L2 VL
def rngD (hi : Int) (n : Nat) : List D := (List.range n).map fun (i : Nat) => D.int (hi + (i : Int) * -1)
def viRd (t : VTA) : VTA := fun N ε Q => t N ε fun ds ε1 => ∃ i j : Int, ds = [.int i, .int j, .int (-1)] ∧ (-(2 ^ 62) ≤ i ∧ i < 2 ^ 62 ∧ -(2 ^ 62) ≤ j ∧ j < 2 ^ 62) ∧ Q (rngD i (i - j).toNat) ε1
end VL
namespace VL
open PySem PySem.Spec PyProof.Rows L2 VL
section
variable {X : Cv}
/-- a field of an instance that stands still -/
def vFldS (C : Nat) (f : Cs) (i : Nat) : VTE := fun _ ε Q => ∃ fs ds j y, ε[i]? = some (some (.ins false C fs ds)) ∧ fdIx fs f = some j ∧ ds[j]? = some y ∧ Q y ε
theorem vq_fldS {n x : Str} {f : Cs} {C i : Nat} {p1 p2 : Pos} (hN : X.N[i]? = some n) (hv : Vis X.env.scope n) (cl : Cls X.K (cA X.K C)) (na : NoAttr X.K (cA X.K C) x) (hx : x = toS f)
    (hd : (n == ("__debug__" : Str)) = false := by decide) (hcd : (n == ("__classdict__" : Str)) = false := by decide) (hb : attributeBase (.Name n p1) x X.env (eval (.Name n p1) X.env) = eval (.Name n p1) X.env := by rfl) : VQ X (.Attribute (.Name n p1) x p2) (vFldS C f i) := by
  subst hx
  refine ⟨fun W => tFld X.K (tVar i) (toS f), fun W tk => pe_fld (pe_var hN hv hd hcd) hb, fun b σ H ε T Tv W N Q Q' I q k xl => ?_⟩
  obtain ⟨fs, ds, j, y, e, hf, hj, q⟩ := q
  obtain ⟨G, F, Ft, J⟩ := I
  obtain ⟨ov, A, B, C', hs, rfl, r, _⟩ := J.slots.focus e
  obtain ⟨v, rfl, a, dx, vs, rfl, ha, rfl, hl, rl⟩ := r
  have hv := rl.len
  obtain ⟨w, hw, rw2⟩ := rl.get hj
  exact ⟨_, hs, a, cA X.K C, dx, _, w, rfl, J.sub _ _ ha, cl, na, fzip_look hf hw (hl.trans hv), k y w ε H Sub.refl ⟨G, _, Ft, J.push rw2⟩ q⟩
end
end VL
namespace VL
open PySem PySem.Calls PySem.Spec PyProof.Rows L2
/-- a walk: the iterator at i, over xs; At c: it has told c of them; fp: what it stands on -/
structure Zk (i : Addr) (fp : List Addr) (xs : Array Value) (At : Nat → Heap → Prop) : Prop where
  mem : i ∈ fp
  there : ∀ {c h}, At c h → ∀ b ∈ fp, ∃ o, h.get? b = some o
  keep : ∀ {c h g}, At c h → (∀ b ∈ fp, ∀ o, h.get? b = some o → g.get? b = some o) → At c g
  more : ∀ {P : Program} {w : World} {A : Around} {E : Value → Shared → Prop} {s : Shared} {c : Nat} {x : Value} {Q : Value → Shared → Prop}, At c s.heap → xs[c]? = some x →
    (∀ h, At (c + 1) h → Heap.SameBut i s.heap h → Q x { s with heap := h }) → wpAny (model P w) A (Builtin.SmallTypes.nextOf (.ref i)) Q E s
  stop : ∀ {P : Program} {w : World} {A : Around} {E : Value → Shared → Prop} {s : Shared} {c : Nat} {Q : Value → Shared → Prop}, A.handled = none → At c s.heap → xs[c]? = none →
    (∀ h e, Heap.ExtBut i s.heap h → (∃ o, h.get? e = some o ∧ o.cls = .type "StopIteration") → E (.ref e) { s with heap := h }) → wpAny (model P w) A (Builtin.SmallTypes.nextOf (.ref i)) Q E s
theorem Zk.ext {i j : Addr} {fp : List Addr} {xs : Array Value} {At : Nat → Heap → Prop} (W : Zk i fp xs At) {c : Nat} {h g : Heap} (a : At c h) (s : Heap.ExtBut j h g) (n : j ∉ fp) : At c g := W.keep a fun b hb o e => s b o (fun z => n (z ▸ hb)) e
/-- the zip object: p its pair that was told last, f whether that was seen alive -/
abbrev ZipF (h : Heap) (z TI TO : Addr) (p : Value) (f : Bool) : Prop :=
  h.get? z = some { cls := .type "zip", dict := none, data := .fields #[p, .bool f, .bool false, .ref TI, .ref TO], slots := #[] }
section
variable {P : Program} {w : World} {A : Around} {E : Value → Shared → Prop} {s : Shared} {z TI TO i1 i2 : Addr} {f1 f2 : List Addr} {xs ys : Array Value} {At1 At2 : Nat → Heap → Prop}
/-- the zip object behind c pairs -/
def ZAt (z TI TO i1 i2 : Addr) (At1 At2 : Nat → Heap → Prop) (own : Addr → Prop) (c : Nat) (h : Heap) : Prop :=
  (IsPair h TI (.ref i1) (.ref i2) ∧ (∃ u v, IsPair h TO u v) ∧ At1 c h ∧ At2 c h) ∧ (ZipF h z TI TO .none false ∨ ∃ (a : Addr) (f : Bool) (o : Obj), ZipF h z TI TO (rawInt a) f ∧ h.get? a = some o ∧ own a)
theorem ZAt.zip {c : Nat} {own : Addr → Prop} (x : ZAt z TI TO i1 i2 At1 At2 own c s.heap) : s.TypeIs (.ref z) "zip" := by
  rcases x.2 with e | ⟨_, _, _, e, _⟩ <;> exact ⟨_, e, rfl⟩
theorem ZAt.keep {c : Nat} {S : Addr} {own : Addr → Prop} {h g : Heap} (W1 : Zk i1 f1 xs At1) (W2 : Zk i2 f2 ys At2) (x : ZAt z TI TO i1 i2 At1 At2 own c h) (n : S ≠ z ∧ S ≠ TI ∧ S ≠ TO ∧ S ∉ f1 ∧ S ∉ f2) (no : ∀ a, own a → a ≠ S) (k : ∀ b u, b ≠ S → h.get? b = some u → g.get? b = some u) : ZAt z TI TO i1 i2 At1 At2 own c g := by
  obtain ⟨⟨hI, ⟨u, v, hO⟩, w1, w2⟩, hz⟩ := x
  refine ⟨⟨k _ _ n.2.1.symm hI, ⟨u, v, k _ _ n.2.2.1.symm hO⟩, W1.keep w1 fun b hb o => k b o fun e => n.2.2.2.1 (e ▸ hb), W2.keep w2 fun b hb o => k b o fun e => n.2.2.2.2 (e ▸ hb)⟩, hz.imp (k _ _ n.1.symm) ?_⟩
  exact fun ⟨a, f, o, e, ha, ow⟩ => ⟨a, f, o, k _ _ n.1.symm e, k _ _ (no a ow) ha, ow⟩
end
/-- the pairs that were told, at as -/
structure Prs (xs ys : Array Value) (lo : Addr) (h : Heap) (as : List Addr) : Prop where
  up : as.Pairwise (· < ·)
  lo : ∀ a ∈ as, lo ≤ a
  is : ∀ (j : Nat) (a : Addr), as[j]? = some a → ∃ x y, xs[j]? = some x ∧ ys[j]? = some y ∧ IsPair h a x y
theorem Prs.lt {xs ys : Array Value} {lo : Addr} {h : Heap} {as : List Addr} (p : Prs xs ys lo h as) {a : Addr} (ha : a ∈ as) : a < h.objs.size := by
  obtain ⟨j, e⟩ := List.mem_iff_getElem?.mp ha
  obtain ⟨_, _, _, _, e⟩ := p.is j a e
  exact Heap.lt_size e
theorem Prs.keep {xs ys : Array Value} {lo : Addr} {h g : Heap} {as : List Addr} (p : Prs xs ys lo h as) (k : ∀ a ∈ as, ∀ u, h.get? a = some u → g.get? a = some u) : Prs xs ys lo g as :=
  ⟨p.up, p.lo, fun j a e => let ⟨x, y, e1, e2, e3⟩ := p.is j a e; ⟨x, y, e1, e2, k a (List.mem_of_getElem? e) _ e3⟩⟩
end VL
namespace VL
open PySem PySem.Calls PySem.Spec PyProof.Rows L2
end VL
namespace VL
open PySem PySem.Spec PyProof.Rows L2 PySem.W
end VL
namespace VL
open PySem PySem.Calls PySem.Spec PyProof.Rows L2
end VL
namespace VL
open PySem PySem.Calls PySem.Spec PyProof.Rows L2
end VL
namespace VL
open PySem PySem.Calls PySem.Spec PyProof.Rows L2
end VL
namespace VL
open PySem PySem.Spec PyProof.Rows L2 VL
end VL
namespace VL
open PySem PySem.Spec PyProof.Rows L2 VL
/-- the row that node k stands for -/
def plc (rs : List Rw) (k : Nat) : Nat := (osR rs)[k]?.getD 0
section
variable {rs : List Rw} (R : RwOk rs)
theorem plc_at {k : Nat} (h : k < (osR rs).length) : (osR rs)[k]? = some (plc rs k) := by
  unfold plc
  rw [List.getElem?_eq_getElem h]
  rfl
theorem plc_mem {k : Nat} (h : k < (osR rs).length) : plc rs k ∈ osR rs := List.mem_of_getElem? (plc_at h)
include R
theorem idx_plc {k : Nat} (h : k < (osR rs).length) : (osR rs).idxOf (plc rs k) = k := by
  obtain ⟨p, e⟩ := List.getElem?_eq_some_iff.mp (plc_at h)
  rw [← e]
  exact (osR_ok R).nd.idxOf_getElem k p
omit R in
theorem plc_idx {o : Nat} (h : o ∈ osR rs) : plc rs ((osR rs).idxOf o) = o := by
  unfold plc
  rw [List.getElem?_eq_getElem (List.idxOf_lt_length_iff.mpr h), List.getElem_idxOf]
  rfl
theorem all_in {ks : List Nat} (h0 : 0 ∈ ks) (cl : ∀ k ∈ ks, ∀ t ∈ waysN (nodeAt rs (plc rs k)), (osR rs).idxOf t ∈ ks) : ∀ k, k < (osR rs).length → k ∈ ks := by
  intro k
  induction k using Nat.strongRecOn with
  | _ k ih =>
    intro hk
    by_cases z : k = 0
    · rw [z]; exact h0
    · have O := osR_ok R
      have ne : plc rs k ≠ comeTo rs 0 := fun e => z (by rw [← idx_plc R hk, e]; exact (os_first R).2)
      obtain ⟨A, B, p, e, hp, hx⟩ := O.par _ (plc_mem hk) ne
      have po : p ∈ osR rs := by rw [e]; exact List.mem_append_left _ hp
      have lp : (osR rs).idxOf p < k := by
        have nA : plc rs k ∉ A := by
          have nd := O.nd
          rw [e] at nd
          exact fun h => (List.nodup_append.mp nd).2.2 _ h _ List.mem_cons_self rfl
        have e1 : (osR rs).idxOf (plc rs k) = A.length := by
          rw [e, List.idxOf_append, if_neg nA, List.idxOf_cons_self, Nat.zero_add]
        rw [idx_plc R hk] at e1
        have e2 : (osR rs).idxOf p = A.idxOf p := by rw [e, List.idxOf_append, if_pos hp]
        rw [e2, e1]
        exact List.idxOf_lt_length_iff.mpr hp
      have ik := ih _ lp (Nat.lt_trans lp hk)
      have pl : p < rs.length := by have := O.rng _ po; rwa [rawOf_len] at this
      have hw : plc rs k ∈ waysN (nodeAt rs (plc rs ((osR rs).idxOf p))) := by
        rw [plc_idx po, waysN_eq]
        refine List.mem_reverse.mpr ?_
        unfold glOf at hx
        rw [rawOf_at pl] at hx
        exact hx
      have := cl _ ik _ hw
      rwa [idx_plc R hk] at this
end
/-- what the walk side by side has: the nodes ks with a row each, open ones among them -/
structure SbS (rs : List Rw) (ks op : List Nat) : Prop where
  nd : ks.Nodup
  z : 0 ∈ ks
  lt : ∀ k ∈ ks, k < (osR rs).length
  sub : ∀ k ∈ op, k ∈ ks
  cl : ∀ k ∈ ks, k ∉ op → ∀ t ∈ waysN (nodeAt rs (plc rs k)), (osR rs).idxOf t ∈ ks
theorem SbS.len {rs : List Rw} {ks op : List Nat} (I : SbS rs ks op) : ks.length ≤ (osR rs).length := nodup_len I.nd I.lt
theorem SbS.all {rs : List Rw} {ks : List Nat} (R : RwOk rs) (I : SbS rs ks []) : ks.length = (osR rs).length := by
  have a := all_in R I.z fun k hk => I.cl k hk (fun h => nomatch h)
  refine Nat.le_antisymm I.len ?_
  have h := nd_sub_len (xs := List.range (osR rs).length) (ys := ks) List.nodup_range fun x hx => a x (List.mem_range.mp hx)
  rwa [List.length_range] at h
end VL
namespace VL
open PySem PySem.Spec PyProof.Rows L2 VL
structure RingL (nx : Nat → Option Nat) (k l : Nat) : Prop where
  on : ∃ n, itJ nx n k = some l
  per : ∃ p, 0 < p ∧ itJ nx p l = some l
  least : ∀ n p x, 0 < p → itJ nx n k = some x → itJ nx p x = some x → l ≤ x
def CmR (nx : Nat → Option Nat) (k : Nat) (r : Int) : Prop := (∃ n q : Nat, itJ nx n k = some q ∧ nx q = none ∧ r = (q : Int)) ∨ ∃ l : Nat, RingL nx k l ∧ r = -1 - (l : Int)
section
variable {nx : Nat → Option Nat}
theorem it_end {q : Nat} (h : nx q = none) : ∀ {d x : Nat}, itJ nx d q = some x → d = 0 ∧ x = q
  | 0, x, e => by cases e; exact ⟨rfl, rfl⟩
  | d + 1, x, e => by
    have e : (nx q).bind (itJ nx d) = some x := e
    rw [h] at e
    cases e
theorem it_mul {p l : Nat} (h : itJ nx p l = some l) : ∀ j : Nat, itJ nx (j * p) l = some l
  | 0 => by rw [Nat.zero_mul]; rfl
  | j + 1 => by rw [Nat.succ_mul, itJ_add (it_mul h j)]; exact h
theorem stop_one {k n m q r : Nat} (h1 : itJ nx n k = some q) (h2 : nx q = none) (h3 : itJ nx m k = some r) (h4 : nx r = none) : q = r := by
  rcases Nat.le_total n m with h | h
  · obtain ⟨d, rfl⟩ : ∃ d, m = n + d := ⟨m - n, by omega⟩
    rw [itJ_add h1] at h3
    exact (it_end h2 h3).2.symm
  · obtain ⟨d, rfl⟩ : ∃ d, n = m + d := ⟨n - m, by omega⟩
    rw [itJ_add h3] at h1
    exact (it_end h4 h1).2
theorem stop_ring {k n q l : Nat} (h1 : itJ nx n k = some q) (h2 : nx q = none) (h : RingL nx k l) : False := by
  obtain ⟨m, h3⟩ := h.on
  obtain ⟨p, p0, h4⟩ := h.per
  have h5 := it_mul h4 (n + 1)
  have e := itJ_add (m := (n + 1) * p) h3
  rw [h5] at e
  have le : n + 1 ≤ (n + 1) * p := Nat.le_mul_of_pos_right _ p0
  obtain ⟨d, hd⟩ : ∃ d, m + (n + 1) * p = n + (d + 1) := ⟨m + (n + 1) * p - n - 1, by omega⟩
  rw [hd, itJ_add h1] at e
  have := (it_end h2 e).1
  omega
theorem CmR.one {k : Nat} {r s : Int} (h : CmR nx k r) (g : CmR nx k s) : r = s := by
  rcases h with ⟨n, q, h1, h2, rfl⟩ | ⟨l, h, rfl⟩ <;> rcases g with ⟨m, q', g1, g2, rfl⟩ | ⟨l', g, rfl⟩
  · rw [stop_one h1 h2 g1 g2]
  · exact (stop_ring h1 h2 g).elim
  · exact (stop_ring g1 g2 h).elim
  · obtain ⟨n, a1⟩ := h.on
    obtain ⟨p, a2, a3⟩ := h.per
    obtain ⟨m, b1⟩ := g.on
    obtain ⟨p', b2, b3⟩ := g.per
    have c1 := h.least m p' l' b2 b1 b3
    have c2 := g.least n p l a2 a1 a3
    omega
theorem it_unstep {n k b x : Nat} (hb : nx k = some b) : itJ nx (n + 1) k = some x ↔ itJ nx n b = some x := by
  show (nx k).bind (itJ nx n) = some x ↔ _
  rw [hb]
  exact Iff.rfl
theorem CmR.step {k b : Nat} (hb : nx k = some b) {r : Int} : CmR nx k r ↔ CmR nx b r := by
  constructor
  · rintro (⟨n, q, h1, h2, rfl⟩ | ⟨l, h, rfl⟩)
    · cases n with
      | zero => cases h1; rw [hb] at h2; cases h2
      | succ n => exact .inl ⟨n, q, (it_unstep hb).mp h1, h2, rfl⟩
    · refine .inr ⟨l, ⟨?_, h.per, fun n p x hp h1 h2 => h.least (n + 1) p x hp ((it_unstep hb).mpr h1) h2⟩, rfl⟩
      obtain ⟨n, h1⟩ := h.on
      cases n with
      | zero =>
        cases h1
        obtain ⟨p, p0, h3⟩ := h.per
        obtain ⟨p, rfl⟩ : ∃ d, p = d + 1 := ⟨p - 1, by omega⟩
        exact ⟨p, (it_unstep hb).mp h3⟩
      | succ n => exact ⟨n, (it_unstep hb).mp h1⟩
  · rintro (⟨n, q, h1, h2, rfl⟩ | ⟨l, h, rfl⟩)
    · exact .inl ⟨n + 1, q, (it_unstep hb).mpr h1, h2, rfl⟩
    · obtain ⟨n, h1⟩ := h.on
      refine .inr ⟨l, ⟨⟨n + 1, (it_unstep hb).mpr h1⟩, h.per, fun n p x hp h1 h2 => ?_⟩, rfl⟩
      cases n with
      | zero =>
        cases h1
        obtain ⟨p, rfl⟩ : ∃ d, p = d + 1 := ⟨p - 1, by omega⟩
        exact h.least p (p + 1) k hp ((it_unstep hb).mp h2) h2
      | succ n => exact h.least n p x hp ((it_unstep hb).mp h1) h2
end
end VL
namespace VL
open PySem PySem.Spec PyProof.Rows L2 VL
end VL
namespace VL
open PySem PySem.Spec PyProof.Rows L2 VL
end VL
namespace VL
open PySem PySem.Spec PyProof.Rows L2 VL
mutual
theorem snd_weakF : ∀ (f : Fm) {W R U V W' R' U' X : List Int}, sndF W R U f = some V → (∀ n ∈ W, n ∈ W') → (∀ n ∈ R, n ∈ R') → (∀ n ∈ U', n ∈ U ∨ n ∈ X) → (∀ n ∈ homes (lnsF f), n ∉ X) → ∃ V', sndF W' R' U' f = some V' ∧ ∀ n ∈ V', n ∈ V ∨ n ∈ X
  | .sum _ _ _ _, W, R, U, V, W', R', U', X, h, hw, hr, hu, hx => by rw [sndF] at h; cases h; exact ⟨U', by rw [sndF], hu⟩
  | .fin, W, R, U, V, W', R', U', X, h, hw, hr, hu, hx => by rw [sndF] at h; cases h; exact ⟨U', by rw [sndF], hu⟩
  | .leave n, W, R, U, V, W', R', U', X, h, hw, hr, hu, hx => by
    rw [sndF] at h
    split at h
    · rename_i z
      cases h
      exact ⟨U', by rw [sndF, if_pos (hw n z)], hu⟩
    · cases h
  | .again n, W, R, U, V, W', R', U', X, h, hw, hr, hu, hx => by
    rw [sndF] at h
    split at h
    · rename_i z
      cases h
      exact ⟨U', by rw [sndF, if_pos (hr n z)], hu⟩
    · cases h
  | .round n B, W, R, U, V, W', R', U', X, h, hw, hr, hu, hx => by
    rw [sndF] at h
    split at h
    · cases h
    · rename_i z
      rw [homes_round] at hx
      have nx : n ∉ X := hx n List.mem_cons_self
      obtain ⟨V', e, g⟩ := snd_weakL B (W' := W' ++ [n]) (R' := R' ++ [n]) (U' := U' ++ [n]) (X := X) h (fun m hm => by
          rcases List.mem_append.mp hm with hm | hm
          · exact List.mem_append_left _ (hw m hm)
          · exact List.mem_append_right _ hm) (fun m hm => by
          rcases List.mem_append.mp hm with hm | hm
          · exact List.mem_append_left _ (hr m hm)
          · exact List.mem_append_right _ hm) (fun m hm => by
          rcases List.mem_append.mp hm with hm | hm
          · rcases hu m hm with hm | hm
            · exact .inl (List.mem_append_left _ hm)
            · exact .inr hm
          · exact .inl (List.mem_append_right _ hm)) (fun m hm => hx m (List.mem_cons_of_mem _ hm))
      refine ⟨V', ?_, g⟩
      rw [sndF, if_neg, e]
      rintro (y | y)
      · rcases hu n y with y | y
        · exact z (.inl y)
        · exact nx y
      · exact z (.inr y)
  | .part n B, W, R, U, V, W', R', U', X, h, hw, hr, hu, hx => by
    rw [sndF] at h
    split at h
    · cases h
    · rename_i z
      rw [homes_part] at hx
      have nx : n ∉ X := hx n List.mem_cons_self
      obtain ⟨V', e, g⟩ := snd_weakL B (W' := W' ++ [n]) (R' := R') (U' := U' ++ [n]) (X := X) h (fun m hm => by
          rcases List.mem_append.mp hm with hm | hm
          · exact List.mem_append_left _ (hw m hm)
          · exact List.mem_append_right _ hm) hr (fun m hm => by
          rcases List.mem_append.mp hm with hm | hm
          · rcases hu m hm with hm | hm
            · exact .inl (List.mem_append_left _ hm)
            · exact .inr hm
          · exact .inl (List.mem_append_right _ hm)) (fun m hm => hx m (List.mem_cons_of_mem _ hm))
      refine ⟨V', ?_, g⟩
      rw [sndF, if_neg, e]
      rintro (y | y)
      · rcases hu n y with y | y
        · exact z (.inl y)
        · exact nx y
      · exact z (.inr y)
  | .choice a s b Y Z true, W, R, U, V, W', R', U', X, h, hw, hr, hu, hx => by
    rw [sndF] at h
    have hh : homes (lnsF (.choice a s b Y Z true)) = homes (lnsL Y) ++ homes (lnsL Z) := by rw [lnsF, if_pos rfl]; show homes (lnsL Y ++ (.els :: lnsL Z ++ [.done])) = _; rw [homes_app]; show _ ++ homes (lnsL Z ++ [.done]) = _; rw [homes_app]; simp [homes]
    rw [hh] at hx
    cases e1 : sndL W R U Y with
    | none => rw [e1] at h; cases h
    | some V1 =>
      rw [e1] at h
      have h : sndL W R V1 Z = some V := h
      obtain ⟨V2, e2, g2⟩ := snd_weakL Y (W' := W') (R' := R') (U' := U') (X := X) e1 hw hr hu (fun m hm => hx m (List.mem_append_left _ hm))
      obtain ⟨V3, e3, g3⟩ := snd_weakL Z (W' := W') (R' := R') (U' := V2) (X := X) h hw hr g2 (fun m hm => hx m (List.mem_append_right _ hm))
      exact ⟨V3, by rw [sndF, e2]; exact e3, g3⟩
  | .choice a s b Y Z false, W, R, U, V, W', R', U', X, h, hw, hr, hu, hx => by
    rw [sndF] at h
    have hh : homes (lnsF (.choice a s b Y Z false)) = homes (lnsL Y) := by rw [lnsF, if_neg (by decide)]; show homes (lnsL Y ++ [.done]) = _; rw [homes_app]; simp [homes]
    rw [hh] at hx
    cases e1 : sndL W R U Y with
    | none => rw [e1] at h; cases h
    | some V1 =>
      rw [e1] at h
      have h : some V1 = some V := h
      cases h
      obtain ⟨V2, e2, g2⟩ := snd_weakL Y (W' := W') (R' := R') (U' := U') (X := X) e1 hw hr hu hx
      exact ⟨V2, by rw [sndF, e2]; rfl, g2⟩
theorem snd_weakL : ∀ (F : List Fm) {W R U V W' R' U' X : List Int}, sndL W R U F = some V → (∀ n ∈ W, n ∈ W') → (∀ n ∈ R, n ∈ R') → (∀ n ∈ U', n ∈ U ∨ n ∈ X) → (∀ n ∈ homes (lnsL F), n ∉ X) → ∃ V', sndL W' R' U' F = some V' ∧ ∀ n ∈ V', n ∈ V ∨ n ∈ X
  | [], W, R, U, V, W', R', U', X, h, hw, hr, hu, hx => by rw [sndL] at h; cases h; exact ⟨U', by rw [sndL], hu⟩
  | f :: F, W, R, U, V, W', R', U', X, h, hw, hr, hu, hx => by
    rw [sndL] at h
    rw [lnsL, homes_app] at hx
    cases e1 : sndF W R U f with
    | none => rw [e1] at h; cases h
    | some V1 =>
      rw [e1] at h
      have h : sndL W R V1 F = some V := h
      obtain ⟨V2, e2, g2⟩ := snd_weakF f (W' := W') (R' := R') (U' := U') (X := X) e1 hw hr hu (fun m hm => hx m (List.mem_append_left _ hm))
      obtain ⟨V3, e3, g3⟩ := snd_weakL F (W' := W') (R' := R') (U' := V2) (X := X) h hw hr g2 (fun m hm => hx m (List.mem_append_right _ hm))
      exact ⟨V3, by rw [sndL, e2]; exact e3, g3⟩
end
/-- a form that will do: sound, of good lines, its numbers each another one, so many lines and so deep -/
structure FmG (n d : Nat) (F : List Fm) : Prop where
  sd : sndL [] [] [] F ≠ none
  ln : ∀ l ∈ lnsL F, LnOk l
  nd : (homes (lnsL F)).Nodup
  few : (lnsL F).length ≤ n
  dp : dpL F ≤ d
theorem lnsL_one (f : Fm) : lnsL [f] = lnsF f := by rw [lnsL, lnsL, List.append_nil]
theorem FmG.round {n d : Nat} {F : List Fm} (g : FmG n d F) {k : Int} (h0 : 0 ≤ k) (h1 : k ≤ 9999) (hk : k ∉ homes (lnsL F)) : FmG (n + 2) (d + 1) [.round k F] := by
  have e : lnsL [.round k F] = .round k :: (lnsL F ++ [.done]) := by rw [lnsL_one, lnsF]
  refine ⟨?_, ?_, ?_, ?_, ?_⟩
  · obtain ⟨V, hV⟩ := Option.ne_none_iff_exists'.mp g.sd
    obtain ⟨V', e, _⟩ := snd_weakL F (W' := [k]) (R' := [k]) (U' := [k]) (X := [k]) hV (fun _ h => (nomatch h)) (fun _ h => (nomatch h)) (fun _ h => .inr h) (fun m hm z => hk (by rw [List.mem_singleton.mp z] at hm; exact hm))
    rw [sndL, sndF, if_neg (fun z => by rcases z with z | z | z; { cases z }; { omega }; { omega })]
    show ¬(sndL ([] ++ [k]) ([] ++ [k]) ([] ++ [k]) F).bind _ = none
    rw [List.nil_append, e]
    rw [Option.bind_some, sndL]
    simp
  · rw [e]
    intro l hl
    rcases List.mem_cons.mp hl with rfl | hl
    · trivial
    · rcases List.mem_append.mp hl with hl | hl
      · exact g.ln l hl
      · rw [List.mem_singleton.mp hl]; trivial
  · rw [lnsL_one, homes_round]
    exact List.nodup_cons.mpr ⟨hk, g.nd⟩
  · rw [e]; have := g.few; simp; omega
  · rw [dpL, dpL, dpF]; have := g.dp; omega
theorem FmG.part {n d : Nat} {F : List Fm} (g : FmG n d F) {k : Int} (h0 : 0 ≤ k) (h1 : k ≤ 9999) (hk : k ∉ homes (lnsL F)) : FmG (n + 2) (d + 1) [.part k F] := by
  have e : lnsL [.part k F] = .part k :: (lnsL F ++ [.done]) := by rw [lnsL_one, lnsF]
  refine ⟨?_, ?_, ?_, ?_, ?_⟩
  · obtain ⟨V, hV⟩ := Option.ne_none_iff_exists'.mp g.sd
    obtain ⟨V', e, _⟩ := snd_weakL F (W' := [k]) (R' := []) (U' := [k]) (X := [k]) hV (fun _ h => (nomatch h)) (fun _ h => (nomatch h)) (fun _ h => .inr h) (fun m hm z => hk (by rw [List.mem_singleton.mp z] at hm; exact hm))
    rw [sndL, sndF, if_neg (fun z => by rcases z with z | z | z; { cases z }; { omega }; { omega })]
    show ¬(sndL ([] ++ [k]) [] ([] ++ [k]) F).bind _ = none
    rw [List.nil_append, e]
    rw [Option.bind_some, sndL]
    simp
  · rw [e]
    intro l hl
    rcases List.mem_cons.mp hl with rfl | hl
    · trivial
    · rcases List.mem_append.mp hl with hl | hl
      · exact g.ln l hl
      · rw [List.mem_singleton.mp hl]; trivial
  · rw [lnsL_one, homes_part]
    exact List.nodup_cons.mpr ⟨hk, g.nd⟩
  · rw [e]; have := g.few; simp; omega
  · rw [dpL, dpL, dpF]; have := g.dp; omega
theorem FmG.iff {n d : Nat} {F : List Fm} (g : FmG n d F) {a b : Opd} {s : Cs} (hl : LnOk (.iff a s b)) : FmG (n + 2) (d + 1) [.choice a s b F [] false] := by
  have e : lnsL [.choice a s b F [] false] = .iff a s b :: (lnsL F ++ [.done]) := by rw [lnsL_one, lnsF, if_neg (by decide)]; rfl
  refine ⟨?_, ?_, ?_, ?_, ?_⟩
  · obtain ⟨V, hV⟩ := Option.ne_none_iff_exists'.mp g.sd
    rw [sndL, sndF, hV]
    show ¬(some V).bind (fun U => sndL [] [] U []) = none
    rw [Option.bind_some, sndL]
    simp
  · rw [e]
    intro l h
    rcases List.mem_cons.mp h with rfl | h
    · exact hl
    · rcases List.mem_append.mp h with h | h
      · exact g.ln l h
      · rw [List.mem_singleton.mp h]; trivial
  · rw [e]
    show (homes (lnsL F ++ [.done])).Nodup
    rw [homes_app]
    simpa [homes] using g.nd
  · rw [e]; have := g.few; simp; omega
  · rw [dpL, dpL, dpF]; have := g.dp; simp; omega
theorem FmG.up {n d n' d' : Nat} {F : List Fm} (g : FmG n d F) (h1 : n ≤ n') (h2 : d ≤ d') : FmG n' d' F := ⟨g.sd, g.ln, g.nd, Nat.le_trans g.few h1, Nat.le_trans g.dp h2⟩
end VL
namespace VL
open PySem PySem.Spec PyProof.Rows L2 VL
end VL
namespace VL
open PySem PySem.Spec PyProof.Rows L2 VL
end VL
namespace VL
open PySem PySem.Spec PyProof.Rows L2 VL
end VL
namespace VL
open PySem PySem.Spec PyProof.Rows L2 VL
def wdL : Ln → List Cs
  | .sum x a s b => [x, [61], opC a, s, opC b]
  | .iff a s b => [cIf, opC a, s, opC b]
  | .round n => [cRound, intC n]
  | .part n => [cPart, intC n]
  | .leave n => [cLeave, intC n]
  | .again n => [cAgain, intC n]
  | .fin => [cEnd]
  | .els => [cElse]
  | .done => [cDone]
def txtL (l : Ln) : Cs := TL.joinL [32] (wdL l)
/-- as it may stand in a text -/
def LnT : Ln → Prop
  | .sum x a s b => NameOk x ∧ OpdOk a ∧ signOk s ∧ OpdOk b
  | .iff a s b => OpdOk a ∧ testOk s ∧ OpdOk b
  | .round n => 0 ≤ n ∧ n ≤ 9999
  | .part n => 0 ≤ n ∧ n ≤ 9999
  | .leave n => 0 ≤ n ∧ n ≤ 9999
  | .again n => 0 ≤ n ∧ n ≤ 9999
  | _ => True
theorem int_free {n : Int} (h : 0 ≤ n) {c : Nat} (hc : c < 48 ∨ 57 < c) : c ∉ intC n := by
  obtain ⟨k, rfl⟩ := Int.eq_ofNat_of_zero_le h
  rw [intC_nat]
  exact TL.numL_free hc
theorem wdL_free {l : Ln} (h : LnT l) {c : Nat} (hc : c = 32 ∨ c = 10) : ∀ w ∈ wdL l, c ∉ w := by
  have h1 : isLd c = false := by rcases hc with rfl | rfl <;> rfl
  have h2 : c ≠ 45 := by rcases hc with rfl | rfl <;> decide
  have h3 : c < 48 ∨ 57 < c := by rcases hc with rfl | rfl <;> omega
  have two : ∀ (w : Cs) (n : Int), 0 ≤ n → c ∉ w → ∀ v ∈ [w, intC n], c ∉ v := fun w n hn hw v hv => by
    simp only [List.mem_cons, List.not_mem_nil, or_false] at hv
    rcases hv with rfl | rfl
    · exact hw
    · exact int_free hn h3
  have k : ∀ w ∈ [cRound, cPart, cLeave, cAgain, cIf, cEnd, cElse, cDone], c ∉ w := by rcases hc with rfl | rfl <;> decide
  cases l with
  | sum x a s b =>
    obtain ⟨hx, ha, hs, hb⟩ := h
    intro w hw
    simp only [wdL, List.mem_cons, List.not_mem_nil, or_false] at hw
    rcases hw with rfl | rfl | rfl | rfl | rfl
    · exact name_free hx h1
    · rcases hc with rfl | rfl <;> decide
    · exact op_free ha h1 h2
    · rcases hs with rfl | rfl | rfl | rfl | rfl | rfl <;> (rcases hc with rfl | rfl <;> decide)
    · exact op_free hb h1 h2
  | iff a s b =>
    obtain ⟨ha, hs, hb⟩ := h
    intro w hw
    simp only [wdL, List.mem_cons, List.not_mem_nil, or_false] at hw
    rcases hw with rfl | rfl | rfl | rfl
    · exact k cIf (by simp)
    · exact op_free ha h1 h2
    · rcases hs with rfl | rfl <;> (rcases hc with rfl | rfl <;> decide)
    · exact op_free hb h1 h2
  | round n => exact two _ n h.1 (k _ (by simp))
  | part n => exact two _ n h.1 (k _ (by simp))
  | leave n => exact two _ n h.1 (k _ (by simp))
  | again n => exact two _ n h.1 (k _ (by simp))
  | fin => intro w hw; rw [List.mem_singleton.mp hw]; exact k _ (by simp)
  | els => intro w hw; rw [List.mem_singleton.mp hw]; exact k _ (by simp)
  | done => intro w hw; rw [List.mem_singleton.mp hw]; exact k _ (by simp)
theorem txt_free {l : Ln} (h : LnT l) : 10 ∉ txtL l := joinL_free (by simp) (wdL_free h (.inr rfl))
theorem int_len {n : Int} (h : 0 ≤ n ∧ n ≤ 9999) : (intC n).length ≤ 4 := by
  obtain ⟨k, rfl⟩ := Int.eq_ofNat_of_zero_le h.1
  rw [intC_nat]
  exact num_len4 (by omega)
theorem txt_len {l : Ln} (g : LnT l) : (txtL l).length ≤ 80 := by
  have two : ∀ (w : Cs) (n : Int), w.length ≤ 5 → (0 ≤ n ∧ n ≤ 9999) → (TL.joinL [32] [w, intC n]).length ≤ 80 := fun w n hw h => by
    have := int_len h
    simp [TL.joinL]
    omega
  cases l with
  | sum x a s b =>
    have l2 : x.length ≤ 8 := g.1.2.1
    have l3 := opC_len g.2.1
    have l4 := opC_len g.2.2.2
    have l5 := sign_len g.2.2.1
    simp [txtL, wdL, TL.joinL]
    omega
  | iff a s b =>
    have l3 := opC_len g.1
    have l4 := opC_len g.2.2
    have l5 := test_len g.2.1
    simp [txtL, wdL, TL.joinL]
    omega
  | round n => exact two _ n (by decide) g
  | part n => exact two _ n (by decide) g
  | leave n => exact two _ n (by decide) g
  | again n => exact two _ n (by decide) g
  | fin => simp [txtL, wdL, TL.joinL]
  | els => simp [txtL, wdL, TL.joinL]
  | done => simp [txtL, wdL, TL.joinL]
end VL
namespace VL
open PySem PySem.Spec PyProof.Rows L2 VL
abbrev cHeadF : Cs := [104, 101, 97, 100]
abbrev cNowF : Cs := [110, 111, 119]
def ysD : Option (List D) → D
  | none => .non
  | some ys => .lst false ys
/-- a list that is open -/
structure OfA where
  w : Cs
  r : List D
  y : Option (List D)
  xs : List D
def OfA.d (a : OfA) : D := .ins true 1 [cHeadF, cYes, cNowF] [.tup (.str a.w :: a.r), ysD a.y, .lst true a.xs]
structure OfA.ok (a : OfA) : Prop where
  r : isFzL a.r = true
  y : ∀ ys, a.y = some ys → isFzL ys = true
  xs : isFzL a.xs = true
  few : a.r.length < 100
  fewx : a.xs.length < 1000
end VL
namespace VL
open PySem PySem.Spec PyProof.Rows L2 VL
end VL
namespace VL
open PySem PySem.Spec PyProof.Rows L2 VL
def ind (d : Nat) : Cs := List.replicate (2 * d) 32
/-- each written line is a line, blanks ahead -/
def WrOk (m : Nat) (s : Cs) : Prop := ∃ d l, s = ind d ++ txtL l ∧ LnT l ∧ d ≤ m
theorem ind_len (d : Nat) : (ind d).length = 2 * d := List.length_replicate
theorem WrOk.len {m : Nat} {s : Cs} (h : WrOk m s) : s.length ≤ 2 * m + 80 ∧ 10 ∉ s := by
  obtain ⟨d, l, rfl, g, hd⟩ := h
  have := txt_len g
  refine ⟨by rw [List.length_append, ind_len]; omega, fun z => ?_⟩
  rcases List.mem_append.mp z with z | z
  · have := List.eq_of_mem_replicate z; omega
  · exact txt_free g z
end VL
namespace VL
open PySem PySem.Spec PyProof.Rows L2 VL
theorem deqL_nil : ∀ F : List Fm, deqL (fmsD F) [] = F.isEmpty
  | [] => by rw [fmsD, deqL]; rfl
  | f :: F => by rw [fmsD]; simp [deqL]
end VL
namespace VL
open PySem PySem.Spec PyProof.Rows L2 VL
section
variable {X : Cv}
theorem lc_runB {own : List Nat} {g : VTG} {tt : VTT} {te : VTE} {tgE elt : Expr} {ifs : List Expr} {scope : Scope}
    (hk : ∀ i ∈ own, X.κ[i]? ≠ some true)
    (hg : ∀ c : BI, VTo (X.blk c.1 c.2.1 scope c.2.2.1 c.2.2.2.1 c.2.2.2.2) own tgE g) (ht : ∀ c : BI, VTs (X.blk c.1 c.2.1 scope c.2.2.1 c.2.2.2.1 c.2.2.2.2) ifs tt) (he : ∀ c : BI, VE (X.blk c.1 c.2.1 scope c.2.2.1 c.2.2.2.1 c.2.2.2.2) elt te) :
    ∃ (g' : TG) (tt' : TT) (te' : TE), (∀ c : BI, PG (X.blk c.1 c.2.1 scope c.2.2.1 c.2.2.2.1 c.2.2.2.2).toCx tgE g') ∧ (∀ c : BI, PTs (X.blk c.1 c.2.1 scope c.2.2.1 c.2.2.2.1 c.2.2.2.2).toCx ifs tt') ∧ (∀ c : BI, PE (X.blk c.1 c.2.1 scope c.2.2.1 c.2.2.2.1 c.2.2.2.2).toCx elt te') ∧
      ∀ (b : Bx X) σ H ε T Tv R Rv ds (J : It) (Q : List D → Ep → Prop) (Q' : VK), SI X.K b.1 σ H ε (T ++ R) (Tv ++ Rv) → T.length = Tv.length → R.length = Rv.length → (∀ σ H ε T Tv i, T.length = Tv.length → SI X.K b.1 σ H ε (T ++ R) (Tv ++ Rv) → (∀ d, ds[i]? = some d → J.go i H ∧ ∀ x H', J.yld i H x H' → SI X.K b.1 σ H' ε (T ++ (R ++ [d])) (Tv ++ (Rv ++ [x]))) ∧ (ds.length ≤ i → J.stop i H)) → vLcL own g tt te ds [] (pull own ε).2.2 (fun acc ε' => Q acc (restore (pull own ε).1 (pull own ε).2.1 ε')) →
        (∀ acc v ε' H', SI X.K b.1 σ H' ε' (T ++ [.lst true acc]) (Tv ++ [v]) → Q acc ε' → Q' v H') →
        ∀ D, H D = none → ∃ W : Nat → Nat → Hp → Prop, (∃ m, W 0 m (upd H D (.lst []))) ∧ ∀ i m H, W i m H →
          (J.stop i H ∧ Q' (.ref D) H) ∨ (J.go i H ∧ ∃ Nx : Hp → Prop, (∀ H', Nx H' → ∃ m', m' < m ∧ W (i + 1) m' H') ∧ ∀ x H', J.yld i H x H' → g' x (wipe σ own) H' fun σ2 H2 => wipe σ2 own = wipe σ own ∧ tt' σ2 H2 fun b H3 =>
            if b = true then te' σ2 H3 fun y H4 => ∃ acc, H4 D = some (.lst acc) ∧ acc.length < sizeLine ∧ Nx (upd H4 D (.lst (acc ++ [y]))) else Nx H3) := by
  let gc : BI → TG := fun c => Classical.choose (hg c).ex
  have gs := fun c => Classical.choose_spec (hg c).ex
  let tc : BI → WX → TT := fun c => Classical.choose (ht c).ex
  have ts := fun c => Classical.choose_spec (ht c).ex
  let ec : BI → WX → TE := fun c => Classical.choose (he c).ex
  have es := fun c => Classical.choose_spec (he c).ex
  let Wn : WX := fun _ _ _ _ => False
  refine ⟨fun v σ H Q => ∀ c, gc c v σ H Q, fun σ H Q => ∀ c, tc c Wn σ H Q, fun σ H Q => ∀ c, ec c Wn σ H Q, fun c => ⟨fun pins s σ H v u Q I r w => (gs c).1.run pins s σ H v u Q I r (w c)⟩, fun c => ⟨fun pins s σ H Q I w => ((ts c).1 Wn takes_no).run pins s σ H Q I (w c)⟩, fun c => ⟨fun pins s σ H Q I w => ((es c).1 Wn takes_no).run pins s σ H Q I (w c)⟩, ?_⟩
  intro b σ H ε T Tv R Rv ds J Q Q' I hl hr wk q k D nD
  obtain ⟨pv, Ip, hh, lp, pg⟩ := SI.pull hl (is := own) hr I
  generalize hpr : pull own ε = pr at q Ip hh lp pg
  obtain ⟨rs, pd, ε0⟩ := pr
  simp only at q Ip hh lp pg
  have hlR : (T ++ (R ++ pd)).length = (Tv ++ (Rv ++ pv)).length := by simp [hl, hr, lp]
  -- the slots of the block's own names hold nothing
  have xl : ∀ {T : List VL.D} {Tv : List V}, XL X.K b.1 T Tv Wn noX := fun _ _ _ _ _ _ _ _ _ _ z => z.elim
  have wipeI : ∀ {H : Hp} {ε2 : Ep} {T : List VL.D} {Tv : List V} {σ2 : L2.St}, (∀ i ∈ own, ∀ d, ε2[i]? ≠ some (some d)) → wipe σ2 own = wipe σ own → SI X.K b.1 σ2 H ε2 T Tv → SI X.K b.1 (wipe σ own) H ε2 T Tv := by
    intro H ε2 T Tv σ2 hn hw I
    have key : ∀ j, j ∉ own → (wipe σ own)[j]? = σ2[j]? := fun j hj => by
      rw [← hw, wipe_get, if_neg hj]
    refine I.reslot (by rw [← hw, wipe_length]) (fun j d e => key j fun hj => hn j hj d e) fun j v e => key j fun hj => b.free (hk j hj) v e
  have unwipe : ∀ {H : Hp} {ε2 : Ep} {T : List VL.D} {Tv : List V}, (∀ i ∈ own, ∀ d, ε2[i]? ≠ some (some d)) → SI X.K b.1 (wipe σ own) H ε2 T Tv → SI X.K b.1 σ H ε2 T Tv := by
    intro H ε2 T Tv hn I
    have key : ∀ j, j ∉ own → σ[j]? = (wipe σ own)[j]? := fun j hj => by
      rw [wipe_get, if_neg hj]
    refine I.reslot (by rw [wipe_length]) (fun j d e => key j fun hj => hn j hj d e) fun j v e => key j fun hj => b.free (hk j hj) v e
  have fn : ∀ {ε : Ep}, ∀ i ∈ own, ∀ d, (forgetE own ε)[i]? ≠ some (some d) := fun {ε} i hi d e => by
    rw [forgetE_get, if_pos hi] at e
    cases h : ε[i]? <;> rw [h] at e <;> cases e
  have fn0 : ∀ i ∈ own, ∀ d, ε0[i]? ≠ some (some d) := fun i hi d e => by
    rw [pg, if_pos hi] at e
    cases h : ε[i]? <;> rw [h] at e <;> cases e
  let Iv := fun (i m : Nat) (H : Hp) => m = ds.length - i ∧ i ≤ ds.length ∧ ∃ ε2 acc, (∀ i ∈ own, ∀ d, ε2[i]? ≠ some (some d)) ∧ SI X.K b.1 (wipe σ own) H ε2 (T ++ (R ++ (pd ++ [.lst true acc]))) (Tv ++ (Rv ++ (pv ++ [.ref D]))) ∧ vLcL own g tt te (ds.drop i) acc ε2 fun acc ε' => Q acc (restore rs pd ε')
  refine ⟨Iv, ⟨ds.length, rfl, Nat.zero_le _, ε0, [], fn0, ?_, q⟩, ?_⟩
  · have I0 := wipeI fn0 rfl Ip
    have := SI.laid (ds := []) (vs := []) (T := T ++ (R ++ pd)) (Tv := Tv ++ (Rv ++ pv)) (by simpa using I0) hlR nD (.lst []) (d := .lst true []) fun G H' F e r => ⟨D, [], F, rfl, e, rfl, r⟩
    simpa only [List.append_assoc] using this
  rintro i m H2 ⟨rfl, hi, ε2, acc, hn2, I2, z2⟩
  have lpa : (pd ++ [VL.D.lst true acc]).length = (pv ++ [V.ref D]).length := by simp [lp]
  have IR : SI X.K b.1 (wipe σ own) H2 ε2 ((T ++ (pd ++ [.lst true acc])) ++ R) ((Tv ++ (pv ++ [.ref D])) ++ Rv) := by
    have := SI.swap (A := R) (B := pd ++ [.lst true acc]) (C := []) (Av := Rv) (Bv := pv ++ [.ref D]) (Cv := []) (by simpa using I2) hl hr lpa
    simpa using this
  have hl2 : (T ++ (pd ++ [VL.D.lst true acc])).length = (Tv ++ (pv ++ [V.ref D])).length := by simp [hl, lp]
  obtain ⟨go, stop⟩ := wk (wipe σ own) H2 ε2 _ _ i hl2 IR
  by_cases hlt : i < ds.length
  · right
    rw [List.drop_eq_getElem_cons hlt] at z2
    obtain ⟨g0, gy⟩ := go ds[i] (List.getElem?_eq_getElem hlt)
    refine ⟨g0, Iv (i + 1) (ds.length - (i + 1)), fun H' y => ⟨ds.length - (i + 1), by omega, y⟩, fun x H' y c => ?_⟩
    have I3 := gy x H' y
    have I4 : SI X.K b.1 (wipe σ own) H' ε2 (T ++ (R ++ ((pd ++ [.lst true acc]) ++ [ds[i]]))) (Tv ++ (Rv ++ ((pv ++ [.ref D]) ++ [x]))) :=
      SI.swap (A := pd ++ [.lst true acc]) (B := R) (C := [ds[i]]) (Av := pv ++ [.ref D]) (Bv := Rv) (Cv := [x]) (by simpa only [List.append_assoc] using I3) hl lpa hr
    have hl3 : (T ++ (R ++ (pd ++ [VL.D.lst true acc]))).length = (Tv ++ (Rv ++ (pv ++ [V.ref D]))).length := by simp [hl, hr, lp]
    refine (gs c).2 b _ H' ε2 (T ++ (R ++ (pd ++ [.lst true acc]))) (Tv ++ (Rv ++ (pv ++ [.ref D]))) ds[i] x _ _ (by simpa only [List.append_assoc] using I4) hl3 z2 fun ε3 σ3 H3 hw I5 z3 => ?_
    refine ⟨by rw [hw, wipe_wipe], fun c2 => ?_⟩
    refine (ts c2).2 b σ3 H3 ε3 _ _ Wn noX _ _ I5 z3 (fun k4 ε4 H4 I6 z4 => ?_) xl
    have hw3 : wipe σ3 own = wipe σ own := by rw [hw, wipe_wipe]
    cases k4 with
    | false => exact ⟨rfl, hlt, forgetE own ε4, acc, fn, wipeI fn hw3 I6.forget, z4⟩
    | true =>
      intro c3
      refine (es c3).2 b σ3 H4 ε4 _ _ Wn noX _ _ I6 z4 (fun yd yv ε5 H5 I7 z5 => ?_) xl
      have hl4 : (T ++ (R ++ pd)).length = (Tv ++ (Rv ++ pv)).length := hlR
      obtain ⟨vs, hv, lv, I8⟩ := SI.accPush (T := T ++ (R ++ pd)) (Tv := Tv ++ (Rv ++ pv)) (acc := acc) (y := yd) (p := D) (v := yv) (by simpa only [List.append_assoc, List.cons_append, List.nil_append] using I7) hl4
      refine ⟨vs, hv, by rw [lv]; exact k1m z5.1, rfl, hlt, forgetE own ε5, acc ++ [yd], fn, wipeI fn hw3 (SI.forget ?_), z5.2⟩
      simpa only [List.append_assoc, List.cons_append, List.nil_append] using I8
  · left
    have e : i = ds.length := by omega
    subst e
    rw [List.drop_length] at z2
    refine ⟨stop (Nat.le_refl _), ?_⟩
    have I9 := unwipe hn2 I2
    have I10 := SI.midDrops I9 hl hr
    exact k acc (.ref D) _ H2 (SI.restore hl hh lp I10) z2
def vLcK (k : Nat) (own : List Nat) (g : VTG) (tt : VTT) (te : VTE) : VTE := fun _ ε Q => ∃ m ks xs, ε[k]? = some (some (.dK m ks xs)) ∧
  vLcL own g tt te (ks.map keyKD) [] (pull own (ε.set k (some (.dK false ks (frzL xs))))).2.2 fun acc ε' => Q (.lst true acc) (restore (pull own (ε.set k (some (.dK false ks (frzL xs))))).1 (pull own (ε.set k (some (.dK false ks (frzL xs))))).2.1 ε')
theorem wk_keys {b : Bs} {a : Addr} {o : Obj} {ks : List Kc} {vs : List V} (h0 : b.H0 a = some (.frz o (.dK (kzip ks vs)))) (hf : a ∉ b.F0) (hl : ks.length = vs.length) :
    ∀ σ H ε T Tv i, T.length = Tv.length → SI X.K b σ H ε (T ++ []) (Tv ++ []) → (∀ d, (ks.map keyKD)[i]? = some d → (Itk a o (kzip ks vs)).go i H ∧ ∀ x H', (Itk a o (kzip ks vs)).yld i H x H' → SI X.K b σ H' ε (T ++ ([] ++ [d])) (Tv ++ ([] ++ [x]))) ∧ ((ks.map keyKD).length ≤ i → (Itk a o (kzip ks vs)).stop i H) := by
  intro σ H ε T Tv i hT I
  have kl : (kzip ks vs).length = ks.length := by unfold kzip; rw [List.length_zip, List.length_map]; omega
  have I2 : SI X.K b σ H ε T Tv := by simpa using I
  have ha : H a = some (.frz o (.dK (kzip ks vs))) := by
    obtain ⟨G, F, Ft, J⟩ := id I2
    exact J.keep _ _ h0 hf
  refine ⟨fun d hd => ?_, fun h => ⟨ha, by rw [List.length_map] at h; omega⟩⟩
  have hlt : i < ks.length := by
    have := (List.getElem?_eq_some_iff.mp hd).1
    simpa using this
  have ed : d = keyKD ks[i] := by
    rw [List.getElem?_map, List.getElem?_eq_getElem hlt] at hd
    exact (Option.some.inj hd).symm
  subst ed
  refine ⟨⟨ha, by omega⟩, fun x H' y => ?_⟩
  obtain ⟨rfl, k, w, hk, rfl⟩ := y
  have ek : k = kc ks[i] := by
    unfold kzip at hk
    have := (List.getElem?_zip_eq_some.mp hk).1
    rw [List.getElem?_map, List.getElem?_eq_getElem hlt] at this
    exact (Option.some.inj this).symm
  subst ek
  exact I2.push (d := keyKD ks[i]) (v := kV (kc ks[i])) fun G => keyKD_rp _
theorem vs_setLcK {k i : Nat} {y x : Str} {py p : Pos} {elt tg : Expr} {ifs : List Expr} {scope : Scope} {own : List (Str × Nat)} {pos spos : Pos} {g : VTG} {tt : VTT} {te : VTE} (hc : X.calm = true) (hN : X.N.Nodup) (ok : BlkOk X.N X.env.scope scope own) (hk : ∀ i ∈ own.map (·.2), X.κ[i]? ≠ some true)
    (hNk : X.N[k]? = some x) (hvk : Vis X.env.scope x)
    (hg : ∀ c : BI, VTo (X.blk c.1 c.2.1 scope c.2.2.1 c.2.2.2.1 c.2.2.2.2) (own.map (·.2)) tg g) (ht : ∀ c : BI, VTs (X.blk c.1 c.2.1 scope c.2.2.1 c.2.2.2.1 c.2.2.2.2) ifs tt) (he : ∀ c : BI, VE (X.blk c.1 c.2.1 scope c.2.2.1 c.2.2.2.1 c.2.2.2.2) elt te)
    (hy : X.N[i]? = some y) (hyl : X.env.scope.names.lookup y = some .local) (hky : X.κ[i]? ≠ some true) (hsw : swapsWith (.ListComp elt [⟨tg, .Name x p, ifs, 0⟩] scope pos) (some (.Name y py)) spos.line X.env = pure true)
    (hd : (x == ("__debug__" : Str)) = false := by decide) (hcd : (x == ("__classdict__" : Str)) = false := by decide)
    (hs : ∀ z, foldedSetIterable (.Name x p) X.env z = pure z := by intro _; rfl) : VS X (.Assign [.Name y py] (.ListComp elt [⟨tg, .Name x p, ifs, 0⟩] scope pos) spos) (vAsg i (vStill (vLcK k (own.map (·.2)) g tt te))) := by
  obtain ⟨g', tt', te', h1, h2, h3, run⟩ := lc_runB hk hg ht he
  have F := ps_setLc hc hN hy hyl hsw (pi_keys (tg := tg) (pe_var (i := k) hNk hvk hd hcd)) ok (fun s H C cl fp => h1 ⟨s, H, C, cl, fp⟩) (fun s H C cl fp => h2 ⟨s, H, C, cl, fp⟩) (fun s H C cl fp => h3 ⟨s, H, C, cl, fp⟩) hs
  refine ⟨fun _ => fun D σ H => tLock (tAsg (tLc (iKeys (tVar k)) g' tt' te' (own.map (·.2))) (gName i)) D σ H ∨ tAsg (tLc (iKeys (tVar k)) g' tt' te' (own.map (·.2))) (gName i) D σ H, fun W tk => ps_or (ps_lock F) F, fun b σ H ε T Tv W N E I q l xl => ?_⟩
  obtain ⟨m, ks, xs, e0, q⟩ := q
  obtain ⟨v0, hs0, J0⟩ := I.mov e0
  have I1 := (J0.freeze I.lenT).back I.lenT hs0
  have e2 : (ε.set k none).set k (some (frz (.dK m ks xs))) = ε.set k (some (.dK false ks (frzL xs))) := by
    rw [List.set_set]; cases m <;> rfl
  rw [e2] at I1
  generalize hε : ε.set k (some (.dK false ks (frzL xs))) = ε1 at I1 q
  have hi := (List.getElem?_eq_some_iff.mp e0).1
  have e : ε1[k]? = some (some (.dK false ks (frzL xs))) := by rw [← hε]; simp [hi]
  obtain ⟨a, vs, hs2, hl, hcase⟩ := I1.dictAt e
  have hlT := I.lenT
  have fin : ∀ (bL : Bx X) (o : Obj) (H1 : Hp) (E' : Ends), SI X.K bL.1 σ H1 ε1 T Tv → bL.1.H0 a = some (.frz o (.dK (kzip ks vs))) → a ∉ bL.1.F0 → H1 a = some (.frz o (.dK (kzip ks vs))) →
      (∀ σ' H' ε', SI X.K bL.1 σ' H' ε' T Tv → N.nx ε' → E'.nx σ' H') → tAsg (tLc (iKeys (tVar k)) g' tt' te' (own.map (·.2))) (gName i) E' σ H1 := by
    intro bL o H1 E' I2 h0 hf hH nx
    refine ⟨.ref a, hs2, a, o, rfl, .inl ⟨_, hH, ?_⟩⟩
    refine run bL σ H1 ε1 T Tv [] [] (ks.map keyKD) (Itk a o (kzip ks vs)) (fun acc ε' => i < ε'.length ∧ N.nx (ε'.set i (some (frz (.lst true acc))))) (fun x H1 => gName i x σ H1 E'.nx) (by simpa using I2) hlT rfl (wk_keys h0 hf hl) q fun acc u ε' H' I' z' => ?_
    exact nx _ H' _ ((I'.freeze hlT).store hlT z'.1 (bL.free hky)) z'.2
  rcases hcase with ⟨G, F0, Ft, J, hG⟩ | ⟨o, hH⟩
  · left
    refine ⟨a, _, J.sub _ _ hG, trivial, fun od => ?_⟩
    obtain ⟨bL, k1, k2, k3, I2, out⟩ := J.lock hG od
    have bx : ∀ (j : Nat) u, bL.kv[j]? = some (some u) → X.κ[j]? = some true := fun j u z => b.2 j u (by rw [← k1]; exact z)
    refine fin ⟨bL, bx⟩ od _ _ I2 (by show bL.H0 a = _; rw [k2]; exact upd_same) k3 upd_same fun σ' H' ε' J' z' => ?_
    exact ⟨(out _ _ _ _ _ J').1, l.nx _ _ _ (out _ _ _ _ _ J').2 z'⟩
  · right
    obtain ⟨bL, k1, k2, k3, I2, out⟩ := I1.held
    have bx : ∀ (j : Nat) u, bL.kv[j]? = some (some u) → X.κ[j]? = some true := fun j u z => b.2 j u (by rw [← k1]; exact z)
    exact fin ⟨bL, bx⟩ o H _ I2 (by show bL.H0 a = _; rw [k2]; exact hH) (k3 a _ _ hH) hH fun σ' H' ε' J' z' => l.nx _ _ _ (out _ _ _ _ _ J') z'
end
end VL
namespace VL
open PySem PySem.Spec PyProof.Rows L2 VL
theorem int_nodup_len : ∀ (l D : List Int), l.Nodup → (∀ x ∈ l, x ∈ D) → l.length ≤ D.length
  | [], _, _, _ => Nat.zero_le _
  | x :: l, D, hn, hs => by
    obtain ⟨h1, h2⟩ := List.nodup_cons.mp hn
    have hx : x ∈ D := hs x List.mem_cons_self
    have ih := int_nodup_len l (D.erase x) h2 fun y hy => (List.mem_erase_of_ne fun e => h1 (by rw [← e]; exact hy)).mpr (hs y (List.mem_cons_of_mem _ hy))
    have e := List.length_erase_of_mem hx
    have hp := List.length_pos_of_mem hx
    rw [List.length_cons]
    omega
def tSortSetW (K : PySem.W.Frag) (te : TE) : TE := fun σ H Q => te σ H fun v H1 => ∃ (a : Addr) (ns : List Int), v = .ref a ∧ SqL K H1 a (ns.map V.int) ∧ (ns.length < 4000 ∧ ∃ D : List Int, D.length < 64 ∧ ∀ k ∈ ns, k ∈ D) ∧
  ∀ (ms : List Int) (p : Addr), ms.Pairwise (· < ·) → (∀ k, k ∈ ms ↔ k ∈ ns) → H1 p = none → Q (.ref p) (upd H1 p (.lst (ms.map V.int)))
theorem pe_sortSetW {X : Cx} {e : Expr} {te : TE} {p p2 pos pos2 : Pos} (hc : X.calm = true) (hg : Gl X "sorted") (hm : X.mg "sorted" = none) (hg2 : Gl X "set") (hm2 : X.mg "set" = none) (he : PE X e te)
    (hs : starEach [e] X.env = (false, eval e X.env) :: starEach [] X.env := by rfl)
    (hs2 : starEach [.Call (.Name "set" p2) [e] [] pos2] X.env = (false, eval (.Call (.Name "set" p2) [e] [] pos2) X.env) :: starEach [] X.env := by rfl) :
    PE X (.Call (.Name "sorted" p) [.Call (.Name "set" p2) [e] [] pos2] [] pos) (tSortSetW X.K te) := by
  refine ⟨fun pins s σ H Q I h => ?_⟩
  refine Call_ (ld_blt I hg hm boot_sorted (PyProof.Rows.callWith_builtin1 (PyProof.Rows.args_cons (Call_ (ld_blt I hg2 hm2 PyProof.Rows.boot_set (PyProof.Rows.callWith_type1 (PyProof.Rows.args_cons (thn (he.run pins s σ H _ I h) fun u s1 ⟨v, H1, I1, r1, q1⟩ => PyProof.Rows.args_nil ?_) hs) hs rfl))) hs2) hs2 rfl))
  obtain ⟨a, ns, ev, hq, ⟨hl, D, hD, hin⟩, q⟩ := q1
  subst ev
  obtain rfl : u = Value.ref a := r1
  obtain ⟨its, rv, pl, hz⟩ := I1.list hq
  have hcalm := I1.ok.hd hc
  refine set_list ns hcalm pl.isList (by simpa using ints_of_vals rv) (by unfold scanBound; omega) fun h' tk c hR hcn keep => PyProof.Rows.args_nil ?_
  have hc64 : c < 64 := by
    obtain ⟨_, es, _, _, _, _, _, _, nd, mem, _, _, ez, _⟩ := hR
    have := int_nodup_len (es.toList.map keyOf) D nd fun k hk => hin k (of_decide_eq_true ((mem k).mpr hk))
    rw [List.length_map, Array.length_toList, ez] at this
    omega
  refine sorted_set (s := { s1 with heap := h', toks := tk }) hR hcalm hc64 fun s' p0 out c2 ms k1 g1 o1 hp0 hget hout hpw hmem hlen => ?_
  have all : ∀ b o, s1.heap.get? b = some o → s'.heap.get? b = some o := fun b o e => k1 b o (keep b o e)
  have lt0 : s1.heap.objs.size ≤ p0 := by
    obtain ⟨os, es, ep, t, ho, _⟩ := hR
    have h1 : s1.heap.objs.size < h'.objs.size := Heap.lt_size ho
    exact Nat.le_trans (Nat.le_of_lt h1) hp0
  have hml : ms.length ≤ sizeLine := by
    have h64 : (64 : Nat) ≤ sizeLine := by decide
    omega
  refine ⟨.ref _, upd H1 p0 (.lst (ms.map V.int)), I1.call' (ch := []) o1 (Un.laid all lt0 (I1.hok.fresh lt0)) (I1.hok.laid all lt0 ⟨by rw [List.length_map]; exact hml, out.toList, c2, vals_of_ints hout, ?_⟩) (by rw [g1]; exact I1.bare) (fun _ z => nomatch z), rfl, q ms p0 hpw (fun k => by rw [hmem k, decide_eq_true_eq]) (I1.hok.fresh lt0)⟩
  rw [Array.toArray_toList]
  exact hget
/-- sorted(set(xs)) -/
def sSortSetW : List D → (D → Prop) → Prop := fun ds Q => ∃ m xs, ∃ ns : List Int, ds = [.lst m xs] ∧ xs = ns.map D.int ∧ (ns.length < 4000 ∧ ∃ D : List Int, D.length < 64 ∧ ∀ k ∈ ns, k ∈ D) ∧ ∀ ms : List Int, ms.Pairwise (· < ·) → (∀ k, k ∈ ms ↔ k ∈ ns) → Q (.lst true (ms.map D.int))
section
variable {X : Cv}
theorem ve_sortSetW {e : Expr} {r : Option Nat} {t : VTE} {p p2 pos pos2 : Pos} (hc : X.calm = true) (hg : Gl X.toCx "sorted") (hm : X.mg "sorted" = none) (hg2 : Gl X.toCx "set") (hm2 : X.mg "set" = none) (h : VG X e r t)
    (hs : starEach [e] X.env = (false, eval e X.env) :: starEach [] X.env := by rfl)
    (hs2 : starEach [.Call (.Name "set" p2) [e] [] pos2] X.env = (false, eval (.Call (.Name "set" p2) [e] [] pos2) X.env) :: starEach [] X.env := by rfl) :
    VE X (.Call (.Name "sorted" p) [.Call (.Name "set" p2) [e] [] pos2] [] pos) (vOp sSortSetW [r] (va1 t)) := by
  obtain ⟨t', a1, a2⟩ := h.ex
  refine ⟨fun W => tSortSetW X.K (t' W), fun W tk => pe_sortSetW hc hg hm hg2 hm2 (a1 W tk) hs hs2, fun b σ H ε T Tv W N Q Q' I q k x => ?_⟩
  refine a2 b σ H ε T Tv W N _ _ I q (fun d v ε1 H1 J hd z => ?_) x
  have op : OpN X.K (fun vs H Q => ∃ x, vs = [x] ∧ ∃ (a : Addr) (ns : List Int), x = .ref a ∧ SqL X.K H a (ns.map V.int) ∧ (ns.length < 4000 ∧ ∃ D : List Int, D.length < 64 ∧ ∀ k ∈ ns, k ∈ D) ∧
      ∀ (ms : List Int) (p : Addr), ms.Pairwise (· < ·) → (∀ k, k ∈ ms ↔ k ∈ ns) → H p = none → Q (.ref p) (upd H p (.lst (ms.map V.int)))) sSortSetW := OpN.mk fun G H ds vs F Q Q' hs r q k => by
    obtain ⟨m, xs, ns, rfl, rfl, h1, q⟩ := q
    obtain ⟨v, rfl, rx⟩ := r.one'
    have hx : ∃ a us F', v = .ref a ∧ SqL X.K H a us ∧ RpL X.K G H (ns.map D.int) us F' := by
      cases m with
      | false => obtain ⟨a, us, e, s, _, r⟩ := rx; exact ⟨a, us, _, e, hs.sqL s, r⟩
      | true => obtain ⟨a, us, F', e, s, _, r⟩ := rx; exact ⟨a, us, _, e, SqL.of s, r⟩
    obtain ⟨a, us, F', rfl, s, r⟩ := hx
    rw [ints_vs r] at s
    exact ⟨_, rfl, a, ns, rfl, s, h1, fun ms p hpw hmem hp => k _ _ _ (.lst (ints_rp ms) hp) (q ms hpw hmem)⟩
  obtain ⟨v', e', z'⟩ := op.run (ds := [d]) (vs := [v]) (rs := [r]) (Q := Q) (Q' := Q') I.lenT rfl J hd z k
  obtain ⟨rfl, _⟩ := List.cons.inj e'
  exact z'
end
theorem e_sortSetW {m : Bool} {xs : List Nat} {n : Nat} {Q : D → Prop} (h : ∀ x ∈ xs, x < n) (hn : n < 64) (hl : xs.length < 4000) (q : Q (.lst true (natsD (asc xs n)))) : sSortSetW [.lst m (natsD xs)] Q := by
  refine ⟨m, _, _, rfl, natsD_ints xs, ⟨by simpa using hl, (List.range n).map (fun k : Nat => (k : Int)), by simpa using hn, fun k hk => ?_⟩, fun ms hpw hmem => ?_⟩
  · obtain ⟨z, hz, e⟩ := List.mem_map.mp hk
    exact List.mem_map.mpr ⟨z, List.mem_range.mpr (h z hz), e⟩
  have : ms = (asc xs n).map fun k : Nat => (k : Int) := by
    refine pw_uniq hpw (List.pairwise_map.mpr (List.Pairwise.imp (fun {a b} h => by show (a : Int) < (b : Int); omega) (asc_pw xs n))) fun k => ?_
    rw [hmem]
    constructor
    · intro hk
      obtain ⟨z, hz, e⟩ := List.mem_map.mp hk
      exact List.mem_map.mpr ⟨z, (mem_asc h).mpr hz, e⟩
    · intro hk
      obtain ⟨z, hz, e⟩ := List.mem_map.mp hk
      exact List.mem_map.mpr ⟨z, (mem_asc h).mp hz, e⟩
  rw [this, ← natsD_ints]
  exact q
end VL
namespace VL
open PySem PySem.Spec PyProof.Rows L2 VL
theorem kIx_mem {α : Type} [DecidableEq α] : ∀ {ks : List α} {k : α}, k ∈ ks → ∃ j, kIx ks k = some j
  | a :: ks, k, h => by
    unfold kIx
    by_cases e : a = k
    · rw [if_pos e]; exact ⟨0, rfl⟩
    · rw [if_neg e]
      obtain ⟨j, hj⟩ := kIx_mem (ks := ks) (k := k) ((List.mem_cons.mp h).resolve_left fun z => e z.symm)
      rw [hj]
      exact ⟨j + 1, rfl⟩
theorem kIx_not {α : Type} [DecidableEq α] {ks : List α} {k : α} (h : k ∉ ks) : kIx ks k = none := by
  cases e : kIx ks k with
  | none => rfl
  | some j => exact absurd (List.mem_of_getElem? (kIx_get e)) h
abbrev VRow := Cs → Nat
def updC (f : VRow) (x : Cs) (v : Nat) : VRow := fun y => if y = x then v else f y
theorem updC_self {f : VRow} {x : Cs} {v : Nat} : updC f x v x = v := if_pos rfl
theorem updC_ne {f : VRow} {x y : Cs} {v : Nat} (h : y ≠ x) : updC f x v y = f y := if_neg h
/-- a row of versions as a dict -/
def verD (m : Bool) (nm : List Cs) (f : VRow) : D := .dK m (nm.map Sum.inr) (nm.map fun x => .int (f x : Int))
theorem ver_congr {m : Bool} {nm : List Cs} {f g : VRow} (h : ∀ x ∈ nm, f x = g x) : verD m nm f = verD m nm g := by
  unfold verD
  congr 1
  exact List.map_congr_left fun x hx => by rw [h x hx]
theorem ver_fz {nm : List Cs} {f : VRow} : isFz (verD false nm f) = true := by
  show (!false && isFzL (nm.map fun x => D.int (f x : Int))) = true
  rw [isFzL_all]; simp [isFz]
theorem ver_frz {m : Bool} {nm : List Cs} {f : VRow} : frz (verD m nm f) = verD false nm f := by
  show D.dK false _ (frzL _) = _
  rw [frzL_id (by rw [isFzL_all]; simp [isFz])]
  rfl
theorem inr_mem {nm : List Cs} {x : Cs} : (Sum.inr x : Kc) ∈ nm.map (Sum.inr : Cs → Kc) ↔ x ∈ nm := by simp
theorem ver_at {nm : List Cs} {f : VRow} {x : Cs} {j : Nat} (h : kIx (nm.map (Sum.inr : Cs → Kc)) (.inr x) = some j) : (nm.map fun x => D.int (f x : Int))[j]? = some (.int (f x : Int)) ∧ nm[j]? = some x := by
  have e := kIx_get h
  rw [List.getElem?_map] at e
  cases hj : nm[j]? with
  | none => rw [hj] at e; cases e
  | some y =>
    rw [hj] at e
    have : y = x := by simpa using e
    subst this
    exact ⟨by rw [List.getElem?_map, hj]; rfl, rfl⟩
theorem ver_ix {m : Bool} {nm : List Cs} {f : VRow} {x : Cs} (h : x ∈ nm) : ixD (verD m nm f) (.str x) = some (.int (f x : Int)) := by
  obtain ⟨j, hj⟩ := kIx_mem (inr_mem.mpr h)
  show (some (Sum.inr x : Kc)).bind (fun k => (kIx (nm.map (Sum.inr : Cs → Kc)) k).bind fun j => (nm.map fun x => D.int (f x : Int))[j]?) = _
  rw [Option.bind_some, hj, Option.bind_some]
  exact (ver_at hj).1
theorem ver_getM {nm : List Cs} {f : VRow} {x : Cs} (h : x ∈ nm) : getM (verD true nm f) (.str x) = some (.int (f x : Int)) := by
  obtain ⟨j, hj⟩ := kIx_mem (inr_mem.mpr h)
  show (some (Sum.inr x : Kc)).bind (fun k => (kIx (nm.map (Sum.inr : Cs → Kc)) k).bind fun j => (nm.map fun x => D.int (f x : Int))[j]?) = _
  rw [Option.bind_some, hj, Option.bind_some]
  exact (ver_at hj).1
theorem ver_put {nm : List Cs} {f : VRow} {x : Cs} {v : Nat} (nd : nm.Nodup) (few : nm.length < 1000000) (h : x ∈ nm) : putD (verD true nm f) (.str x) (.int (v : Int)) = some (verD true nm (updC f x v)) := by
  obtain ⟨j, hj⟩ := kIx_mem (inr_mem.mpr h)
  have a := ver_at (f := f) hj
  show (if (nm.map fun x => D.int (f x : Int)).length < 1000000 then (some (Sum.inr x : Kc)).map (fun k => match kIx (nm.map (Sum.inr : Cs → Kc)) k with | some j => D.dK true (nm.map (Sum.inr : Cs → Kc)) ((nm.map fun x => D.int (f x : Int)).set j (D.int (v : Int))) | none => .dK true (nm.map (Sum.inr : Cs → Kc) ++ [k]) ((nm.map fun x => D.int (f x : Int)) ++ [D.int (v : Int)])) else none) = _
  rw [if_pos (by rw [List.length_map]; exact few), Option.map_some, hj]
  unfold verD
  have e : (nm.map fun x => D.int (f x : Int)).set j (D.int (v : Int)) = nm.map fun y => D.int (updC f x v y : Int) := by
    refine List.ext_getElem? fun i => ?_
    rw [List.getElem?_set, List.getElem?_map, List.getElem?_map]
    obtain ⟨hj1, hj2⟩ := List.getElem?_eq_some_iff.mp a.2
    by_cases e : j = i
    · subst e
      rw [if_pos rfl, if_pos (by rw [List.length_map]; exact hj1), a.2]
      show _ = some (D.int (updC f x v x : Int))
      rw [updC_self]
    · rw [if_neg e]
      cases hi : nm[i]? with
      | none => rfl
      | some y =>
        have ne : y ≠ x := fun z => by
          subst z
          obtain ⟨hi1, hi2⟩ := List.getElem?_eq_some_iff.mp hi
          rcases Nat.lt_trichotomy j i with lt | lt | lt
          · exact (List.pairwise_iff_getElem.mp nd j i hj1 hi1 lt) (hj2.trans hi2.symm)
          · exact e lt
          · exact (List.pairwise_iff_getElem.mp nd i j hi1 hj1 lt) (hi2.trans hj2.symm)
        show some (D.int (f y : Int)) = some (D.int (updC f x v y : Int))
        rw [updC_ne ne]
  show some (D.dK true _ ((nm.map fun x => D.int (f x : Int)).set j (D.int (v : Int)))) = _
  rw [e]
theorem ver_new {nm : List Cs} {f : VRow} {x : Cs} {v : Nat} (few : nm.length < 1000000) (h : x ∉ nm) : putD (verD true nm f) (.str x) (.int (v : Int)) = some (verD true (nm ++ [x]) (updC f x v)) := by
  have hk : kIx (nm.map (Sum.inr : Cs → Kc)) (.inr x) = none := kIx_not fun z => h (inr_mem.mp z)
  show (if (nm.map fun x => D.int (f x : Int)).length < 1000000 then (some (Sum.inr x : Kc)).map (fun k => match kIx (nm.map (Sum.inr : Cs → Kc)) k with | some j => D.dK true (nm.map (Sum.inr : Cs → Kc)) ((nm.map fun x => D.int (f x : Int)).set j (D.int (v : Int))) | none => .dK true (nm.map (Sum.inr : Cs → Kc) ++ [k]) ((nm.map fun x => D.int (f x : Int)) ++ [D.int (v : Int)])) else none) = _
  rw [if_pos (by rw [List.length_map]; exact few), Option.map_some, hk]
  unfold verD
  show some (D.dK true _ _) = some (D.dK true _ _)
  rw [List.map_append, List.map_append]
  have e : (nm.map fun y => D.int (updC f x v y : Int)) = nm.map fun y => D.int (f y : Int) := List.map_congr_left fun y hy => by rw [updC_ne fun z => h (by rw [← z]; exact hy)]
  rw [e]
  show some (D.dK true _ (_ ++ [D.int (v : Int)])) = some (D.dK true _ (_ ++ [D.int (updC f x v x : Int)]))
  rw [updC_self]
  rfl
def truesD (m : Bool) (ks : List Kc) : D := .dK m ks (ks.map fun _ => .bl true)
def addK {α : Type} [DecidableEq α] (acc : List α) (x : α) : List α := if x ∈ acc then acc else acc ++ [x]
/-- each once, as first met -/
def ddK {α : Type} [DecidableEq α] : List α → List α → List α
  | acc, [] => acc
  | acc, x :: xs => ddK (addK acc x) xs
theorem ddK_nodup {α : Type} [DecidableEq α] : ∀ (xs : List α) {acc : List α}, acc.Nodup → (ddK acc xs).Nodup
  | [], acc, h => h
  | x :: xs, acc, h => by
    rw [ddK, addK]
    by_cases e : x ∈ acc
    · rw [if_pos e]; exact ddK_nodup xs h
    · rw [if_neg e]
      exact ddK_nodup xs (List.nodup_append.mpr ⟨h, List.nodup_cons.mpr ⟨(fun z => nomatch z), List.nodup_nil⟩, fun a ha b hb => by
        rw [List.mem_singleton.mp hb]; exact fun z => e (by rw [← z]; exact ha)⟩)
theorem ddK_mem {α : Type} [DecidableEq α] {y : α} : ∀ (xs : List α) {acc : List α}, y ∈ ddK acc xs ↔ y ∈ acc ∨ y ∈ xs
  | [], acc => by rw [ddK]; simp
  | x :: xs, acc => by
    rw [ddK, ddK_mem xs, addK]
    by_cases e : x ∈ acc
    · rw [if_pos e]
      constructor
      · rintro (h | h)
        · exact .inl h
        · exact .inr (List.mem_cons_of_mem _ h)
      · rintro (h | h)
        · exact .inl h
        · rcases List.mem_cons.mp h with rfl | h
          · exact .inl e
          · exact .inr h
    · rw [if_neg e, List.mem_append, List.mem_singleton, List.mem_cons]
      constructor
      · rintro ((h | h) | h)
        · exact .inl h
        · exact .inr (.inl h)
        · exact .inr (.inr h)
      · rintro (h | h | h)
        · exact .inl (.inl h)
        · exact .inl (.inr h)
        · exact .inr h
theorem ddK_len {α : Type} [DecidableEq α] : ∀ (xs : List α) {acc : List α}, (ddK acc xs).length ≤ acc.length + xs.length
  | [], acc => by rw [ddK]; simp
  | x :: xs, acc => by
    rw [ddK, addK]
    have := ddK_len xs (acc := if x ∈ acc then acc else acc ++ [x])
    have l : (if x ∈ acc then acc else acc ++ [x]).length ≤ acc.length + 1 := by split <;> simp
    rw [List.length_cons]
    omega
theorem tru_put {ks : List Kc} {k : Kc} (few : ks.length < 1000000) : putD (truesD true ks) (keyKD k) (.bl true) = some (truesD true (addK ks k)) := by
  have hk : keyD (keyKD k) = some k := by cases k <;> rfl
  have e : putD (truesD true ks) (keyKD k) (.bl true) = if (ks.map fun _ => D.bl true).length < 1000000 then (keyD (keyKD k)).map (fun k => match kIx ks k with | some j => D.dK true ks ((ks.map fun _ => D.bl true).set j (D.bl true)) | none => .dK true (ks ++ [k]) ((ks.map fun _ => D.bl true) ++ [D.bl true])) else none := by cases k <;> rfl
  rw [e, if_pos (by rw [List.length_map]; exact few), hk, Option.map_some]
  unfold addK
  by_cases h : k ∈ ks
  · obtain ⟨j, hj⟩ := kIx_mem h
    rw [hj, if_pos h]
    unfold truesD
    show some (D.dK true ks ((ks.map fun _ => D.bl true).set j (D.bl true))) = _
    have : (ks.map fun _ => D.bl true).set j (D.bl true) = ks.map fun _ => D.bl true := by
      refine List.ext_getElem? fun i => ?_
      rw [List.getElem?_set]
      by_cases e : j = i
      · subst e
        have := kIx_lt hj
        rw [if_pos rfl, if_pos (by rw [List.length_map]; exact this), List.getElem?_map, List.getElem?_eq_getElem this]
        rfl
      · rw [if_neg e]
    rw [this]
  · rw [kIx_not h, if_neg h]
    unfold truesD
    show some (D.dK true (ks ++ [k]) _) = _
    rw [List.map_append]
    rfl
theorem tru_fzL {ks : List Kc} : isFzL (ks.map fun _ => D.bl true) = true := by rw [isFzL_all]; simp [isFz]
def txtsO : Opd → List Cs
  | .inr s => [s]
  | _ => []
def txtsN : Nd → List Cs
  | .sum x a _ b _ => x :: (txtsO a ++ txtsO b)
  | .test a _ b _ _ => txtsO a ++ txtsO b
  | _ => []
def txtsG (g : List Nd) : List Cs := g.flatMap txtsN
def signs8 : List Cs := [[43], [45], [47], cRest, [38], [94], [60], [61]]
def sgnN : Nd → Option Cs
  | .sum _ _ s _ _ => some s
  | .test _ s _ _ _ => some s
  | _ => none
/-- few names, none a sign -/
structure NmG (g : List Nd) (M : List Cs) : Prop where
  few : M.length < 60
  mem : ∀ x ∈ g, ∀ t ∈ txtsN x, t ∈ M
  off : ∀ t ∈ M, t ∉ signs8
  good : ∀ t ∈ M, Cs.good t = true
  sgn : ∀ x ∈ g, ∀ s, sgnN x = some s → s ∈ signs8
theorem cs_nodup_len : ∀ (l D : List Cs), l.Nodup → (∀ x ∈ l, x ∈ D) → l.length ≤ D.length
  | [], _, _, _ => Nat.zero_le _
  | x :: l, D, hn, hs => by
    obtain ⟨h1, h2⟩ := List.nodup_cons.mp hn
    have hx : x ∈ D := hs x List.mem_cons_self
    have ih := cs_nodup_len l (D.erase x) h2 fun y hy => (List.mem_erase_of_ne fun e => h1 (by rw [← e]; exact hy)).mpr (hs y (List.mem_cons_of_mem _ hy))
    have e := List.length_erase_of_mem hx
    have hp := List.length_pos_of_mem hx
    rw [List.length_cons]
    omega
def namesG (g : List Nd) : List Cs := sortK (ddK [] (txtsG g))
theorem namesG_mem {g : List Nd} {t : Cs} : t ∈ namesG g ↔ ∃ x ∈ g, t ∈ txtsN x := by
  unfold namesG
  rw [sortK_mem, ddK_mem]
  unfold txtsG
  rw [List.mem_flatMap]
  simp
theorem namesG_nodup (g : List Nd) : (namesG g).Nodup := (sortK_perm _).nodup_iff.mpr (ddK_nodup _ List.nodup_nil)
theorem NmG.len {g : List Nd} {M : List Cs} (h : NmG g M) : (namesG g).length ≤ M.length := cs_nodup_len _ _ (namesG_nodup g) fun t ht => by
  obtain ⟨x, hx, hm⟩ := namesG_mem.mp ht
  exact h.mem x hx t hm
end VL
namespace VL
open PySem PySem.Spec PyProof.Rows L2 VL
structure Vst where
  gv : VRow
  A : List VRow
  B : List VRow
def rowAt (L : List VRow) (k : Nat) : VRow := L.getD k fun _ => 0
theorem rowAt_lt {L : List VRow} {f : VRow} {k : Nat} (h : k < L.length) : rowAt (L ++ [f]) k = rowAt L k := by
  unfold rowAt
  rw [List.getD_eq_getElem?_getD, List.getD_eq_getElem?_getD, List.getElem?_append_left h]
theorem rowAt_end {L : List VRow} {f : VRow} {k : Nat} (h : k = L.length) : rowAt (L ++ [f]) k = f := by
  subst h
  unfold rowAt
  rw [List.getD_eq_getElem?_getD, List.getElem?_concat_length]; rfl
theorem rowAt_get {L : List VRow} {k : Nat} (h : k < L.length) : L[k]? = some (rowAt L k) := by
  unfold rowAt
  rw [List.getD_eq_getElem?_getD, List.getElem?_eq_getElem h]; rfl
/-- the nodes from which ways come, the begin as -1 -/
structure SrcOk (n : Nat) (S : List (List Int)) : Prop where
  pos : 0 < n
  few : n ≤ 62
  len : S.length = n
  row : ∀ (k : Nat) r, S[k]? = some r → (∀ s ∈ r, s = -1 ∨ (0 ≤ s ∧ s < (n : Int))) ∧ r.length ≤ n + 1 ∧ ((k = 0 ∧ ∃ r', r = -1 :: r') ∨ (0 < k ∧ -1 ∉ r ∧ ∃ s ∈ r, 0 ≤ s ∧ s < (k : Int)))
def sumN : Nd → Option Cs
  | .sum x _ _ _ _ => some x
  | _ => none
def enterV (S : List (List Int)) (k : Nat) (V : Vst) : Vst := match S[k]? with
  | some [s] => if s = -1 then ⟨V.gv, V.A ++ [(fun _ => 0 : VRow)], V.B⟩ else ⟨V.gv, V.A ++ [rowAt V.B s.toNat], V.B⟩
  | _ => ⟨fun x => V.gv x + 1, V.A ++ [(fun x => V.gv x + 1 : VRow)], V.B⟩
def passV (k : Nat) (x : Nd) (V : Vst) : Vst := match sumN x with
  | some y => ⟨updC V.gv y (V.gv y + 1), V.A, V.B ++ [updC (rowAt V.A k) y (V.gv y + 1)]⟩
  | none => ⟨V.gv, V.A, V.B ++ [rowAt V.A k]⟩
def goV (S : List (List Int)) : Nat → List Nd → Vst → Vst
  | _, [], V => V
  | k, x :: xs, V => goV S (k + 1) xs (passV k x (enterV S k V))
def verG (S : List (List Int)) (g : List Nd) : Vst := goV S 0 g ⟨fun _ => 0, [], []⟩
def manyS (S : List (List Int)) (k : Nat) : Prop := ∃ r, S[k]? = some r ∧ 1 < r.length
theorem enter_A (S : List (List Int)) (k : Nat) (V : Vst) : (enterV S k V).A.length = V.A.length + 1 ∧ (enterV S k V).B = V.B := by
  unfold enterV
  split
  · split <;> simp
  · simp
theorem pass_B (k : Nat) (x : Nd) (V : Vst) : (passV k x V).B.length = V.B.length + 1 ∧ (passV k x V).A = V.A := by
  unfold passV
  split <;> simp
theorem enter_many {S : List (List Int)} {k : Nat} {V : Vst} (h : manyS S k) : enterV S k V = ⟨fun x => V.gv x + 1, V.A ++ [(fun x => V.gv x + 1 : VRow)], V.B⟩ := by
  obtain ⟨r, e, hr⟩ := h
  unfold enterV
  rw [e]
  cases r with
  | nil => rfl
  | cons a t =>
    cases t with
    | nil => simp at hr
    | cons b u => rfl
/-- what holds ahead of a node -/
structure VInv (S : List (List Int)) (k : Nat) (V : Vst) : Prop where
  la : V.A.length = k
  lb : V.B.length = k
  le : ∀ p, p < k → ∀ x, rowAt V.A p x ≤ V.gv x ∧ rowAt V.B p x ≤ V.gv x
  jn : ∀ j, j < k → manyS S j → ∀ x, 1 ≤ rowAt V.A j x ∧ ∀ p, p < j → rowAt V.B p x < rowAt V.A j x
theorem VInv.enter {n : Nat} {S : List (List Int)} (so : SrcOk n S) {k : Nat} (hk : k < n) {V : Vst} (h : VInv S k V) :
    (∀ x, rowAt (enterV S k V).A k x ≤ (enterV S k V).gv x ∧ V.gv x ≤ (enterV S k V).gv x) ∧ (∀ p, p < k → rowAt (enterV S k V).A p = rowAt V.A p) ∧ (manyS S k → ∀ x, 1 ≤ rowAt (enterV S k V).A k x ∧ ∀ p, p < k → rowAt V.B p x < rowAt (enterV S k V).A k x) := by
  have hl : k < S.length := by rw [so.len]; exact hk
  obtain ⟨r, hr⟩ : ∃ r, S[k]? = some r := ⟨_, List.getElem?_eq_getElem hl⟩
  by_cases m : manyS S k
  · rw [enter_many m]
    refine ⟨fun x => ?_, fun p hp => rowAt_lt (by rw [h.la]; exact hp), fun _ x => ?_⟩
    · show rowAt (V.A ++ [(fun x => V.gv x + 1 : VRow)]) k x ≤ V.gv x + 1 ∧ V.gv x ≤ V.gv x + 1
      rw [rowAt_end h.la.symm]
      omega
    · show 1 ≤ rowAt (V.A ++ [(fun x => V.gv x + 1 : VRow)]) k x ∧ ∀ p, p < k → rowAt V.B p x < rowAt (V.A ++ [(fun x => V.gv x + 1 : VRow)]) k x
      rw [rowAt_end h.la.symm]
      exact ⟨by omega, fun p hp => by have := (h.le p hp x).2; omega⟩
  · obtain ⟨h1, h2, h3⟩ := so.row k r hr
    have r1 : r.length ≤ 1 := by
      rcases Nat.lt_or_ge 1 r.length with z | z
      · exact absurd ⟨r, hr, z⟩ m
      · exact z
    have e : ∃ s, r = [s] ∧ (s = -1 ∨ (0 ≤ s ∧ s < (k : Int))) := by
      cases r with
      | nil =>
        rcases h3 with ⟨_, r', e⟩ | ⟨_, _, s, hs, _⟩
        · cases e
        · cases hs
      | cons a t =>
        cases t with
        | cons b u => simp at r1
        | nil =>
          refine ⟨a, rfl, ?_⟩
          rcases h3 with ⟨_, r', e⟩ | ⟨_, _, s, hs, hs2⟩
          · injection e with e1 e2; exact .inl e1
          · rw [List.mem_singleton.mp hs] at hs2; exact .inr hs2
    obtain ⟨s, rfl, hs⟩ := e
    unfold enterV
    rw [hr]
    by_cases z : s = -1
    · subst z
      refine ⟨fun x => ?_, fun p hp => rowAt_lt (by rw [h.la]; exact hp), fun z => absurd z m⟩
      show rowAt (V.A ++ [(fun _ => 0 : VRow)]) k x ≤ V.gv x ∧ V.gv x ≤ V.gv x
      rw [rowAt_end h.la.symm]
      omega
    · have hs := hs.resolve_left z
      have lt : s.toNat < k := by omega
      simp only [if_neg z]
      refine ⟨fun x => ?_, fun p hp => rowAt_lt (by rw [h.la]; exact hp), fun z => absurd z m⟩
      rw [rowAt_end h.la.symm]
      exact ⟨(h.le _ lt x).2, Nat.le_refl _⟩
theorem VInv.step {n : Nat} {S : List (List Int)} (so : SrcOk n S) {k : Nat} (hk : k < n) (x : Nd) {V : Vst} (h : VInv S k V) : VInv S (k + 1) (passV k x (enterV S k V)) := by
  obtain ⟨e1, e2, e3⟩ := h.enter so hk
  obtain ⟨a1, a2⟩ := enter_A S k V
  generalize enterV S k V = U at e1 e2 e3 a1 a2
  obtain ⟨b1, b2⟩ := pass_B k x U
  have gv : ∀ y, U.gv y ≤ (passV k x U).gv y := fun y => by
    unfold passV
    cases sumN x with
    | none => exact Nat.le_refl _
    | some z =>
      show U.gv y ≤ updC U.gv z (U.gv z + 1) y
      unfold updC
      split
      · next e => subst e; omega
      · exact Nat.le_refl _
  have bk : ∀ y, rowAt (passV k x U).B k y ≤ (passV k x U).gv y := fun y => by
    have lb : k = U.B.length := by rw [a2, h.lb]
    unfold passV
    cases sumN x with
    | none =>
      show rowAt (U.B ++ [rowAt U.A k]) k y ≤ U.gv y
      rw [rowAt_end lb]
      exact (e1 y).1
    | some z =>
      show rowAt (U.B ++ [updC (rowAt U.A k) z (U.gv z + 1)]) k y ≤ updC U.gv z (U.gv z + 1) y
      rw [rowAt_end lb]
      unfold updC
      split
      · exact Nat.le_refl _
      · exact (e1 y).1
  have bp : ∀ p, p < k → rowAt (passV k x U).B p = rowAt V.B p := fun p hp => by
    have lb : p < U.B.length := by rw [a2, h.lb]; exact hp
    rw [← a2]
    unfold passV
    cases sumN x with
    | none => exact rowAt_lt lb
    | some z => exact rowAt_lt lb
  refine ⟨by rw [b2, a1, h.la], by rw [b1, a2, h.lb], fun p hp y => ?_, fun j hj m y => ?_⟩
  · rw [b2]
    have g := gv y
    rcases Nat.lt_or_ge p k with lt | ge
    · rw [e2 p lt, bp p lt]
      have := h.le p lt y
      have := (e1 y).2
      omega
    · have : p = k := by omega
      subst this
      have := (e1 y).1
      exact ⟨by omega, bk y⟩
  · rw [b2]
    rcases Nat.lt_or_ge j k with lt | ge
    · rw [e2 j lt]
      refine ⟨(h.jn j lt m y).1, fun p hp => ?_⟩
      rw [bp p (by omega)]
      exact (h.jn j lt m y).2 p hp
    · have : j = k := by omega
      subst this
      refine ⟨(e3 m y).1, fun p hp => ?_⟩
      rw [bp p hp]
      exact (e3 m y).2 p hp
theorem VInv.go {n : Nat} {S : List (List Int)} (so : SrcOk n S) : ∀ (xs : List Nd) {k : Nat} {V : Vst}, k + xs.length = n → VInv S k V → VInv S n (goV S k xs V)
  | [], k, V, hk, h => by
    have : k = n := by simpa using hk
    subst this
    exact h
  | x :: xs, k, V, hk, h => by
    rw [List.length_cons] at hk
    exact VInv.go so xs (by omega) (h.step so (by omega) x)
theorem ver_inv {g : List Nd} {S : List (List Int)} (so : SrcOk g.length S) : VInv S g.length (verG S g) :=
  VInv.go so g (by simp) ⟨rfl, rfl, fun _ h => absurd h (Nat.not_lt_zero _), fun _ h => absurd h (Nat.not_lt_zero _)⟩
def verF (V : Vst) (s : Int) (x : Cs) : Nat := if s = -1 then 0 else rowAt V.B s.toNat x
def DecM (μ : Mks) : Prop := ∀ c i v, μ c i = some v → (v : Int) < i
def rootF (μ : Mks) (x : Cs) : Nat → Nat → Nat
  | 0, v => v
  | f + 1, v => match μ x (v : Int) with
    | some w => rootF μ x f w
    | none => v
theorem rootF_eq {μ : Mks} (d : DecM μ) {x : Cs} : ∀ (f f' v : Nat), v ≤ f → v ≤ f' → rootF μ x f v = rootF μ x f' v
  | 0, 0, v, _, _ => rfl
  | 0, f' + 1, v, h, _ => by
    have : v = 0 := by omega
    subst this
    rw [rootF, rootF]
    cases e : μ x ((0 : Nat) : Int) with
    | none => rfl
    | some w => have := d _ _ _ e; omega
  | f + 1, 0, v, _, h => by
    have : v = 0 := by omega
    subst this
    rw [rootF, rootF]
    cases e : μ x ((0 : Nat) : Int) with
    | none => rfl
    | some w => have := d _ _ _ e; omega
  | f + 1, f' + 1, v, h, h' => by
    rw [rootF, rootF]
    cases e : μ x (v : Int) with
    | none => rfl
    | some w =>
      have := d _ _ _ e
      exact rootF_eq d f f' w (by omega) (by omega)
def rootM (μ : Mks) (x : Cs) (v : Nat) : Nat := rootF μ x v v
theorem root_some {μ : Mks} (d : DecM μ) {x : Cs} {v w : Nat} (h : μ x (v : Int) = some w) : rootM μ x v = rootM μ x w := by
  have lt := d _ _ _ h
  unfold rootM
  rw [rootF_eq d v (v + 1) v (Nat.le_refl _) (by omega), rootF, h]
  exact rootF_eq d v w w (by omega) (Nat.le_refl _)
theorem root_none {μ : Mks} {x : Cs} {v : Nat} (h : μ x (v : Int) = none) : rootM μ x v = v := by
  unfold rootM
  cases v with
  | zero => rfl
  | succ v => rw [rootF, h]
theorem root_le {μ : Mks} (d : DecM μ) {x : Cs} : ∀ (n v : Nat), v ≤ n → rootM μ x v ≤ v ∧ μ x (rootM μ x v : Int) = none
  | n, v, hn => by
    cases e : μ x (v : Int) with
    | none => rw [root_none e]; exact ⟨Nat.le_refl _, e⟩
    | some w =>
      have lt := d _ _ _ e
      rw [root_some d e]
      cases n with
      | zero => omega
      | succ n =>
        obtain ⟨a, b⟩ := root_le d n w (by omega)
        exact ⟨by omega, b⟩
/-- the versions that come to a joining, but its own -/
def othersAt (μ : Mks) (V : Vst) (r : List Int) (x : Cs) (own : Nat) : List Nat := (ddK [] (r.map fun s => rootM μ x (verF V s x))).filter fun v => decide (v ≠ own)
/-- the versions of a graph, as told -/
structure VerP (nm : List Cs) (S : List (List Int)) (V : Vst) : Prop where
  nd : nm.Nodup
  fewN : nm.length < 60
  so : SrcOk S.length S
  la : V.A.length = S.length
  lb : V.B.length = S.length
  jn : ∀ k, manyS S k → ∀ x, 1 ≤ rowAt V.A k x ∧ ∀ p, p < k → rowAt V.B p x < rowAt V.A k x
theorem verP_of {g : List Nd} {S : List (List Int)} (so : SrcOk g.length S) {nm : List Cs} (nd : nm.Nodup) (few : nm.length < 60) : VerP nm S (verG S g) := by
  have v := ver_inv so
  refine ⟨nd, few, by rw [so.len]; exact so, by rw [v.la, so.len], by rw [v.lb, so.len], fun k m => v.jn k ?_ m⟩
  obtain ⟨r, e, _⟩ := m
  have := (List.getElem?_eq_some_iff.mp e).1
  rw [so.len] at this
  exact this
theorem VerP.low {nm : List Cs} {S : List (List Int)} {V : Vst} (h : VerP nm S V) {k : Nat} {r : List Int} (e : S[k]? = some r) (m : 1 < r.length) (x : Cs) : ∃ s ∈ r, verF V s x < rowAt V.A k x := by
  obtain ⟨j1, j2⟩ := h.jn k ⟨r, e, m⟩ x
  obtain ⟨_, _, h3⟩ := h.so.row k r e
  rcases h3 with ⟨rfl, r', rfl⟩ | ⟨_, nb, s, hs, h0, hk⟩
  · exact ⟨-1, List.mem_cons_self, by unfold verF; rw [if_pos rfl]; omega⟩
  · refine ⟨s, hs, ?_⟩
    unfold verF
    rw [if_neg (by omega)]
    exact j2 _ (by omega)
theorem others_pos {nm : List Cs} {S : List (List Int)} {V : Vst} (h : VerP nm S V) {μ : Mks} (d : DecM μ) {k : Nat} {r : List Int} (e : S[k]? = some r) (m : 1 < r.length) (x : Cs) : ∃ w, w ∈ othersAt μ V r x (rowAt V.A k x) ∧ w < rowAt V.A k x := by
  obtain ⟨s, hs, lt⟩ := h.low e m x
  have le := (root_le d _ (verF V s x) (Nat.le_refl _) (x := x)).1
  refine ⟨rootM μ x (verF V s x), ?_, by omega⟩
  unfold othersAt
  rw [List.mem_filter, ddK_mem]
  exact ⟨.inr (List.mem_map.mpr ⟨s, hs, rfl⟩), decide_eq_true (by omega)⟩
def FixAt (μ : Mks) (S : List (List Int)) (V : Vst) (x : Cs) (k : Nat) : Prop := ∀ r, S[k]? = some r → 1 < r.length → μ x (rowAt V.A k x : Int) = none → 2 ≤ (othersAt μ V r x (rowAt V.A k x)).length
theorem DecM.put {μ : Mks} (d : DecM μ) {x : Cs} {i : Int} {w : Nat} (h : (w : Int) < i) : DecM (μ.put x i w) := fun c j v e => by
  by_cases z : c = x ∧ j = i
  · obtain ⟨rfl, rfl⟩ := z
    rw [Mks.put_self] at e
    cases e
    exact h
  · rw [Mks.put_ne z] at e
    exact d c j v e
/-- how many joinings are left -/
def openN (nm : List Cs) (S : List (List Int)) (V : Vst) (μ : Mks) : Nat := ((List.range S.length).flatMap fun k => nm.map fun x => (k, x)).countP fun p => (μ p.2 (rowAt V.A p.1 p.2 : Int)).isNone
theorem countP_lt {α : Type} {p q : α → Bool} : ∀ {l : List α}, (∀ a, q a = true → p a = true) → (∃ a ∈ l, p a = true ∧ q a = false) → l.countP q < l.countP p
  | [], _, ⟨a, h, _⟩ => by cases h
  | x :: l, hp, ⟨a, ha, h1, h2⟩ => by
    have le : ∀ l : List α, l.countP q ≤ l.countP p := fun l => by
      induction l with
      | nil => exact Nat.le_refl _
      | cons y l ih =>
        rw [List.countP_cons, List.countP_cons]
        have : (if q y = true then 1 else 0) ≤ (if p y = true then 1 else 0) := by
          by_cases z : q y = true
          · rw [if_pos z, if_pos (hp y z)]; exact Nat.le_refl _
          · rw [if_neg z]; exact Nat.zero_le _
        omega
    rw [List.countP_cons, List.countP_cons]
    rcases List.mem_cons.mp ha with rfl | ha
    · rw [if_pos h1, if_neg (by rw [h2]; exact Bool.false_ne_true)]
      have := le l
      omega
    · have ih := countP_lt (l := l) hp ⟨a, ha, h1, h2⟩
      have : (if q x = true then 1 else 0) ≤ (if p x = true then 1 else 0) := by
        by_cases z : q x = true
        · rw [if_pos z, if_pos (hp x z)]; exact Nat.le_refl _
        · rw [if_neg z]; exact Nat.zero_le _
      omega
theorem open_lt {nm : List Cs} {S : List (List Int)} {V : Vst} {μ : Mks} {k : Nat} {x : Cs} (hk : k < S.length) (hx : x ∈ nm) (h : μ x (rowAt V.A k x : Int) = none) (w : Nat) : openN nm S V (μ.put x (rowAt V.A k x : Int) w) < openN nm S V μ := by
  refine countP_lt (fun p hp => ?_) ⟨(k, x), List.mem_flatMap.mpr ⟨k, List.mem_range.mpr hk, List.mem_map.mpr ⟨x, hx, rfl⟩⟩, by rw [h]; rfl, by rw [Mks.put_self]; rfl⟩
  by_cases z : p.2 = x ∧ (rowAt V.A p.1 p.2 : Int) = (rowAt V.A k x : Int)
  · obtain ⟨z1, z2⟩ := z
    rw [z1] at z2 hp
    rw [z2, Mks.put_self] at hp
    cases hp
  · rw [Mks.put_ne z] at hp
    exact hp
end VL
namespace VL
open PySem PySem.Spec PyProof.Rows L2 VL
abbrev fNames : Cs := [110, 97, 109, 101, 115]
abbrev fSources : Cs := [115, 111, 117, 114, 99, 101, 115]
abbrev fGiven : Cs := [103, 105, 118, 101, 110]
abbrev fAhead : Cs := [97, 104, 101, 97, 100]
abbrev fBehind : Cs := [98, 101, 104, 105, 110, 100]
def srcsD (S : List (List Int)) : List D := S.map fun r => .lst false (intsD r)
theorem ints_fzL (r : List Int) : isFzL (intsD r) = true := by unfold intsD; rw [isFzL_all]; simp [isFz]
theorem srcs_fzL (S : List (List Int)) : isFzL (srcsD S) = true := by unfold srcsD; rw [isFzL_all]; simp [isFz, ints_fzL]
theorem srcs_at {S : List (List Int)} {k : Nat} {r : List Int} (h : S[k]? = some r) : (srcsD S)[k]? = some (.lst false (intsD r)) := by unfold srcsD; rw [List.getElem?_map, h]; rfl
def versD (nm : List Cs) (L : List VRow) : List D := L.map (verD false nm)
theorem vers_fzL (nm : List Cs) (L : List VRow) : isFzL (versD nm L) = true := by unfold versD; rw [isFzL_all]; simp [ver_fz]
theorem vers_at {nm : List Cs} {L : List VRow} {k : Nat} (h : k < L.length) : (versD nm L)[k]? = some (verD false nm (rowAt L k)) := by unfold versD; rw [List.getElem?_map, rowAt_get h]; rfl
theorem vers_app (nm : List Cs) (L : List VRow) (f : VRow) : versD nm L ++ [verD false nm f] = versD nm (L ++ [f]) := by unfold versD; rw [List.map_append]; rfl
def insV (m : Bool) (nm : List Cs) (S : List (List Int)) (V : Vst) : D := .ins m 3 [fNames, fSources, fGiven, fAhead, fBehind] [.lst false (strsD nm), .lst false (srcsD S), verD m nm V.gv, .lst m (versD nm V.A), .lst m (versD nm V.B)]
theorem insV_frz {m : Bool} {nm : List Cs} {S : List (List Int)} {V : Vst} : frz (insV m nm S V) = insV false nm S V := by
  show D.ins false 3 _ (frzL _) = _
  rw [frzL, frzL, frzL, frzL, frzL, frzL, ver_frz]
  show D.ins false 3 _ [.lst false (frzL _), .lst false (frzL _), verD false nm V.gv, .lst false (frzL _), .lst false (frzL _)] = _
  rw [strs_frz, frzL_id (srcs_fzL S), frzL_id (vers_fzL nm V.A), frzL_id (vers_fzL nm V.B)]
  rfl
theorem insV_fz {nm : List Cs} {S : List (List Int)} {V : Vst} : isFz (insV false nm S V) = true := by
  rw [← insV_frz (m := true)]
  exact isFz_frz _
def srcG (g : List Nd) : List (List Int) := (List.range g.length).map fun k => (if k = 0 then [-1] else []) ++ ((List.range g.length).filter fun j => decide (k ∈ glOf g j)).map fun j : Nat => (j : Int)
theorem srcG_at {g : List Nd} {k : Nat} (h : k < g.length) : (srcG g)[k]? = some ((if k = 0 then [-1] else []) ++ ((List.range g.length).filter fun j => decide (k ∈ glOf g j)).map fun j : Nat => (j : Int)) := by
  unfold srcG
  rw [List.getElem?_map, List.getElem?_range h]
  rfl
theorem src_ok {g : List Nd} (h : GOk g) (few : g.length ≤ 62) : SrcOk g.length (srcG g) := by
  refine ⟨h.pos, few, by unfold srcG; simp, fun k r e => ?_⟩
  have hk : k < g.length := by
    have := (List.getElem?_eq_some_iff.mp e).1
    unfold srcG at this
    simpa using this
  rw [srcG_at hk] at e
  cases e
  have mem : ∀ s : Int, s ∈ ((List.range g.length).filter fun j => decide (k ∈ glOf g j)).map (fun j : Nat => (j : Int)) → 0 ≤ s ∧ s < (g.length : Int) := fun s hs => by
    obtain ⟨j, hj, rfl⟩ := List.mem_map.mp hs
    have := List.mem_range.mp (List.mem_filter.mp hj).1
    omega
  refine ⟨fun s hs => ?_, ?_, ?_⟩
  · rcases List.mem_append.mp hs with hs | hs
    · split at hs
      · exact .inl (List.mem_singleton.mp hs)
      · cases hs
    · exact .inr (mem s hs)
  · rw [List.length_append, List.length_map]
    have := List.length_filter_le (fun j => decide (k ∈ glOf g j)) (List.range g.length)
    rw [List.length_range] at this
    split <;> simp <;> omega
  · by_cases z : k = 0
    · exact .inl ⟨z, _, by rw [if_pos z]; rfl⟩
    · refine .inr ⟨by omega, fun hm => ?_, ?_⟩
      · rw [if_neg z, List.nil_append] at hm
        have := (mem _ hm).1
        omega
      · obtain ⟨p, x, hp, hx, hg⟩ := h.par k (by omega) hk
        refine ⟨(p : Int), List.mem_append_right _ (List.mem_map.mpr ⟨p, List.mem_filter.mpr ⟨List.mem_range.mpr (by omega), decide_eq_true ?_⟩, rfl⟩), by omega, by omega⟩
        unfold glOf
        rw [hx]
        exact hg
def four : List Cs := [[120], [121], [122, 49], [122]]
def NdIn (M : List Cs) (x : Nd) : Prop := (∀ t ∈ txtsN x, t ∈ M) ∧ ∀ s, sgnN x = some s → s ∈ signs8
def callC (M : List Cs) (t : Cs) : Cs := M.getD (four.idxOf t) []
def callO (M : List Cs) : Opd → Opd
  | .inl i => .inl i
  | .inr t => .inr (callC M t)
def callN (M : List Cs) : Nd → Nd
  | .sum x a s b to => .sum (callC M x) (callO M a) s (callO M b) to
  | .test a s b y n => .test (callO M a) s (callO M b) y n
  | .fin => .fin
  | .spin => .spin
theorem call_goals (M : List Cs) (x : Nd) : goals (callN M x) = goals x := by cases x <;> rfl
theorem call_sgn (M : List Cs) (x : Nd) : sgnN (callN M x) = sgnN x := by cases x <;> rfl
structure MenuOk (M : List Cs) : Prop where
  len : M.length = 4
  off : ∀ t ∈ M, t ∉ signs8
  good : ∀ t ∈ M, Cs.good t = true
theorem callC_mem {M : List Cs} (h : MenuOk M) {t : Cs} (ht : t ∈ four) : callC M t ∈ M := by
  have hi : four.idxOf t < M.length := by
    rw [h.len]
    exact List.idxOf_lt_length_iff.mpr ht
  unfold callC
  rw [List.getD_eq_getElem?_getD, List.getElem?_eq_getElem hi]
  exact List.getElem_mem hi
theorem callO_txts {M : List Cs} (h : MenuOk M) {a : Opd} (ha : ∀ t ∈ txtsO a, t ∈ four) : ∀ t ∈ txtsO (callO M a), t ∈ M := by
  cases a with
  | inl i => exact fun t ht => nomatch ht
  | inr s =>
    intro t ht
    rw [List.mem_singleton.mp ht]
    exact callC_mem h (ha s List.mem_cons_self)
theorem call_txts {M : List Cs} (h : MenuOk M) {x : Nd} (hx : NdIn four x) : ∀ t ∈ txtsN (callN M x), t ∈ M := by
  cases x with
  | sum y a s b to =>
    intro t ht
    rcases List.mem_cons.mp ht with rfl | ht
    · exact callC_mem h (hx.1 y List.mem_cons_self)
    · rcases List.mem_append.mp ht with ht | ht
      · exact callO_txts h (fun u hu => hx.1 u (List.mem_cons_of_mem _ (List.mem_append_left _ hu))) t ht
      · exact callO_txts h (fun u hu => hx.1 u (List.mem_cons_of_mem _ (List.mem_append_right _ hu))) t ht
  | test a s b y n =>
    intro t ht
    rcases List.mem_append.mp ht with ht | ht
    · exact callO_txts h (fun u hu => hx.1 u (List.mem_append_left _ hu)) t ht
    · exact callO_txts h (fun u hu => hx.1 u (List.mem_append_right _ hu)) t ht
  | fin => exact fun t ht => nomatch ht
  | spin => exact fun t ht => nomatch ht
theorem sgn_good {s : Cs} (h : s ∈ signs8) : Cs.good s = true := by
  unfold signs8 at h
  simp only [List.mem_cons, List.not_mem_nil, or_false] at h
  rcases h with rfl | rfl | rfl | rfl | rfl | rfl | rfl | rfl <;> decide
theorem good_of {x : Nd} (h1 : ∀ t ∈ txtsN x, Cs.good t = true) (h2 : ∀ s, sgnN x = some s → s ∈ signs8) : x.good = true := by
  have og : ∀ a : Opd, (∀ t ∈ txtsO a, Cs.good t = true) → a.good = true := fun a ha => by
    cases a with
    | inl i => rfl
    | inr t => exact ha t List.mem_cons_self
  cases x with
  | sum y a s b to =>
    have e1 := h1 y List.mem_cons_self
    have e2 := og a fun u hu => h1 u (List.mem_cons_of_mem _ (List.mem_append_left _ hu))
    have e3 := og b fun u hu => h1 u (List.mem_cons_of_mem _ (List.mem_append_right _ hu))
    have e4 := sgn_good (h2 s rfl)
    simp [Nd.good, e1, e2, e3, e4]
  | test a s b y n =>
    have e2 := og a fun u hu => h1 u (List.mem_append_left _ hu)
    have e3 := og b fun u hu => h1 u (List.mem_append_right _ hu)
    have e4 := sgn_good (h2 s rfl)
    simp [Nd.good, e2, e3, e4]
  | fin => rfl
  | spin => rfl
theorem call_gl (M : List Cs) (g : List Nd) : glOf (g.map (callN M)) = glOf g := by
  funext k
  unfold glOf
  rw [List.getElem?_map]
  cases g[k]? with
  | none => rfl
  | some x => exact call_goals M x
theorem call_gok {M : List Cs} (hM : MenuOk M) {g : List Nd} (h : GOk g) (hn : ∀ x ∈ g, NdIn four x) : GOk (g.map (callN M)) ∧ NmG (g.map (callN M)) M := by
  have gl := call_gl M g
  refine ⟨⟨by rw [List.length_map]; exact h.pos, fun x hx => ?_, fun x hx => ?_, fun k h0 hk => ?_, fun k t hk ht => ?_, ?_⟩, ⟨by rw [hM.len]; decide, fun x hx => ?_, hM.off, hM.good, fun x hx s hs => ?_⟩⟩
  · obtain ⟨y, hy, rfl⟩ := List.mem_map.mp hx
    rw [List.length_map]
    intro t ht
    rw [call_goals] at ht
    exact h.ok y hy t ht
  · obtain ⟨y, hy, rfl⟩ := List.mem_map.mp hx
    exact good_of (fun t ht => hM.good t (call_txts hM (hn y hy) t ht)) fun s hs => (hn y hy).2 s (by rw [← call_sgn M]; exact hs)
  · rw [List.length_map] at hk
    obtain ⟨p, x, hp, hx, hg⟩ := h.par k h0 hk
    exact ⟨p, callN M x, hp, by rw [List.getElem?_map, hx]; rfl, by rw [call_goals]; exact hg⟩
  · rw [gl] at ht ⊢
    exact h.anc k t hk ht
  · rw [gl, List.length_map]
    exact h.can
  · obtain ⟨y, hy, rfl⟩ := List.mem_map.mp hx
    exact call_txts hM (hn y hy)
  · obtain ⟨y, hy, rfl⟩ := List.mem_map.mp hx
    exact (hn y hy).2 s (by rw [← call_sgn M]; exact hs)
theorem graph_in {raw : List Nd} {M : List Cs} (h : ∀ x ∈ raw, NdIn M x) : ∀ x ∈ graphOf raw, NdIn M x := by
  intro x hx
  unfold graphOf graphAt at hx
  obtain ⟨o, ho, rfl⟩ := List.mem_map.mp hx
  have rn : ∀ (y : Nd) f, txtsN (y.ren f) = txtsN y ∧ sgnN (y.ren f) = sgnN y := fun y f => by cases y <;> exact ⟨rfl, rfl⟩
  have hy : NdIn M ((raw[o]?).getD .fin) := by
    cases e : raw[o]? with
    | none => exact ⟨(fun t ht => nomatch ht), (fun s hs => nomatch hs)⟩
    | some y => exact h y (List.mem_of_getElem? e)
  exact ⟨fun t ht => hy.1 t (by rw [← (rn _ _).1]; exact ht), fun s hs => hy.2 s (by rw [← (rn _ fun x => (orderAt (glOf raw) raw.length 0).idxOf x).2]; exact hs)⟩
def jnD (m : Bool) (μ : Mks) (V : Vst) (r : List Int) (k : Nat) (x : Cs) : D := .tup [.str x, .int (rowAt V.A k x : Int), .lst m (r.map fun s => .tup [.int s, .int (rootM μ x (verF V s x) : Int)])]
def leftL (μ : Mks) (V : Vst) (r : List Int) (k : Nat) (nm : List Cs) : List Cs := nm.filter fun x => decide (1 < r.length) && (μ x (rowAt V.A k x : Int)).isNone
def jnsD (m : Bool) (μ : Mks) (V : Vst) (r : List Int) (k : Nat) (nm : List Cs) : List D := (leftL μ V r k nm).map (jnD m μ V r k)
def opTold (μ : Mks) (V : Vst) (k : Nat) : Opd → D
  | .inl i => .int i
  | .inr t => .tup [.str t, .int (rootM μ t (rowAt V.A k t) : Int)]
def ndTold (μ : Mks) (V : Vst) (k : Nat) : Nd → D
  | .sum x a s b to => .tup [.str cSum, .tup [.str x, .int (rowAt V.B k x : Int)], opTold μ V k a, .str s, opTold μ V k b, .int (to : Int)]
  | .test a s b y n => .tup [.str cTest, opTold μ V k a, .str s, opTold μ V k b, .int (y : Int), .int (n : Int)]
  | x => ndD x
def tellD (m : Bool) (μ : Mks) (V : Vst) (S : List (List Int)) (nm : List Cs) (g : List Nd) : List D := g.mapIdx fun k x => .tup [.lst m (jnsD m μ V ((S[k]?).getD []) k nm), ndTold μ V k x]
theorem opTold_fz (μ : Mks) (V : Vst) (k : Nat) (a : Opd) : isFz (opTold μ V k a) = true := by cases a <;> simp [opTold, isFz, isFzL]
theorem ndTold_fz (μ : Mks) (V : Vst) (k : Nat) (x : Nd) : isFz (ndTold μ V k x) = true := by
  cases x <;> simp [ndTold, isFz, isFzL, opTold_fz, isFz_nd]
/-- made step by step: each joining whose sources are all but itself one version stands for that one -/
inductive HistM (nm : List Cs) (S : List (List Int)) (V : Vst) : Mks → Prop
  | nil : HistM nm S V fun _ _ => none
  | put {μ : Mks} {x : Cs} {k w : Nat} {r : List Int} : HistM nm S V μ → x ∈ nm → S[k]? = some r → 1 < r.length → μ x (rowAt V.A k x : Int) = none → othersAt μ V r x (rowAt V.A k x) = [w] → HistM nm S V (μ.put x (rowAt V.A k x : Int) w)
/-- which versions stand for which, as found -/
structure SameP (nm : List Cs) (S : List (List Int)) (V : Vst) (μ : Mks) : Prop where
  dec : DecM μ
  key : ∀ c i v, μ c i = some v → c ∈ nm ∧ ∃ k, manyS S k ∧ i = (rowAt V.A k c : Int)
  fix : ∀ k, ∀ x ∈ nm, FixAt μ S V x k
  hist : HistM nm S V μ
structure VrA where
  nm : List Cs
  S : List (List Int)
  V : Vst
def VrA.d (a : VrA) : D := insV true a.nm a.S a.V
def VrA.f (a : VrA) : D := insV false a.nm a.S a.V
def oneV (V : Vst) (x : Cs) : Vst := ⟨updC V.gv x (V.gv x + 1), V.A, V.B⟩
theorem ix_vers {nm : List Cs} {L : List VRow} {k : Nat} (h : k < L.length) : ixD (.lst false (versD nm L)) (.int (k : Int)) = some (verD false nm (rowAt L k)) := by
  show (ixN (versD nm L).length (k : Int)).bind _ = _
  rw [ixN_nat (by unfold versD; rw [List.length_map]; exact h)]
  exact vers_at h
theorem ix_srcs {S : List (List Int)} {k : Nat} {r : List Int} (h : S[k]? = some r) : ixD (.lst false (srcsD S)) (.int (k : Int)) = some (.lst false (intsD r)) := by
  have lt := (List.getElem?_eq_some_iff.mp h).1
  show (ixN (srcsD S).length (k : Int)).bind _ = _
  rw [ixN_nat (by unfold srcsD; rw [List.length_map]; exact lt)]
  exact srcs_at h
theorem strs_fzD (nm : List Cs) : isFz (.lst false (strsD nm)) = true := by show (!false && isFzL (strsD nm)) = true; rw [strs_fz]; rfl
theorem ints_fzD (r : List Int) : isFz (.lst false (intsD r)) = true := by show (!false && isFzL (intsD r)) = true; rw [ints_fzL]; rfl
theorem ints_len (r : List Int) : (intsD r).length = r.length := by unfold intsD; rw [List.length_map]
end VL
namespace VL
open PySem PySem.Spec PyProof.Rows L2 VL
structure NInv (S : List (List Int)) (g : List Nd) (k : Nat) (V : Vst) : Prop where
  la : V.A.length = k
  lb : V.B.length = k
  le : ∀ p, p < k → ∀ x, rowAt V.A p x ≤ V.gv x ∧ rowAt V.B p x ≤ V.gv x
  n1 : ∀ j, j < k → manyS S j → ∀ t, 1 ≤ rowAt V.A j t ∧ ∀ i, i < j → rowAt V.A i t < rowAt V.A j t ∧ rowAt V.B i t < rowAt V.A j t
  n2 : ∀ p, p < k → ∀ x t, g[p]? = some x → sumN x = some t → 1 ≤ rowAt V.B p t ∧ (∀ i, i ≤ p → rowAt V.A i t < rowAt V.B p t) ∧ ∀ i, i < p → rowAt V.B i t < rowAt V.B p t
  n3 : ∀ j, j < k → ∀ s, S[j]? = some [s] → ∀ t, rowAt V.A j t = verF V s t
  n4 : ∀ p, p < k → ∀ x t, g[p]? = some x → sumN x ≠ some t → rowAt V.B p t = rowAt V.A p t
theorem rowAt_app {L : List VRow} {f : VRow} {k p : Nat} (hl : L.length = k) (h : p < k) : rowAt (L ++ [f]) p = rowAt L p := rowAt_lt (by omega)
theorem NInv.step {n : Nat} {S : List (List Int)} {g : List Nd} (so : SrcOk n S) {k : Nat} (hk : k < n) {x : Nd} (hx : g[k]? = some x) {V : Vst} (h : NInv S g k V) : NInv S g (k + 1) (passV k x (enterV S k V)) := by
  have hl : k < S.length := by rw [so.len]; exact hk
  obtain ⟨r, hr⟩ : ∃ r, S[k]? = some r := ⟨_, List.getElem?_eq_getElem hl⟩
  -- the state at the node
  obtain ⟨a, gv, ea, ga, gle, gm, g3⟩ : ∃ (a : VRow) (gv : VRow), enterV S k V = ⟨gv, V.A ++ [a], V.B⟩ ∧ (∀ t, a t ≤ gv t) ∧ (∀ t, V.gv t ≤ gv t) ∧ (manyS S k → ∀ t, a t = V.gv t + 1) ∧ (∀ s, S[k]? = some [s] → ∀ t, a t = verF V s t) := by
    by_cases m : manyS S k
    · refine ⟨fun t => V.gv t + 1, fun t => V.gv t + 1, enter_many m, fun t => Nat.le_refl _, fun t => Nat.le_succ _, fun _ t => rfl, fun s hs t => ?_⟩
      obtain ⟨r', e', h'⟩ := m
      rw [hs] at e'
      cases e'
      simp at h'
    · obtain ⟨h1, h2, h3⟩ := so.row k r hr
      have e : ∃ s, r = [s] ∧ (s = -1 ∨ (0 ≤ s ∧ s < (k : Int))) := by
        cases r with
        | nil =>
          rcases h3 with ⟨_, r', e⟩ | ⟨_, _, s, hs, _⟩
          · cases e
          · cases hs
        | cons b t =>
          cases t with
          | cons c u => exact absurd ⟨_, hr, by simp⟩ m
          | nil =>
            refine ⟨b, rfl, ?_⟩
            rcases h3 with ⟨_, r', e⟩ | ⟨_, _, s, hs, hs2⟩
            · injection e with e1 e2; exact .inl e1
            · rw [List.mem_singleton.mp hs] at hs2; exact .inr hs2
      obtain ⟨s, rfl, hs⟩ := e
      by_cases z : s = -1
      · subst z
        refine ⟨fun _ => 0, V.gv, by unfold enterV; rw [hr]; rfl, fun t => Nat.zero_le _, fun t => Nat.le_refl _, fun z => absurd z m, fun s hs t => ?_⟩
        rw [hr] at hs
        injection hs with hs
        injection hs with hs
        subst hs
        rfl
      · have hs := hs.resolve_left z
        refine ⟨rowAt V.B s.toNat, V.gv, by unfold enterV; rw [hr]; simp only [if_neg z], fun t => (h.le _ (by omega) t).2, fun t => Nat.le_refl _, fun z => absurd z m, fun s' hs' t => ?_⟩
        rw [hr] at hs'
        injection hs' with hs'
        injection hs' with hs'
        subst hs'
        unfold verF
        rw [if_neg z]
  rw [ea]
  -- the state behind it
  obtain ⟨b, gv', eb, bA, gle', bn, bs⟩ : ∃ (b : VRow) (gv' : VRow), passV k x ⟨gv, V.A ++ [a], V.B⟩ = ⟨gv', V.A ++ [a], V.B ++ [b]⟩ ∧ (∀ t, b t ≤ gv' t) ∧ (∀ t, gv t ≤ gv' t) ∧ (∀ t, sumN x ≠ some t → b t = a t) ∧ (∀ t, sumN x = some t → b t = gv t + 1) := by
    have rk : rowAt (V.A ++ [a]) k = a := rowAt_end h.la.symm
    unfold passV
    cases e : sumN x with
    | none => exact ⟨a, gv, by simp only [rk], ga, fun t => Nat.le_refl _, fun t _ => rfl, fun t z => nomatch z⟩
    | some y =>
      refine ⟨updC a y (gv y + 1), updC gv y (gv y + 1), by simp only [rk], fun t => ?_, fun t => ?_, fun t z => ?_, fun t z => ?_⟩
      · unfold updC
        split
        · exact Nat.le_refl _
        · exact ga t
      · unfold updC
        split
        · next z => subst z; omega
        · exact Nat.le_refl _
      · exact updC_ne fun w => z (by rw [w])
      · cases z; exact updC_self
  rw [eb]
  have A_lt : ∀ p, p < k → rowAt (V.A ++ [a]) p = rowAt V.A p := fun p hp => rowAt_app h.la hp
  have A_k : rowAt (V.A ++ [a]) k = a := rowAt_end h.la.symm
  have B_lt : ∀ p, p < k → rowAt (V.B ++ [b]) p = rowAt V.B p := fun p hp => rowAt_app h.lb hp
  have B_k : rowAt (V.B ++ [b]) k = b := rowAt_end h.lb.symm
  refine ⟨by simp [h.la], by simp [h.lb], fun p hp t => ?_, fun j hj m t => ?_, fun p hp y t e1 e2 => ?_, fun j hj s e t => ?_, fun p hp y t e1 e2 => ?_⟩
  · show rowAt (V.A ++ [a]) p t ≤ gv' t ∧ rowAt (V.B ++ [b]) p t ≤ gv' t
    rcases Nat.lt_or_ge p k with lt | ge
    · rw [A_lt p lt, B_lt p lt]
      have := h.le p lt t
      have := gle t
      have := gle' t
      omega
    · have : p = k := by omega
      subst this
      rw [A_k, B_k]
      have := ga t
      have := gle' t
      have := bA t
      omega
  · show 1 ≤ rowAt (V.A ++ [a]) j t ∧ ∀ i, i < j → rowAt (V.A ++ [a]) i t < rowAt (V.A ++ [a]) j t ∧ rowAt (V.B ++ [b]) i t < rowAt (V.A ++ [a]) j t
    rcases Nat.lt_or_ge j k with lt | ge
    · rw [A_lt j lt]
      refine ⟨(h.n1 j lt m t).1, fun i hi => ?_⟩
      rw [A_lt i (by omega), B_lt i (by omega)]
      exact (h.n1 j lt m t).2 i hi
    · have : j = k := by omega
      subst this
      rw [A_k, gm m t]
      refine ⟨by omega, fun i hi => ?_⟩
      rw [A_lt i hi, B_lt i hi]
      have := h.le i hi t
      omega
  · show 1 ≤ rowAt (V.B ++ [b]) p t ∧ (∀ i, i ≤ p → rowAt (V.A ++ [a]) i t < rowAt (V.B ++ [b]) p t) ∧ ∀ i, i < p → rowAt (V.B ++ [b]) i t < rowAt (V.B ++ [b]) p t
    rcases Nat.lt_or_ge p k with lt | ge
    · rw [B_lt p lt]
      obtain ⟨q1, q2, q3⟩ := h.n2 p lt y t e1 e2
      refine ⟨q1, fun i hi => ?_, fun i hi => ?_⟩
      · rw [A_lt i (by omega)]; exact q2 i hi
      · rw [B_lt i (by omega)]; exact q3 i hi
    · have : p = k := by omega
      subst this
      rw [hx] at e1
      cases e1
      rw [B_k, bs t e2]
      refine ⟨by omega, fun i hi => ?_, fun i hi => ?_⟩
      · rcases Nat.lt_or_ge i p with lt | ge
        · rw [A_lt i lt]
          have := (h.le i lt t).1
          have := gle t
          omega
        · have : i = p := by omega
          subst this
          rw [A_k]
          have := ga t
          omega
      · rw [B_lt i hi]
        have := (h.le i hi t).2
        have := gle t
        omega
  · show rowAt (V.A ++ [a]) j t = verF ⟨gv', V.A ++ [a], V.B ++ [b]⟩ s t
    have sm : ∀ j, j ≤ k → S[j]? = some [s] → verF ⟨gv', V.A ++ [a], V.B ++ [b]⟩ s t = verF V s t := fun j hj e => by
      unfold verF
      by_cases z : s = -1
      · rw [if_pos z, if_pos z]
      · rw [if_neg z, if_neg z]
        obtain ⟨_, _, h3⟩ := so.row j _ e
        have : s.toNat < k := by
          rcases h3 with ⟨_, r', e⟩ | ⟨_, _, s', hs, h0, hlt⟩
          · injection e with e1 e2; exact absurd e1 z
          · rw [List.mem_singleton.mp hs] at h0 hlt; omega
        show rowAt (V.B ++ [b]) s.toNat t = _
        rw [B_lt _ this]
    rw [sm j (by omega) e]
    rcases Nat.lt_or_ge j k with lt | ge
    · rw [A_lt j lt]; exact h.n3 j lt s e t
    · have : j = k := by omega
      subst this
      rw [A_k]
      exact g3 s e t
  · show rowAt (V.B ++ [b]) p t = rowAt (V.A ++ [a]) p t
    rcases Nat.lt_or_ge p k with lt | ge
    · rw [A_lt p lt, B_lt p lt]; exact h.n4 p lt y t e1 e2
    · have : p = k := by omega
      subst this
      rw [hx] at e1
      cases e1
      rw [A_k, B_k]
      exact bn t e2
theorem NInv.go {n : Nat} {S : List (List Int)} {g : List Nd} (so : SrcOk n S) (hn : g.length = n) : ∀ (xs : List Nd) {k : Nat} {V : Vst}, g.drop k = xs → NInv S g k V → k ≤ n → NInv S g n (goV S k xs V)
  | [], k, V, hd, h, hk => by
    have : k = n := by
      have := congrArg List.length hd
      rw [List.length_drop] at this
      simp at this
      omega
    subst this
    exact h
  | x :: xs, k, V, hd, h, hk => by
    have lt : k < g.length := by
      have := congrArg List.length hd
      rw [List.length_drop] at this
      simp at this
      omega
    rw [List.drop_eq_getElem_cons lt] at hd
    injection hd with h1 h2
    exact NInv.go so hn xs h2 (h.step so (by omega) (by rw [List.getElem?_eq_getElem lt, h1])) (by omega)
theorem ver_num {g : List Nd} {S : List (List Int)} (so : SrcOk g.length S) : NInv S g g.length (verG S g) :=
  NInv.go so rfl g (by simp) ⟨rfl, rfl, fun _ h => absurd h (Nat.not_lt_zero _), fun _ h => absurd h (Nat.not_lt_zero _), fun _ h => absurd h (Nat.not_lt_zero _), fun _ h => absurd h (Nat.not_lt_zero _), fun _ h => absurd h (Nat.not_lt_zero _)⟩ (Nat.zero_le _)
def GivJ (S : List (List Int)) (V : Vst) (t : Cs) (v y : Nat) : Prop := manyS S y ∧ v = rowAt V.A y t
def GivS (g : List Nd) (V : Vst) (t : Cs) (v y : Nat) : Prop := (∃ x, g[y]? = some x ∧ sumN x = some t) ∧ v = rowAt V.B y t
def Giv (S : List (List Int)) (g : List Nd) (V : Vst) (t : Cs) (v y : Nat) : Prop := GivJ S V t v y ∨ GivS g V t v y
theorem many_lt {S : List (List Int)} {j : Nat} (h : manyS S j) : j < S.length := by
  obtain ⟨r, e, _⟩ := h
  exact (List.getElem?_eq_some_iff.mp e).1
section
variable {S : List (List Int)} {g : List Nd} {V : Vst}
theorem giv_lt (so : SrcOk g.length S) {t : Cs} {v y : Nat} (h : Giv S g V t v y) : y < g.length := by
  rcases h with h | ⟨⟨x, e, _⟩, _⟩
  · have := many_lt h.1; rw [so.len] at this; exact this
  · exact (List.getElem?_eq_some_iff.mp e).1
/-- a version is given once -/
theorem giv_once (so : SrcOk g.length S) (N : NInv S g g.length V) {t : Cs} {v y z : Nat} (h : Giv S g V t v y) (k : Giv S g V t v z) : y = z ∧ (GivJ S V t v y → ¬GivS g V t v z) := by
  have jj : ∀ {y z : Nat}, GivJ S V t v y → GivJ S V t v z → y < z → False := fun {y z} a b lt => by
    have lz := many_lt b.1
    rw [so.len] at lz
    have := ((N.n1 z lz b.1 t).2 y lt).1
    have := a.2
    have := b.2
    omega
  have js : ∀ {y z : Nat}, GivJ S V t v y → GivS g V t v z → False := fun {y z} a b => by
    obtain ⟨⟨x, e, s⟩, eb⟩ := b
    have ly := many_lt a.1
    rw [so.len] at ly
    have lz := (List.getElem?_eq_some_iff.mp e).1
    have ea := a.2
    rcases Nat.lt_or_ge z y with lt | ge
    · have := ((N.n1 y ly a.1 t).2 z lt).2; omega
    · have := (N.n2 z lz x t e s).2.1 y ge; omega
  have ss : ∀ {y z : Nat}, GivS g V t v y → GivS g V t v z → y < z → False := fun {y z} a b lt => by
    obtain ⟨⟨x, e, s⟩, eb⟩ := b
    have lz := (List.getElem?_eq_some_iff.mp e).1
    have := (N.n2 z lz x t e s).2.2 y lt
    have := a.2
    omega
  refine ⟨?_, js⟩
  rcases h with h | h <;> rcases k with k | k
  · rcases Nat.lt_trichotomy y z with lt | e | lt
    · exact (jj h k lt).elim
    · exact e
    · exact (jj k h lt).elim
  · exact (js h k).elim
  · exact (js k h).elim
  · rcases Nat.lt_trichotomy y z with lt | e | lt
    · exact (ss h k lt).elim
    · exact e
    · exact (ss k h lt).elim
/-- ahead of a node: nothing, a joining of its own, or given at a node that stands above -/
def DomA (S : List (List Int)) (g : List Nd) (V : Vst) (t : Cs) (v p : Nat) : Prop := v = 0 ∨ GivJ S V t v p ∨ ∃ y, Giv S g V t v y ∧ y ≠ p ∧ Dm (glOf g) y p
def DomB (S : List (List Int)) (g : List Nd) (V : Vst) (t : Cs) (v p : Nat) : Prop := v = 0 ∨ ∃ y, Giv S g V t v y ∧ Dm (glOf g) y p
theorem DomA.b {t : Cs} {v p : Nat} (h : DomA S g V t v p) : DomB S g V t v p := by
  rcases h with h | h | ⟨y, h1, _, h2⟩
  · exact .inl h
  · exact .inr ⟨p, .inl h, Dm.self p⟩
  · exact .inr ⟨y, h1, h2⟩
/-- the sources are the nodes from which ways come -/
structure SrcG (g : List Nd) (S : List (List Int)) : Prop where
  mem : ∀ (k : Nat) r, S[k]? = some r → ∀ p : Nat, p < g.length → (k ∈ glOf g p ↔ (p : Int) ∈ r)
theorem dm_only {t : Nat → List Nat} {y s p : Nat} (hp : p ≠ 0) (only : ∀ q, p ∈ t q → Rch t y q → q = s) (h : Dm t y s) : Dm t y p := fun r => by
  cases r with
  | zero _ => exact hp rfl
  | step a b _ => exact h (only _ b a ▸ a)
theorem rch_lt {f : Nat → List Nat} {n o k : Nat} (G : Gf f n) (h : Rch f o k) : k < n := by
  induction h with
  | zero _ => exact G.pos
  | step _ a _ ih => exact G.clo _ ih _ a
theorem dom_zero (so : SrcOk g.length S) (sg : SrcG g S) (hg : GOk g) (N : NInv S g g.length V) : ∀ (n p : Nat), p < n → p < g.length → ∀ t, DomA S g V t (rowAt V.A p t) p ∧ DomB S g V t (rowAt V.B p t) p
  | 0, p, h, _, t => absurd h (Nat.not_lt_zero _)
  | n + 1, p, hn, hp, t => by
    have G := hg.gf
    have hA : DomA S g V t (rowAt V.A p t) p := by
      have hl : p < S.length := by rw [so.len]; exact hp
      obtain ⟨r, hr⟩ : ∃ r, S[p]? = some r := ⟨_, List.getElem?_eq_getElem hl⟩
      by_cases m : manyS S p
      · exact .inr (.inl ⟨m, rfl⟩)
      · obtain ⟨_, _, h3⟩ := so.row p r hr
        have e : ∃ s, r = [s] := by
          cases r with
          | nil =>
            rcases h3 with ⟨_, r', e⟩ | ⟨_, _, s, hs, _⟩
            · cases e
            · cases hs
          | cons b t =>
            cases t with
            | cons c u => exact absurd ⟨_, hr, by simp⟩ m
            | nil => exact ⟨b, rfl⟩
        obtain ⟨s, rfl⟩ := e
        rw [N.n3 p hp s hr t]
        rcases h3 with ⟨_, r', e⟩ | ⟨h0, _, s', hs, s0, slt⟩
        · injection e with e1 e2
          exact .inl (if_pos e1)
        · rw [List.mem_singleton.mp hs] at s0 slt
          obtain ⟨j, rfl⟩ := Int.eq_ofNat_of_zero_le s0
          have hj : j < p := by omega
          have ev : verF V (j : Int) t = rowAt V.B j t := by unfold verF; rw [if_neg (by omega)]; rfl
          rw [ev]
          rcases (dom_zero so sg hg N n j (by omega) (by omega) t).2 with z | ⟨y, h1, h2⟩
          · exact .inl z
          · have yl := giv_lt so h1
            have yj := h2.le G (show j < g.length by omega)
            refine .inr (.inr ⟨y, h1, by omega, dm_only (by omega) (fun q hq rq => ?_) h2⟩)
            have ql := rch_lt G rq
            have := (sg.mem p _ hr q ql).mp hq
            have := List.mem_singleton.mp this
            omega
    refine ⟨hA, ?_⟩
    have hx : g[p]? = some g[p] := List.getElem?_eq_getElem hp
    by_cases s : sumN g[p] = some t
    · exact .inr ⟨p, .inr ⟨⟨_, hx, s⟩, rfl⟩, Dm.self p⟩
    · rw [N.n4 p hp _ t hx s]
      exact hA.b
theorem root_put {μ : Mks} (d : DecM μ) {x : Cs} {i w : Nat} (hw : w < i) (hn : μ x (w : Int) = none) (hi : μ x (i : Int) = none) (t : Cs) : ∀ (n v : Nat), v ≤ n → rootM (μ.put x (i : Int) w) t v = if t = x ∧ rootM μ t v = i then w else rootM μ t v
  | n, v, hv => by
    have d' : DecM (μ.put x (i : Int) w) := d.put (by omega)
    have rw_ : t = x → rootM (μ.put x (i : Int) w) t w = w := fun e => root_none (by
      subst e
      rw [Mks.put_ne fun z => by have := z.2; omega]
      exact hn)
    cases e : μ t (v : Int) with
    | none =>
      rw [root_none e]
      by_cases z : t = x ∧ v = i
      · obtain ⟨rfl, rfl⟩ := z
        rw [if_pos ⟨rfl, rfl⟩, root_some d' Mks.put_self]
        exact rw_ rfl
      · rw [if_neg z]
        exact root_none (by rw [Mks.put_ne fun w => z ⟨w.1, by have := w.2; omega⟩]; exact e)
    | some u =>
      have lt := d _ _ _ e
      have ne : ¬(t = x ∧ (v : Int) = (i : Int)) := fun z => by
        obtain ⟨rfl, z2⟩ := z
        rw [z2, hi] at e
        cases e
      rw [root_some d e, root_some d' (by rw [Mks.put_ne ne]; exact e)]
      cases n with
      | zero => omega
      | succ n => exact root_put d hw hn hi t n u (by omega)
def DomI (S : List (List Int)) (g : List Nd) (V : Vst) (μ : Mks) : Prop := ∀ p, p < g.length → ∀ t, DomA S g V t (rootM μ t (rowAt V.A p t)) p ∧ DomB S g V t (rootM μ t (rowAt V.B p t)) p
theorem HistM.dec {nm : List Cs} (P : VerP nm S V) {μ : Mks} (h : HistM nm S V μ) : DecM μ := by
  induction h with
  | nil => exact fun _ _ _ e => nomatch e
  | @put μ x k w r _ hx hr m e ho ih =>
    obtain ⟨w', hw, lt⟩ := others_pos P ih hr m x
    rw [ho, List.mem_singleton] at hw
    exact ih.put (by omega)
theorem dom_hist {nm : List Cs} (P : VerP nm S V) (so : SrcOk g.length S) (sg : SrcG g S) (hg : GOk g) (N : NInv S g g.length V) {μ : Mks} (h : HistM nm S V μ) : DomI S g V μ := by
  induction h with
  | nil =>
    intro p hp t
    have r0 : ∀ v, rootM (fun _ _ => none) t v = v := fun v => root_none rfl
    rw [r0, r0]
    exact dom_zero so sg hg N _ p (Nat.lt_succ_self p) hp t
  | @put μ x k w r hh hx hr m e ho ih =>
    have G := hg.gf
    have d := hh.dec P
    obtain ⟨w', hw, lt⟩ := others_pos P d hr m x
    rw [ho, List.mem_singleton] at hw
    subst hw
    have mk : manyS S k := ⟨r, hr, m⟩
    have kl : k < g.length := by have := many_lt mk; rw [so.len] at this; exact this
    have mem : w' ∈ othersAt μ V r x (rowAt V.A k x) := by rw [ho]; exact List.mem_singleton.mpr rfl
    have own : GivJ S V x (rowAt V.A k x) k := ⟨mk, rfl⟩
    -- each source but the joining itself
    have src : ∀ s ∈ r, rootM μ x (verF V s x) = w' ∨ rootM μ x (verF V s x) = rowAt V.A k x := fun s hs => by
      by_cases z : rootM μ x (verF V s x) = rowAt V.A k x
      · exact .inr z
      · left
        have : rootM μ x (verF V s x) ∈ othersAt μ V r x (rowAt V.A k x) := by
          unfold othersAt
          rw [List.mem_filter, ddK_mem]
          exact ⟨.inr (List.mem_map.mpr ⟨s, hs, rfl⟩), decide_eq_true z⟩
        rw [ho] at this
        exact List.mem_singleton.mp this
    have wn : μ x (w' : Int) = none := by
      unfold othersAt at mem
      rw [List.mem_filter, ddK_mem] at mem
      obtain ⟨s, _, es⟩ := List.mem_map.mp (mem.1.resolve_left fun z => nomatch z)
      rw [← es]
      exact (root_le d _ _ (Nat.le_refl _)).2
    -- what stands for the joining is given above it
    have up : w' = 0 ∨ ∃ y, Giv S g V x w' y ∧ y ≠ k ∧ Dm (glOf g) y k := by
      by_cases z : w' = 0
      · exact .inl z
      right
      -- each way into the joining from without comes from a node with that version
      have pre : ∀ s : Nat, s < g.length → k ∈ glOf g s → Rch (glOf g) k s → rootM μ x (rowAt V.B s x) = w' := fun s hs hk hr' => by
        have ms := (sg.mem k r hr s hs).mp hk
        have ev : verF V (s : Int) x = rowAt V.B s x := by unfold verF; rw [if_neg (by omega)]; rfl
        have := src s ms
        rw [ev] at this
        rcases this with h | h
        · exact h
        · exfalso
          rcases (ih s hs x).2 with z | ⟨y, h1, h2⟩
          · rw [h] at z
            have := (N.n1 k kl mk x).1
            omega
          · rw [h] at h1
            have := (giv_once so N h1 (.inl own)).1
            subst this
            exact h2 hr'
      -- the first node is no joining of that version
      have k0 : k ≠ 0 := fun k0 => by
        subst k0
        obtain ⟨_, _, h3⟩ := so.row 0 r hr
        rcases h3 with ⟨_, r', er⟩ | ⟨h0, _⟩
        · have := src (-1) (by rw [er]; exact List.mem_cons_self)
          have ev : verF V (-1) x = 0 := if_pos rfl
          have r0 : rootM μ x 0 = 0 := by have := (root_le d 0 0 (Nat.le_refl _) (x := x)).1; omega
          rw [ev, r0] at this
          rcases this with h | h
          · exact z h.symm
          · have := (N.n1 0 kl mk x).1
            omega
        · omega
      -- the way from before
      obtain ⟨q, hq, hkq⟩ := hg.gf.par k (by omega) kl
      have rq : Rch (glOf g) k q := rch_below G q (by omega) hq
      have eq := pre q (by omega) hkq rq
      rcases (ih q (by omega) x).2 with z' | ⟨y, h1, h2⟩
      · rw [eq] at z'; exact absurd z' z
      · rw [eq] at h1
        have yq := h2.le G (show q < g.length by omega)
        refine ⟨y, h1, by omega, fun ry => ?_⟩
        -- a walk to the joining without that node
        have walk : ∀ c, Rch (glOf g) y c → Rch (glOf g) k c ∨ Rch (glOf g) y k ∧ ∃ s, Rch (glOf g) k s ∧ Rch (glOf g) y s ∧ k ∈ glOf g s := by
          intro c hc
          induction hc with
          | zero h0 => exact .inl (.zero k0)
          | @step a b ha hb ne ih2 =>
            rcases ih2 with h | h
            · by_cases z2 : b = k
              · subst z2
                exact .inr ⟨.step ha hb ne, a, h, ha, hb⟩
              · exact .inl (.step h hb z2)
            · exact .inr h
        rcases walk k ry with h | ⟨_, s, s1, s2, s3⟩
        · exact Dm.self k h
        · have sl := rch_lt G s2
          have es := pre s sl s3 s1
          rcases (ih s sl x).2 with z' | ⟨y', h1', h2'⟩
          · rw [es] at z'; exact z z'
          · rw [es] at h1'
            have := (giv_once so N h1 h1').1
            subst this
            exact h2' s2
    have rp := fun t v => root_put d lt wn e t v v (Nat.le_refl _)
    intro p hp t
    obtain ⟨hA, hB⟩ := ih p hp t
    constructor
    · rw [rp]
      by_cases z : t = x ∧ rootM μ t (rowAt V.A p t) = rowAt V.A k x
      · rw [if_pos z]
        obtain ⟨rfl, z⟩ := z
        rw [z] at hA
        rcases up with u | ⟨y, h1, h2, h3⟩
        · exact .inl u
        · have kp : k = p ∨ (k ≠ p ∧ Dm (glOf g) k p) := by
            rcases hA with h | h | ⟨y', g1, g2, g3⟩
            · have := (N.n1 k kl mk t).1; omega
            · exact .inl (giv_once so N (.inl own) (.inl h)).1
            · have := (giv_once so N (.inl own) g1).1
              subst this
              exact .inr ⟨g2, g3⟩
          rcases kp with rfl | ⟨ne, dk⟩
          · exact .inr (.inr ⟨y, h1, h2, h3⟩)
          · have a1 := h3.le G kl
            have a2 := dk.le G hp
            exact .inr (.inr ⟨y, h1, by omega, h3.trans dk⟩)
      · rw [if_neg z]; exact hA
    · rw [rp]
      by_cases z : t = x ∧ rootM μ t (rowAt V.B p t) = rowAt V.A k x
      · rw [if_pos z]
        obtain ⟨rfl, z⟩ := z
        rw [z] at hB
        rcases up with u | ⟨y, h1, h2, h3⟩
        · exact .inl u
        · have dk : Dm (glOf g) k p := by
            rcases hB with h | ⟨y', g1, g3⟩
            · have := (N.n1 k kl mk t).1; omega
            · have := (giv_once so N (.inl own) g1).1
              subst this
              exact g3
          exact .inr ⟨y, h1, h3.trans dk⟩
      · rw [if_neg z]; exact hB
end
end VL
namespace VL
open PySem PySem.Spec PyProof.Rows L2 VL
theorem srcG_g (g : List Nd) : SrcG g (srcG g) := ⟨fun k r e p hp => by
  have hk : k < g.length := by
    have := (List.getElem?_eq_some_iff.mp e).1
    unfold srcG at this
    simpa using this
  rw [srcG_at hk] at e
  cases e
  constructor
  · intro h
    exact List.mem_append_right _ (List.mem_map.mpr ⟨p, List.mem_filter.mpr ⟨List.mem_range.mpr hp, decide_eq_true h⟩, rfl⟩)
  · intro h
    rcases List.mem_append.mp h with h | h
    · split at h
      · have := List.mem_singleton.mp h; omega
      · cases h
    · obtain ⟨j, hj, e⟩ := List.mem_map.mp h
      have : j = p := by omega
      subst this
      exact of_decide_eq_true (List.mem_filter.mp hj).2⟩
/-- all givers, as found -/
structure GvM (nm : List Cs) (S : List (List Int)) (g : List Nd) (V : Vst) (μ J Z : Mks) : Prop where
  sJ : ∀ c i j, J c i = some j → c ∈ nm ∧ manyS S j ∧ i = (rowAt V.A j c : Int)
  cJ : ∀ c j, c ∈ nm → manyS S j → μ c (rowAt V.A j c : Int) = none → (J c (rowAt V.A j c : Int)).isSome = true
  sZ : ∀ c i j, Z c i = some j → (∃ x, g[j]? = some x ∧ sumN x = some c) ∧ i = (rowAt V.B j c : Int)
  cZ : ∀ c j x, g[j]? = some x → sumN x = some c → (Z c (rowAt V.B j c : Int)).isSome = true
section
variable {nm : List Cs} {S : List (List Int)} {g : List Nd} {V : Vst} {μ J Z : Mks}
/-- found by its giver -/
theorem GvM.find (M : GvM nm S g V μ J Z) (so : SrcOk g.length S) (N : NInv S g g.length V) {t : Cs} (ht : t ∈ nm) {v y : Nat} (hv : μ t (v : Int) = none) (h : Giv S g V t v y) : J t (v : Int) = some y ∨ (J t (v : Int) = none ∧ Z t (v : Int) = some y) := by
  rcases h with h | h
  · left
    have c := M.cJ t y ht h.1 (by rw [← h.2]; exact hv)
    rw [← h.2] at c
    obtain ⟨j, hj⟩ := Option.isSome_iff_exists.mp c
    obtain ⟨_, s1, s2⟩ := M.sJ t _ j hj
    have := (giv_once so N (.inl h) (.inl ⟨s1, by omega⟩)).1
    subst this
    exact hj
  · right
    refine ⟨?_, ?_⟩
    · cases e : J t (v : Int) with
      | none => rfl
      | some j =>
        obtain ⟨_, s1, s2⟩ := M.sJ t _ j e
        have k : GivJ S V t v j := ⟨s1, by omega⟩
        exact absurd h ((giv_once so N (.inl k) (.inr h)).2 k)
    · obtain ⟨⟨x, e1, e2⟩, e3⟩ := h
      have c := M.cZ t y x e1 e2
      rw [← e3] at c
      obtain ⟨j, hj⟩ := Option.isSome_iff_exists.mp c
      obtain ⟨s1, s2⟩ := M.sZ t _ j hj
      have := (giv_once so N (.inr ⟨⟨x, e1, e2⟩, e3⟩) (.inr ⟨s1, by omega⟩)).1
      subst this
      exact hj
/-- what an operand asks -/
def OpGood (g : List Nd) (J Z : Mks) (t : Cs) (v k : Nat) : Prop := v = 0 ∨ (∃ j, j < g.length ∧ J t (v : Int) = some j ∧ (j = k ∨ Dm (glOf g) j k)) ∨ (J t (v : Int) = none ∧ ∃ j, j < g.length ∧ Z t (v : Int) = some j ∧ j ≠ k ∧ Dm (glOf g) j k)
def SrGood (g : List Nd) (J Z : Mks) (t : Cs) (v k : Nat) : Prop := v = 0 ∨ (∃ j, j < g.length ∧ J t (v : Int) = some j ∧ (j = k ∨ Dm (glOf g) j k)) ∨ (J t (v : Int) = none ∧ ∃ j, j < g.length ∧ Z t (v : Int) = some j ∧ (j = k ∨ Dm (glOf g) j k))
theorem op_good (M : GvM nm S g V μ J Z) (so : SrcOk g.length S) (N : NInv S g g.length V) {t : Cs} (ht : t ∈ nm) {v k : Nat} (hv : μ t (v : Int) = none) (h : DomA S g V t v k) : OpGood g J Z t v k := by
  rcases h with h | h | ⟨y, h1, h2, h3⟩
  · exact .inl h
  · have kl := giv_lt so (.inl h)
    rcases M.find so N ht hv (.inl h) with e | ⟨e, e2⟩
    · exact .inr (.inl ⟨k, kl, e, .inl rfl⟩)
    · obtain ⟨s1, s2⟩ := M.sZ t _ k e2
      have q : GivS g V t v k := ⟨s1, by omega⟩
      exact absurd q ((giv_once so N (.inl h) (.inr q)).2 h)
  · have yl := giv_lt so h1
    rcases M.find so N ht hv h1 with e | ⟨e, e2⟩
    · exact .inr (.inl ⟨y, yl, e, .inr h3⟩)
    · exact .inr (.inr ⟨e, y, yl, e2, h2, h3⟩)
theorem sr_good (M : GvM nm S g V μ J Z) (so : SrcOk g.length S) (N : NInv S g g.length V) {t : Cs} (ht : t ∈ nm) {v k : Nat} (hv : μ t (v : Int) = none) (h : DomB S g V t v k) : SrGood g J Z t v k := by
  rcases h with h | ⟨y, h1, h3⟩
  · exact .inl h
  · have yl := giv_lt so h1
    rcases M.find so N ht hv h1 with e | ⟨e, e2⟩
    · exact .inr (.inl ⟨y, yl, e, .inr h3⟩)
    · exact .inr (.inr ⟨e, y, yl, e2, .inr h3⟩)
end
/-- for each node those that are come to without it -/
def RndOk (g : List Nd) (W : List (List Nat)) : Prop := W.length = g.length ∧ ∀ (o : Nat) w, W[o]? = some w → w.length < 100000 ∧ ∀ k, k ∈ w ↔ Rch (glOf g) o k
def prs (μ : Mks) (V : Vst) (x : Cs) (r : List Int) : List D := r.map fun s => .tup [.int s, .int (rootM μ x (verF V s x) : Int)]
theorem prs_fz (μ : Mks) (V : Vst) (x : Cs) (r : List Int) : isFzL (prs μ V x r) = true := by unfold prs; rw [isFzL_all]; simp [isFz, isFzL]
theorem jn_frz (μ : Mks) (V : Vst) (r : List Int) (k : Nat) (x : Cs) : frz (jnD true μ V r k x) = jnD false μ V r k x := by
  show D.tup (frzL [.str x, .int (rowAt V.A k x : Int), .lst true (prs μ V x r)]) = _
  rw [frzL, frzL, frzL]
  show D.tup [.str x, .int (rowAt V.A k x : Int), .lst false (frzL (prs μ V x r))] = _
  rw [frzL_id (prs_fz μ V x r)]
  rfl
theorem jns_frz (μ : Mks) (V : Vst) (r : List Int) (k : Nat) (nm : List Cs) : frzL (jnsD true μ V r k nm) = jnsD false μ V r k nm := by
  unfold jnsD
  rw [frzL_map, List.map_map]
  exact List.map_congr_left fun x _ => jn_frz μ V r k x
theorem tell_frz (μ : Mks) (V : Vst) (S : List (List Int)) (nm : List Cs) (g : List Nd) : frzL (tellD true μ V S nm g) = tellD false μ V S nm g := by
  rw [frzL_map]
  refine List.ext_getElem? fun i => ?_
  unfold tellD
  rw [List.getElem?_map, List.getElem?_mapIdx, List.getElem?_mapIdx]
  cases g[i]? with
  | none => rfl
  | some x =>
    show some (frz (.tup [.lst true (jnsD true μ V ((S[i]?).getD []) i nm), ndTold μ V i x])) = some (.tup [.lst false (jnsD false μ V ((S[i]?).getD []) i nm), ndTold μ V i x])
    have e : frz (.tup [.lst true (jnsD true μ V ((S[i]?).getD []) i nm), ndTold μ V i x]) = .tup [.lst false (frzL (jnsD true μ V ((S[i]?).getD []) i nm)), frz (ndTold μ V i x)] := by
      show D.tup (frzL [_, _]) = _
      rw [frzL, frzL]
      rfl
    rw [e, jns_frz, frz_id (ndTold_fz μ V i x)]
theorem jns_fz (μ : Mks) (V : Vst) (r : List Int) (k : Nat) (nm : List Cs) : isFzL (jnsD false μ V r k nm) = true := by rw [← jns_frz]; exact isFzL_frz _
theorem tell_fz (μ : Mks) (V : Vst) (S : List (List Int)) (nm : List Cs) (g : List Nd) : isFzL (tellD false μ V S nm g) = true := by rw [← tell_frz]; exact isFzL_frz _
theorem tell_len (m : Bool) (μ : Mks) (V : Vst) (S : List (List Int)) (nm : List Cs) (g : List Nd) : (tellD m μ V S nm g).length = g.length := by unfold tellD; rw [List.length_mapIdx]
theorem tell_ix {μ : Mks} {V : Vst} {S : List (List Int)} {nm : List Cs} {g : List Nd} {k : Nat} {x : Nd} (h : g[k]? = some x) : ixD (.lst false (tellD false μ V S nm g)) (.int (k : Int)) = some (.tup [.lst false (jnsD false μ V ((S[k]?).getD []) k nm), ndTold μ V k x]) := by
  have lt := (List.getElem?_eq_some_iff.mp h).1
  show (ixN (tellD false μ V S nm g).length (k : Int)).bind _ = _
  rw [ixN_nat (by rw [tell_len]; exact lt)]
  show (tellD false μ V S nm g)[k]? = _
  unfold tellD
  rw [List.getElem?_mapIdx, h]
  rfl
end VL
namespace Pk82
open PySem PySem.Spec PyProof.Rows L2 VL
def top (i : Nat) : Stmt := PySem.Challenge.pw_unjump_k82_come_through.main.body.getD i (.Pass ⟨0, 0, 0, 0⟩)
abbrev s_Versions_version_from : Stmt := inClass (top 6) 4
abbrev s_Versions_pass_by : Stmt := inClass (top 6) 3
abbrev s_Versions_enter : Stmt := inClass (top 6) 2
abbrev s_Versions_new_one : Stmt := inClass (top 6) 1
abbrev s_Versions_init : Stmt := inClass (top 6) 0
abbrev s_ways : Stmt := top 1
abbrev s_comings : Stmt := top 2
abbrev s_names_of : Stmt := top 4
abbrev s_sources_of : Stmt := top 5
abbrev s_found_same : Stmt := top 7
abbrev s_joinings_spared : Stmt := top 8
abbrev s_joinings_of : Stmt := top 9
abbrev s_operand_told : Stmt := top 10
abbrev s_node_told : Stmt := top 11
abbrev s_once : Stmt := top 12
abbrev s_Lcell : Stmt := top 14
abbrev s_Lmixed : Stmt := top 15
abbrev s_Lgreat : Stmt := top 16
abbrev s_Lfar : Stmt := top 17
abbrev s_Lnode : Stmt := top 18
abbrev s_Lgoals : Stmt := top 19
abbrev s_Lorder : Stmt := top 20
abbrev s_Lgraph : Stmt := top 21
abbrev s_Lmenu : Stmt := top 22
abbrev s_Lword : Stmt := top 23
abbrev s_Lcalled : Stmt := top 24
abbrev s_Ldrawn : Stmt := top 25
abbrev s_Lwithout : Stmt := top 26
abbrev s_Lgivers : Stmt := top 27
abbrev s_Lgood_operand : Stmt := top 28
abbrev s_Lgood_source : Stmt := top 29
abbrev s_law : Stmt := top 30
def sp_Versions_version_from : VSp := Fsp (fun a : VrA × Int × Cs => [a.1.f, .int a.2.1, .str a.2.2]) (fun a => (a.2.1 = -1 ∨ (0 ≤ a.2.1 ∧ a.2.1.toNat < a.1.V.B.length)) ∧ a.2.2 ∈ a.1.nm) fun a => .int (verF a.1.V a.2.1 a.2.2 : Int)
theorem mono_Versions_version_from : Mono sp_Versions_version_from := Fsp.mono
theorem c_Versions_version_from {nm : List Cs} {S : List (List Int)} {V : Vst} {s : Int} {x : Cs} {A : D → List D → Prop} {B : Value → D → List D → Prop} (h : (s = -1 ∨ (0 ≤ s ∧ s.toNat < V.B.length)) ∧ x ∈ nm) (q : A (.int (verF V s x : Int)) [insV false nm S V, .int s, .str x]) : sp_Versions_version_from [insV false nm S V, .int s, .str x] A B := ⟨(⟨nm, S, V⟩, s, x), rfl, h, q⟩
def sp_Versions_pass_by : VSp := Fsp (fun a : VrA × Nat × Nd => [a.1.d, .int (a.2.1 : Int), ndD a.2.2]) (fun a => a.1.nm.Nodup ∧ a.1.nm.length < 60 ∧ a.2.1 < a.1.V.A.length ∧ a.1.V.B.length < 1000 ∧ ∀ t ∈ txtsN a.2.2, t ∈ a.1.nm) (fun _ => .non) fun a => [VrA.d ⟨a.1.nm, a.1.S, passV a.2.1 a.2.2 a.1.V⟩, .int (a.2.1 : Int), ndD a.2.2]
theorem mono_Versions_pass_by : Mono sp_Versions_pass_by := Fsp.mono
theorem c_Versions_pass_by {nm : List Cs} {S : List (List Int)} {V : Vst} {k : Nat} {x : Nd} {A : D → List D → Prop} {B : Value → D → List D → Prop} (h : nm.Nodup ∧ nm.length < 60 ∧ k < V.A.length ∧ V.B.length < 1000 ∧ ∀ t ∈ txtsN x, t ∈ nm) (q : A .non [insV true nm S (passV k x V), .int (k : Int), ndD x]) : sp_Versions_pass_by [insV true nm S V, .int (k : Int), ndD x] A B := ⟨(⟨nm, S, V⟩, k, x), rfl, h, q⟩
structure EnP (nm : List Cs) (S : List (List Int)) (V : Vst) (k : Nat) : Prop where
  nd : nm.Nodup
  few : nm.length < 60
  so : SrcOk S.length S
  lt : k < S.length
  la : V.A.length = k
  lb : V.B.length = k
def sp_Versions_enter : VSp := Fsp (fun a : VrA × Nat => [a.1.d, .int (a.2 : Int)]) (fun a => EnP a.1.nm a.1.S a.1.V a.2) (fun _ => .non) fun a => [VrA.d ⟨a.1.nm, a.1.S, enterV a.1.S a.2 a.1.V⟩, .int (a.2 : Int)]
theorem mono_Versions_enter : Mono sp_Versions_enter := Fsp.mono
theorem c_Versions_enter {nm : List Cs} {S : List (List Int)} {V : Vst} {k : Nat} {A : D → List D → Prop} {B : Value → D → List D → Prop} (h : EnP nm S V k) (q : A .non [insV true nm S (enterV S k V), .int (k : Int)]) : sp_Versions_enter [insV true nm S V, .int (k : Int)] A B := ⟨(⟨nm, S, V⟩, k), rfl, h, q⟩
def sp_Versions_new_one : VSp := Fsp (fun a : VrA × Cs => [a.1.d, .str a.2]) (fun a => a.1.nm.Nodup ∧ a.1.nm.length < 1000 ∧ a.2 ∈ a.1.nm) (fun a => .int ((a.1.V.gv a.2 + 1 : Nat) : Int)) fun a => [VrA.d ⟨a.1.nm, a.1.S, oneV a.1.V a.2⟩, .str a.2]
theorem mono_Versions_new_one : Mono sp_Versions_new_one := Fsp.mono
theorem c_Versions_new_one {nm : List Cs} {S : List (List Int)} {V : Vst} {x : Cs} {A : D → List D → Prop} {B : Value → D → List D → Prop} (h : nm.Nodup ∧ nm.length < 1000 ∧ x ∈ nm) (q : A (.int ((V.gv x + 1 : Nat) : Int)) [insV true nm S (oneV V x), .str x]) : sp_Versions_new_one [insV true nm S V, .str x] A B := ⟨(⟨nm, S, V⟩, x), rfl, h, q⟩
def sp_Versions_init : VSp := Fsp (fun a : List Nd × List Cs => [.ins true 3 [] [], .lst false (a.1.map ndD)]) (fun a => GOk a.1 ∧ a.1.length ≤ 62 ∧ NmG a.1 a.2) (fun _ => .non) fun a => [insV true (namesG a.1) (srcG a.1) (verG (srcG a.1) a.1), .lst false (a.1.map ndD)]
theorem mono_Versions_init : Mono sp_Versions_init := Fsp.mono
theorem c_Versions_init {g : List Nd} {M : List Cs} {A : D → List D → Prop} {B : Value → D → List D → Prop} (h : GOk g ∧ g.length ≤ 62 ∧ NmG g M) (q : A .non [insV true (namesG g) (srcG g) (verG (srcG g) g), .lst false (g.map ndD)]) : sp_Versions_init [.ins true 3 [] [], .lst false (g.map ndD)] A B := ⟨(g, M), rfl, h, q⟩
def sp_ways : VSp := Fsp (fun a : Nd => [ndD a]) (fun _ => True) fun a => .tup (natsD (waysN a))
theorem mono_ways : Mono sp_ways := Fsp.mono
theorem c_ways {x : Nd} {A : D → List D → Prop} {B : Value → D → List D → Prop} : sp_ways [ndD x] A B ↔ A (.tup (natsD (waysN x))) [ndD x] := by
  constructor
  · rintro ⟨y, e, _, q⟩
    have := nd_inj (List.cons.inj e).1
    subst this
    exact q
  · exact fun q => ⟨x, rfl, trivial, q⟩
def comeG (g : List Nd) (t : Nat) : List Nat := comeRow (fun k => match g[k]? with | some x => goals x | none => []) g.length t
theorem comeG_len (g : List Nd) (t : Nat) : (comeG g t).length ≤ g.length * 2 := comeRow_len fun k _ => by
  show (match g[k]? with | some x => goals x | none => []).length ≤ 2
  cases g[k]? with
  | none => simp
  | some x => exact goals_len x
def sp_comings : VSp := Fsp (fun a : List Nd => [.lst false (a.map ndD)]) (fun a => a.length < 100000 ∧ ∀ x ∈ a, x.ok a.length) fun a => .lst true (rowsD a.length (comeG a))
theorem mono_comings : Mono sp_comings := Fsp.mono
theorem nds_inj2 {a b : List Nd} (h : a.map ndD = b.map ndD) : a = b := (List.map_inj_right (fun _ _ h => nd_inj h)).mp h
theorem c_comings {g : List Nd} {A : D → List D → Prop} {B : Value → D → List D → Prop} : sp_comings [.lst false (g.map ndD)] A B ↔ (g.length < 100000 ∧ ∀ x ∈ g, x.ok g.length) ∧ A (.lst true (rowsD g.length (comeG g))) [.lst false (g.map ndD)] := by
  constructor
  · rintro ⟨y, e, h, q⟩
    have := nds_inj2 (D.lst.inj (List.cons.inj e).1).2
    subst this
    exact ⟨h, q⟩
  · exact fun ⟨h, q⟩ => ⟨g, rfl, h, q⟩
def sp_names_of : VSp := Fsp (fun a : List Nd × List Cs => [.lst false (a.1.map ndD)]) (fun a => NmG a.1 a.2 ∧ a.1.length ≤ 1000) fun a => .lst true (strsD (namesG a.1))
theorem mono_names_of : Mono sp_names_of := Fsp.mono
theorem c_names_of {g : List Nd} {M : List Cs} {A : D → List D → Prop} {B : Value → D → List D → Prop} (h : NmG g M ∧ g.length ≤ 1000) (q : A (.lst true (strsD (namesG g))) [.lst false (g.map ndD)]) : sp_names_of [.lst false (g.map ndD)] A B := ⟨(g, M), rfl, h, q⟩
def sp_sources_of : VSp := Fsp (fun a : List Nd => [.lst false (a.map ndD)]) (fun a => GOk a ∧ a.length ≤ 62) fun a => .lst true (srcsD (srcG a))
theorem mono_sources_of : Mono sp_sources_of := Fsp.mono
theorem c_sources_of {g : List Nd} {A : D → List D → Prop} {B : Value → D → List D → Prop} (h : GOk g ∧ g.length ≤ 62) (q : A (.lst true (srcsD (srcG g))) [.lst false (g.map ndD)]) : sp_sources_of [.lst false (g.map ndD)] A B := ⟨g, rfl, h, q⟩
structure FsA where
  μ : Mks
  ks : List (List Kc)
  js : List Nat
  x : Cs
  v : Nat
def sp_found_same : VSp := Fsp (fun a : FsA => [mksD false a.ks a.js, .str a.x, .int (a.v : Int)]) (fun a => RepM a.μ a.ks a.js ∧ DecM a.μ) fun a => .int (rootM a.μ a.x a.v : Int)
theorem mono_found_same : Mono sp_found_same := Fsp.mono
theorem c_found_same {μ : Mks} {ks : List (List Kc)} {js : List Nat} {x : Cs} {v : Nat} {A : D → List D → Prop} {B : Value → D → List D → Prop} (h : RepM μ ks js ∧ DecM μ) (q : A (.int (rootM μ x v : Int)) [mksD false ks js, .str x, .int (v : Int)]) : sp_found_same [mksD false ks js, .str x, .int (v : Int)] A B := ⟨⟨μ, ks, js, x, v⟩, rfl, h, q⟩
def sp_joinings_spared : VSp := Psp (fun a : VrA => [a.f]) (fun a => VerP a.nm a.S a.V) fun a r => ∃ μ ks js, r = mksD true ks js ∧ RepM μ ks js ∧ SameP a.nm a.S a.V μ
theorem mono_joinings_spared : Mono sp_joinings_spared := Psp.mono
theorem c_joinings_spared {nm : List Cs} {S : List (List Int)} {V : Vst} {A : D → List D → Prop} {B : Value → D → List D → Prop} (h : VerP nm S V) (q : ∀ μ ks js, RepM μ ks js → SameP nm S V μ → A (mksD true ks js) [insV false nm S V]) : sp_joinings_spared [insV false nm S V] A B := ⟨⟨nm, S, V⟩, rfl, h, fun _ ⟨μ, ks, js, e, h1, h2⟩ => by subst e; exact q μ ks js h1 h2⟩
structure JoA where
  v : VrA
  μ : Mks
  ks : List (List Kc)
  js : List Nat
  k : Nat
  r : List Int
def sp_joinings_of : VSp := Fsp (fun a : JoA => [a.v.f, mksD false a.ks a.js, .int (a.k : Int)]) (fun a => VerP a.v.nm a.v.S a.v.V ∧ RepM a.μ a.ks a.js ∧ DecM a.μ ∧ a.v.S[a.k]? = some a.r) fun a => .lst true (jnsD true a.μ a.v.V a.r a.k a.v.nm)
theorem mono_joinings_of : Mono sp_joinings_of := Fsp.mono
theorem c_joinings_of {nm : List Cs} {S : List (List Int)} {V : Vst} {μ : Mks} {ks : List (List Kc)} {js : List Nat} {k : Nat} {r : List Int} {A : D → List D → Prop} {B : Value → D → List D → Prop} (h : VerP nm S V ∧ RepM μ ks js ∧ DecM μ ∧ S[k]? = some r) (q : A (.lst true (jnsD true μ V r k nm)) [insV false nm S V, mksD false ks js, .int (k : Int)]) : sp_joinings_of [insV false nm S V, mksD false ks js, .int (k : Int)] A B := ⟨⟨⟨nm, S, V⟩, μ, ks, js, k, r⟩, rfl, h, q⟩
structure OpA where
  v : VrA
  μ : Mks
  ks : List (List Kc)
  js : List Nat
  k : Nat
  a : Opd
def sp_operand_told : VSp := Fsp (fun a : OpA => [a.v.f, mksD false a.ks a.js, .int (a.k : Int), opD a.a]) (fun a => RepM a.μ a.ks a.js ∧ DecM a.μ ∧ a.k < a.v.V.A.length ∧ ∀ t ∈ txtsO a.a, t ∈ a.v.nm) fun a => opTold a.μ a.v.V a.k a.a
theorem mono_operand_told : Mono sp_operand_told := Fsp.mono
theorem c_operand_told {nm : List Cs} {S : List (List Int)} {V : Vst} {μ : Mks} {ks : List (List Kc)} {js : List Nat} {k : Nat} {a : Opd} {A : D → List D → Prop} {B : Value → D → List D → Prop} (h : RepM μ ks js ∧ DecM μ ∧ k < V.A.length ∧ ∀ t ∈ txtsO a, t ∈ nm) (q : A (opTold μ V k a) [insV false nm S V, mksD false ks js, .int (k : Int), opD a]) : sp_operand_told [insV false nm S V, mksD false ks js, .int (k : Int), opD a] A B := ⟨⟨⟨nm, S, V⟩, μ, ks, js, k, a⟩, rfl, h, q⟩
structure NtA where
  v : VrA
  μ : Mks
  ks : List (List Kc)
  js : List Nat
  k : Nat
  x : Nd
def sp_node_told : VSp := Fsp (fun a : NtA => [a.v.f, mksD false a.ks a.js, .int (a.k : Int), ndD a.x]) (fun a => RepM a.μ a.ks a.js ∧ DecM a.μ ∧ a.k < a.v.V.A.length ∧ a.k < a.v.V.B.length ∧ ∀ t ∈ txtsN a.x, t ∈ a.v.nm) fun a => ndTold a.μ a.v.V a.k a.x
theorem mono_node_told : Mono sp_node_told := Fsp.mono
theorem c_node_told {nm : List Cs} {S : List (List Int)} {V : Vst} {μ : Mks} {ks : List (List Kc)} {js : List Nat} {k : Nat} {x : Nd} {A : D → List D → Prop} {B : Value → D → List D → Prop} (h : RepM μ ks js ∧ DecM μ ∧ k < V.A.length ∧ k < V.B.length ∧ ∀ t ∈ txtsN x, t ∈ nm) (q : A (ndTold μ V k x) [insV false nm S V, mksD false ks js, .int (k : Int), ndD x]) : sp_node_told [insV false nm S V, mksD false ks js, .int (k : Int), ndD x] A B := ⟨⟨⟨nm, S, V⟩, μ, ks, js, k, x⟩, rfl, h, q⟩
def sp_once : VSp := Psp (fun a : List Nd × List Cs => [.lst false (a.1.map ndD)]) (fun a => GOk a.1 ∧ a.1.length ≤ 62 ∧ NmG a.1 a.2) fun a r => ∃ μ, r = .lst true (tellD true μ (verG (srcG a.1) a.1) (srcG a.1) (namesG a.1) a.1) ∧ SameP (namesG a.1) (srcG a.1) (verG (srcG a.1) a.1) μ
theorem mono_once : Mono sp_once := Psp.mono
theorem c_once {g : List Nd} {M : List Cs} {A : D → List D → Prop} {B : Value → D → List D → Prop} (h : GOk g ∧ g.length ≤ 62 ∧ NmG g M) (q : ∀ μ, SameP (namesG g) (srcG g) (verG (srcG g) g) μ → A (.lst true (tellD true μ (verG (srcG g) g) (srcG g) (namesG g) g)) [.lst false (g.map ndD)]) : sp_once [.lst false (g.map ndD)] A B := ⟨(g, M), rfl, h, fun _ ⟨μ, e, h1⟩ => by subst e; exact q μ h1⟩
def cellI (ns : List Int) (k : Int) : Int := ns[k.toNat]?.getD 0
theorem cellI_bits {ns : List Int} (h : ∀ z ∈ ns, Builtin.Int.intBits z ≤ 1048576) (k : Int) : Builtin.Int.intBits (cellI ns k) ≤ 1048576 := by
  unfold cellI
  cases e : ns[k.toNat]? with
  | none => show Builtin.Int.intBits 0 ≤ _; decide
  | some z => exact h z (List.mem_of_getElem? e)
def sp_Lcell : VSp := Fsp (fun a : List Int × Int => [scriptD a.1, .int a.2]) (fun a => 0 ≤ a.2) fun a => .int (cellI a.1 a.2)
theorem mono_Lcell : Mono sp_Lcell := Fsp.mono
theorem c_Lcell {ns : List Int} {k : Int} {A : D → List D → Prop} {B : Value → D → List D → Prop} : sp_Lcell [scriptD ns, .int k] A B ↔ 0 ≤ k ∧ A (.int (cellI ns k)) [scriptD ns, .int k] := by
  constructor
  · rintro ⟨⟨ns', k'⟩, e, h, q⟩
    obtain ⟨e1, e2⟩ := List.cons.inj e
    obtain ⟨e2, _⟩ := List.cons.inj e2
    have e3 := D.int.inj e2
    subst e3
    have e5 : ns = ns' := ints_inj (D.lst.inj e1).2
    subst e5
    exact ⟨h, q⟩
  · exact fun ⟨h, q⟩ => ⟨(ns, k), rfl, h, q⟩
def mixed (c k : Int) : Int :=
  let n := (c % 2147483647 * 48271 + 7919 * k * k + 104729) % 2147483647
  n * n % 2147483629
theorem mixed_lt (c k : Int) : 0 ≤ mixed c k ∧ mixed c k < 2147483629 := by
  unfold mixed
  exact ⟨Int.emod_nonneg _ (by decide), Int.emod_lt_of_pos _ (by decide)⟩
def sp_Lmixed : VSp := Fsp (fun a : Int × Int => [.int a.1, .int a.2]) (fun a => a.2.natAbs < 1125899906842624) fun a => .int (mixed a.1 a.2)
theorem mono_Lmixed : Mono sp_Lmixed := Fsp.mono
theorem c_Lmixed {c k : Int} {A : D → List D → Prop} {B : Value → D → List D → Prop} : sp_Lmixed [.int c, .int k] A B ↔ k.natAbs < 1125899906842624 ∧ A (.int (mixed c k)) [.int c, .int k] :=
  ⟨fun ⟨_, e, h, q⟩ => by cases e; exact ⟨h, q⟩, fun ⟨h, q⟩ => ⟨(c, k), rfl, h, q⟩⟩
def great (n : Int) : Int := n * 948273388530662767682822077 % 2000000000000000001 - 1000000000000000000
def sp_Lgreat : VSp := Fsp (fun a : Int => [.int a]) (fun a => Builtin.Int.intBits a ≤ 1048600) fun a => .int (great a)
theorem mono_Lgreat : Mono sp_Lgreat := Fsp.mono
theorem c_Lgreat {n : Int} {A : D → List D → Prop} {B : Value → D → List D → Prop} : sp_Lgreat [.int n] A B ↔ Builtin.Int.intBits n ≤ 1048600 ∧ A (.int (great n)) [.int n] :=
  ⟨fun ⟨_, e, h, q⟩ => by cases e; exact ⟨h, q⟩, fun ⟨h, q⟩ => ⟨n, rfl, h, q⟩⟩
def sp_Lfar : VSp := Psp (fun a : Int × Int × Int × Int => [.int a.1, .int a.2.1, .int a.2.2.1, .int a.2.2.2]) (fun a => 0 ≤ a.2.1 ∧ a.2.1 < a.2.2.1 ∧ a.2.2.1 < 1000000) fun a r => ∃ to : Nat, r = .int to ∧ (to : Int) < a.2.2.1
theorem mono_Lfar : Mono sp_Lfar := Psp.mono
theorem c_Lfar {n k m z : Int} {A : D → List D → Prop} {B : Value → D → List D → Prop} : sp_Lfar [.int n, .int k, .int m, .int z] A B ↔ (0 ≤ k ∧ k < m ∧ m < 1000000) ∧ ∀ to : Nat, (to : Int) < m → A (.int (to : Int)) [.int n, .int k, .int m, .int z] :=
  ⟨fun ⟨_, e, h, q⟩ => by cases e; exact ⟨h, fun to ht => q _ ⟨to, rfl, ht⟩⟩, fun ⟨h, q⟩ => ⟨(n, k, m, z), rfl, h, fun _ ⟨to, e, ht⟩ => by cases e; exact q to ht⟩⟩
def sp_Lnode : VSp := Psp (fun a : Int × Int × Int × Int => [.int a.1, .int a.2.1, .int a.2.2.1, .int a.2.2.2]) (fun a => Builtin.Int.intBits a.1 ≤ 1048576 ∧ 0 ≤ a.2.1 ∧ a.2.1 < a.2.2.1 ∧ a.2.2.1 < 1000000) fun a r => ∃ x : Nd, r = ndD x ∧ x.ok a.2.2.1.toNat ∧ x.good = true ∧ NdIn four x
theorem mono_Lnode : Mono sp_Lnode := Psp.mono
theorem c_Lnode {n k m z : Int} {A : D → List D → Prop} {B : Value → D → List D → Prop} : sp_Lnode [.int n, .int k, .int m, .int z] A B ↔ (Builtin.Int.intBits n ≤ 1048576 ∧ 0 ≤ k ∧ k < m ∧ m < 1000000) ∧ ∀ x : Nd, x.ok m.toNat → x.good = true → NdIn four x → A (ndD x) [.int n, .int k, .int m, .int z] :=
  ⟨fun ⟨_, e, h, q⟩ => by cases e; exact ⟨h, fun x h1 h2 h3 => q _ ⟨x, rfl, h1, h2, h3⟩⟩, fun ⟨h, q⟩ => ⟨(n, k, m, z), rfl, h, fun _ ⟨x, e, h1, h2, h3⟩ => by cases e; exact q x h1 h2 h3⟩⟩
def sp_Lgoals : VSp := Fsp (fun a : Nd => [ndD a]) (fun _ => True) fun a => .lst true (natsD (goals a))
theorem mono_Lgoals : Mono sp_Lgoals := Fsp.mono
theorem c_Lgoals {x : Nd} {A : D → List D → Prop} {B : Value → D → List D → Prop} : sp_Lgoals [ndD x] A B ↔ A (.lst true (natsD (goals x))) [ndD x] := by
  constructor
  · rintro ⟨y, e, _, q⟩
    have := nd_inj (List.cons.inj e).1
    subst this
    exact q
  · exact fun q => ⟨x, rfl, trivial, q⟩
/-- rows of nodes as the law draws them: each way leads within -/
structure RawOk (raw : List Nd) : Prop where
  pos : 0 < raw.length
  few : raw.length < 100000
  ok : ∀ x ∈ raw, x.ok raw.length
  good : ∀ x ∈ raw, x.good = true
theorem nds_inj {a b : List Nd} (h : a.map ndD = b.map ndD) : a = b := (List.map_inj_right (fun _ _ h => nd_inj h)).mp h
def sp_Lorder : VSp := Fsp (fun a : List Nd => [.lst false (a.map ndD)]) RawOk fun a => .lst true (natsD (orderOf (glOf a) a.length))
theorem mono_Lorder : Mono sp_Lorder := Fsp.mono
theorem c_Lorder {raw : List Nd} {A : D → List D → Prop} {B : Value → D → List D → Prop} : sp_Lorder [.lst false (raw.map ndD)] A B ↔ RawOk raw ∧ A (.lst true (natsD (orderOf (glOf raw) raw.length))) [.lst false (raw.map ndD)] := by
  constructor
  · rintro ⟨y, e, h, q⟩
    have := nds_inj (D.lst.inj (List.cons.inj e).1).2
    subst this
    exact ⟨h, q⟩
  · exact fun ⟨h, q⟩ => ⟨raw, rfl, h, q⟩
def sp_Lgraph : VSp := Fsp (fun a : List Nd => [.lst false (a.map ndD)]) RawOk fun a => .lst true ((graphOf a).map ndD)
theorem mono_Lgraph : Mono sp_Lgraph := Fsp.mono
theorem c_Lgraph {raw : List Nd} {A : D → List D → Prop} {B : Value → D → List D → Prop} : sp_Lgraph [.lst false (raw.map ndD)] A B ↔ RawOk raw ∧ A (.lst true ((graphOf raw).map ndD)) [.lst false (raw.map ndD)] := by
  constructor
  · rintro ⟨y, e, h, q⟩
    have := nds_inj (D.lst.inj (List.cons.inj e).1).2
    subst this
    exact ⟨h, q⟩
  · exact fun ⟨h, q⟩ => ⟨raw, rfl, h, q⟩
def sp_Lmenu : VSp := Psp (fun a : Int => [.int a]) (fun _ => True) fun _ r => ∃ M, r = .lst false (strsD M) ∧ MenuOk M
theorem mono_Lmenu : Mono sp_Lmenu := Psp.mono
theorem c_Lmenu {n : Int} {A : D → List D → Prop} {B : Value → D → List D → Prop} (q : ∀ M, MenuOk M → A (.lst false (strsD M)) [.int n]) : sp_Lmenu [.int n] A B := ⟨n, rfl, trivial, fun _ ⟨M, e, h⟩ => by subst e; exact q M h⟩
def sp_Lword : VSp := Fsp (fun a : Opd × List Cs => [opD a.1, .lst false (strsD a.2)]) (fun a => MenuOk a.2 ∧ ∀ t ∈ txtsO a.1, t ∈ four) fun a => opD (callO a.2 a.1)
theorem mono_Lword : Mono sp_Lword := Fsp.mono
theorem c_Lword {a : Opd} {M : List Cs} {A : D → List D → Prop} {B : Value → D → List D → Prop} (h : MenuOk M) (h2 : ∀ t ∈ txtsO a, t ∈ four) (q : A (opD (callO M a)) [opD a, .lst false (strsD M)]) : sp_Lword [opD a, .lst false (strsD M)] A B := ⟨(a, M), rfl, ⟨h, h2⟩, q⟩
def sp_Lcalled : VSp := Fsp (fun a : List Nd × List Cs => [.lst false (a.1.map ndD), .lst false (strsD a.2)]) (fun a => MenuOk a.2 ∧ (∀ x ∈ a.1, NdIn four x) ∧ a.1.length ≤ 1000) fun a => .lst true ((a.1.map (callN a.2)).map ndD)
theorem mono_Lcalled : Mono sp_Lcalled := Fsp.mono
theorem c_Lcalled {g : List Nd} {M : List Cs} {A : D → List D → Prop} {B : Value → D → List D → Prop} (h : MenuOk M ∧ (∀ x ∈ g, NdIn four x) ∧ g.length ≤ 1000) (q : A (.lst true ((g.map (callN M)).map ndD)) [.lst false (g.map ndD), .lst false (strsD M)]) : sp_Lcalled [.lst false (g.map ndD), .lst false (strsD M)] A B := ⟨(g, M), rfl, h, q⟩
def sp_Ldrawn : VSp := Psp (fun a : List Int => [scriptD a]) (fun a => a.length ≤ 63 ∧ ∀ z ∈ a, Builtin.Int.intBits z ≤ 1048576) fun _ r => ∃ (g : List Nd) (M : List Cs), r = .lst true (g.map ndD) ∧ GOk g ∧ g.length ≤ 40 ∧ NmG g M
theorem mono_Ldrawn : Mono sp_Ldrawn := Psp.mono
theorem c_Ldrawn {ns : List Int} {A : D → List D → Prop} {B : Value → D → List D → Prop} (h : ns.length ≤ 63 ∧ ∀ z ∈ ns, Builtin.Int.intBits z ≤ 1048576) (q : ∀ (g : List Nd) (M : List Cs), GOk g → g.length ≤ 40 → NmG g M → A (.lst true (g.map ndD)) [scriptD ns]) : sp_Ldrawn [scriptD ns] A B := ⟨ns, rfl, h, fun _ ⟨g, M, e, h1, h2, h3⟩ => by subst e; exact q g M h1 h2 h3⟩
def sp_Lwithout : VSp := Psp (fun a : List Nd × Nat => [.lst false (a.1.map ndD), .int (a.2 : Int)]) (fun a => GOk a.1 ∧ a.1.length < 10000) fun a r => ∃ xs : List Nat, r = .lst true (natsD xs) ∧ xs.length < 100000 ∧ ∀ k, k ∈ xs ↔ Rch (glOf a.1) a.2 k
theorem mono_Lwithout : Mono sp_Lwithout := Psp.mono
theorem c_Lwithout {g : List Nd} {o : Nat} {A : D → List D → Prop} {B : Value → D → List D → Prop} (h : GOk g ∧ g.length < 10000) (q : ∀ xs : List Nat, xs.length < 100000 → (∀ k, k ∈ xs ↔ Rch (glOf g) o k) → A (.lst true (natsD xs)) [.lst false (g.map ndD), .int (o : Int)]) : sp_Lwithout [.lst false (g.map ndD), .int (o : Int)] A B := ⟨(g, o), rfl, h, fun _ ⟨xs, e, h1, h2⟩ => by subst e; exact q xs h1 h2⟩
structure GvA where
  nm : List Cs
  S : List (List Int)
  V : Vst
  μ : Mks
  g : List Nd
def sp_Lgivers : VSp := Psp (fun a : GvA => [.lst false (tellD false a.μ a.V a.S a.nm a.g)]) (fun a => VerP a.nm a.S a.V ∧ a.g.length = a.S.length) fun a r => ∃ (J Z : Mks) (k1 : List (List Kc)) (j1 : List Nat) (k2 : List (List Kc)) (j2 : List Nat), r = .lst true [mksD true k1 j1, mksD true k2 j2] ∧ RepM J k1 j1 ∧ RepM Z k2 j2 ∧ GvM a.nm a.S a.g a.V a.μ J Z
theorem mono_Lgivers : Mono sp_Lgivers := Psp.mono
theorem c_Lgivers {nm : List Cs} {S : List (List Int)} {V : Vst} {μ : Mks} {g : List Nd} {A : D → List D → Prop} {B : Value → D → List D → Prop} (h : VerP nm S V ∧ g.length = S.length) (q : ∀ (J Z : Mks) (k1 : List (List Kc)) (j1 : List Nat) (k2 : List (List Kc)) (j2 : List Nat), RepM J k1 j1 → RepM Z k2 j2 → GvM nm S g V μ J Z → A (.lst true [mksD true k1 j1, mksD true k2 j2]) [.lst false (tellD false μ V S nm g)]) : sp_Lgivers [.lst false (tellD false μ V S nm g)] A B := ⟨⟨nm, S, V, μ, g⟩, rfl, h, fun _ ⟨J, Z, k1, j1, k2, j2, e, h1, h2, h3⟩ => by subst e; exact q J Z k1 j1 k2 j2 h1 h2 h3⟩
structure GoA where
  g : List Nd
  J : Mks
  Z : Mks
  k1 : List (List Kc)
  j1 : List Nat
  k2 : List (List Kc)
  j2 : List Nat
  W : List (List Nat)
  k : Nat
def GoA.two (a : GoA) : D := .lst false [mksD false a.k1 a.j1, mksD false a.k2 a.j2]
def rndD (W : List (List Nat)) : D := .lst false (W.map fun w => .lst false (natsD w))
def GoA.ok (a : GoA) : Prop := RepM a.J a.k1 a.j1 ∧ RepM a.Z a.k2 a.j2 ∧ RndOk a.g a.W
def PrtOk (a : GoA) (d : D) : Prop := (∃ i, d = .int i) ∨ (∃ s, d = .str s) ∨ ∃ t v, d = .tup [.str t, .int ((v : Nat) : Int)] ∧ OpGood a.g a.J a.Z t v a.k
def sp_Lgood_operand : VSp := Fsp (fun a : GoA × D => [a.2, .int (a.1.k : Int), a.1.two, rndD a.1.W]) (fun a => a.1.ok ∧ PrtOk a.1 a.2) fun _ => .bl true
theorem mono_Lgood_operand : Mono sp_Lgood_operand := Fsp.mono
theorem c_Lgood_operand {g : List Nd} {J Z : Mks} {k1 : List (List Kc)} {j1 : List Nat} {k2 : List (List Kc)} {j2 : List Nat} {W : List (List Nat)} {k : Nat} {d : D} {A : D → List D → Prop} {B : Value → D → List D → Prop} (h : RepM J k1 j1 ∧ RepM Z k2 j2 ∧ RndOk g W) (h2 : PrtOk ⟨g, J, Z, k1, j1, k2, j2, W, k⟩ d) (q : A (.bl true) [d, .int (k : Int), .lst false [mksD false k1 j1, mksD false k2 j2], rndD W]) : sp_Lgood_operand [d, .int (k : Int), .lst false [mksD false k1 j1, mksD false k2 j2], rndD W] A B := ⟨(⟨g, J, Z, k1, j1, k2, j2, W, k⟩, d), rfl, ⟨h, h2⟩, q⟩
structure GsA where
  a : GoA
  t : Cs
  s : Int
  v : Nat
def sp_Lgood_source : VSp := Fsp (fun a : GsA => [.str a.t, .int a.s, .int (a.v : Int), a.a.two, rndD a.a.W]) (fun a => a.a.ok ∧ ((a.s = -1 ∧ a.v = 0) ∨ (a.s = (a.a.k : Int) ∧ SrGood a.a.g a.a.J a.a.Z a.t a.v a.a.k))) fun _ => .bl true
theorem mono_Lgood_source : Mono sp_Lgood_source := Fsp.mono
theorem c_Lgood_source {g : List Nd} {J Z : Mks} {k1 : List (List Kc)} {j1 : List Nat} {k2 : List (List Kc)} {j2 : List Nat} {W : List (List Nat)} {t : Cs} {s : Int} {v : Nat} {A : D → List D → Prop} {B : Value → D → List D → Prop} (h : RepM J k1 j1 ∧ RepM Z k2 j2 ∧ RndOk g W) (h2 : (s = -1 ∧ v = 0) ∨ ∃ k : Nat, s = (k : Int) ∧ SrGood g J Z t v k) (q : A (.bl true) [.str t, .int s, .int (v : Int), .lst false [mksD false k1 j1, mksD false k2 j2], rndD W]) : sp_Lgood_source [.str t, .int s, .int (v : Int), .lst false [mksD false k1 j1, mksD false k2 j2], rndD W] A B := by
  rcases h2 with h2 | ⟨k, e, h2⟩
  · exact ⟨⟨⟨g, J, Z, k1, j1, k2, j2, W, 0⟩, t, s, v⟩, rfl, ⟨h, .inl h2⟩, q⟩
  · exact ⟨⟨⟨g, J, Z, k1, j1, k2, j2, W, k⟩, t, s, v⟩, rfl, ⟨h, .inr ⟨e, h2⟩⟩, q⟩
def sp_law : VSp := Fsp (fun a : List Int => [scriptD a]) (fun a => a.length ≤ 63 ∧ ∀ z ∈ a, Builtin.Int.intBits z ≤ 1048576) fun _ => .bl true
theorem mono_law : Mono sp_law := Fsp.mono
def t_Versions_version_from : VTS := vSeq (vIfS (vB (vOp sEq [none, none] (va2 (vVar 1) (vOp oNeg [none] (va1 (vC (.int 1))))))) (vRet (vC (.int 0))) (vSkip)) (vRet (vView (wOp sIx (w2 (wOp sIx (w2 (wFld 3 [98, 101, 104, 105, 110, 100] (wName 0)) (wName 1))) (wName 2)))))
def t_Versions_pass_by : VTS := vSeq (vAsg 3 (vOp sDict [none] (vaCons (vAt 0 (vpIx 0 (vpFd 0 3 [97, 104, 101, 97, 100] (vpName 0)) (vVar 1))) (vaNil)))) (vSeq (vIfS (vB (vOp sEq [none, none] (va2 (vOp sIx [none, none] (va2 (vVar 2) (vC (.int 0)))) (vC (.str [115, 117, 109]))))) (vSet 3 (vMeth 0 3 [110, 101, 119, 95, 111, 110, 101] sp_Versions_new_one [none] (vaCons (vOp sIx [none, none] (va2 (vVar 2) (vC (.int 1)))) (vaNil))) (vpName 3) (vOpQ sIx (va2 (vVar 2) (vC (.int 1))))) (vSkip)) (vDrop (vMut muAppend 0 (vpFd 0 3 [98, 101, 104, 105, 110, 100] (vpName 0)) (vaCons (vFrz 3) (vaNil)))))
def lb_Versions_enter0 : VTS := vSet 2 (vMeth 0 3 [110, 101, 119, 95, 111, 110, 101] sp_Versions_new_one [none] (vaCons (vVar 3) (vaNil))) (vpName 2) (vVar 3)
def lb_Versions_enter1 : VTS := vSet 2 (vC (.int 0)) (vpName 2) (vVar 3)
def t_Versions_enter : VTS := vIfS (vViewT (wOp oGt (w2 (wOp sLen (wCons (wOp sIx (w2 (wFld 3 [115, 111, 117, 114, 99, 101, 115] (wName 0)) (wName 1))) (wNil))) (wC (.int 1))))) (vSeq (vAsg 2 (vC (.dK true [] []))) (vSeq (vFor (viLst (vAt 0 (vpFd 0 3 [110, 97, 109, 101, 115] (vpName 0)))) (vName 3) (lb_Versions_enter0)) (vDrop (vMut muAppend 0 (vpFd 0 3 [97, 104, 101, 97, 100] (vpName 0)) (vaCons (vFrz 2) (vaNil)))))) (vIfS (vViewT (wOp sEq (w2 (wOp sIx (w2 (wFld 3 [115, 111, 117, 114, 99, 101, 115] (wName 0)) (wName 1))) (wLst (wCons (wOp oNeg (w1 (wC (.int 1)))) (wNil)))))) (vSeq (vAsg 2 (vC (.dK true [] []))) (vSeq (vFor (viLst (vAt 0 (vpFd 0 3 [110, 97, 109, 101, 115] (vpName 0)))) (vName 3) (lb_Versions_enter1)) (vDrop (vMut muAppend 0 (vpFd 0 3 [97, 104, 101, 97, 100] (vpName 0)) (vaCons (vFrz 2) (vaNil)))))) (vDrop (vMut muAppend 0 (vpFd 0 3 [97, 104, 101, 97, 100] (vpName 0)) (vaCons (vStill (vOpQ sDict (vaCons (vAt 0 (vpIx 0 (vpFd 0 3 [98, 101, 104, 105, 110, 100] (vpName 0)) (vView (wOp sIx (w2 (wOp sIx (w2 (wFld 3 [115, 111, 117, 114, 99, 101, 115] (wName 0)) (wName 1))) (wC (.int 0))))))) (vaNil)))) (vaNil)))))
def t_Versions_new_one : VTS := vSeq (vAugP (fun i j => i + j) 0 (vpFd 0 3 [103, 105, 118, 101, 110] (vpName 0)) (vVar 1) (vC (.int 1))) (vRet (vView (wOp sIx (w2 (wFld 3 [103, 105, 118, 101, 110] (wName 0)) (wName 1)))))
def lb_Versions_init0 : VTS := vSet 0 (vC (.int 0)) (vpFd 0 3 [103, 105, 118, 101, 110] (vpName 0)) (vVar 2)
def lb_Versions_init1 : VTS := vSeq (vDrop (vMeth 0 3 [101, 110, 116, 101, 114] sp_Versions_enter [none] (vaCons (vVar 3) (vaNil)))) (vDrop (vMeth 0 3 [112, 97, 115, 115, 95, 98, 121] sp_Versions_pass_by [none, none] (vaCons (vVar 3) (vaCons (vVar 4) (vaNil)))))
def t_Versions_init : VTS := vSeq (vFld 0 3 [110, 97, 109, 101, 115] (vStill (vCall (sp_names_of) [none] (vaCons (vVar 1) (vaNil))))) (vSeq (vFld 0 3 [115, 111, 117, 114, 99, 101, 115] (vStill (vCall (sp_sources_of) [none] (vaCons (vVar 1) (vaNil))))) (vSeq (vFld 0 3 [103, 105, 118, 101, 110] (vC (.dK true [] []))) (vSeq (vFor (viLst (vAt 0 (vpFd 0 3 [110, 97, 109, 101, 115] (vpName 0)))) (vName 2) (lb_Versions_init0)) (vSeq (vFld 0 3 [97, 104, 101, 97, 100] (vLst (vaNil))) (vSeq (vFld 0 3 [98, 101, 104, 105, 110, 100] (vLst (vaNil))) (vFor (viEnum (vaCons (vVar 1) (vaNil))) (vNames [3, 4]) (lb_Versions_init1)))))))
def t_ways : VTS := vSeq (vIfS (vB (vOp sEq [none, none] (va2 (vOp sIx [none, none] (va2 (vVar 0) (vC (.int 0)))) (vC (.str [115, 117, 109]))))) (vRet (vTup (vaCons (vOp sIx [none, none] (va2 (vVar 0) (vC (.int 5)))) (vaNil)))) (vSkip)) (vSeq (vIfS (vB (vOp sEq [none, none] (va2 (vOp sIx [none, none] (va2 (vVar 0) (vC (.int 0)))) (vC (.str [116, 101, 115, 116]))))) (vRet (vTup (vaCons (vOp sIx [none, none] (va2 (vVar 0) (vC (.int 4)))) (vaCons (vOp sIx [none, none] (va2 (vVar 0) (vC (.int 5)))) (vaNil))))) (vSkip)) (vRet (vTup (vaNil))))
def le_comings0 : VTE := vLst (vaNil)
def lb_comings0 : VTS := vDrop (vMut muAppend 1 (vpIx 1 (vpName 1) (vVar 4)) (vaCons (vVar 3) (vaNil)))
def lb_comings1 : VTS := vFor (viTup (vCall (sp_ways) [none] (vaCons (vVar 2) (vaNil)))) (vName 4) (lb_comings0)
def t_comings : VTS := vSeq (vAsg 1 (vLc [2] (viLst (vVar 0)) (vName 2) (vYes) (le_comings0))) (vSeq (vFor (viEnum (vaCons (vVar 0) (vaNil))) (vNames [3, 2]) (lb_comings1)) (vRet (vMov 1)))
def lb_names_of0 : VTS := vIfS (vAnd (vB (vOp sIsi [none, none] (vaCons (vVar 3) (vaCons (vC (.ty "str")) (vaNil))))) (vB (vOp (sIn true) [none, none] (va2 (vVar 3) (vTup (vaCons (vC (.str [43])) (vaCons (vC (.str [45])) (vaCons (vC (.str [47])) (vaCons (vC (.str [114, 101, 115, 116])) (vaCons (vC (.str [38])) (vaCons (vC (.str [94])) (vaCons (vC (.str [60])) (vaCons (vC (.str [61])) (vaNil)))))))))))))) (vSet 1 (vC (.bl true)) (vpName 1) (vVar 3)) (vSkip)
def lb_names_of1 : VTS := vFor (viTup (vSl (none) (vVar 2) (vPart (vC (.int 1))) (vPart (vC (.int 5))))) (vName 3) (lb_names_of0)
def t_names_of : VTS := vSeq (vAsg 1 (vC (.dK true [] []))) (vSeq (vFor (viLst (vVar 0)) (vName 2) (lb_names_of1)) (vRet (vOp sSortD [some 1] (vaLate 1 (vaNil)))))
def lb_sources_of0 : VTS := vDrop (vMutN muAppend 1 (vaCons (vStill (vOp sSortSetW [none] (va1 (vVar 2)))) (vaNil)))
def t_sources_of : VTS := vSeq (vAsg 1 (vLst (vaNil))) (vSeq (vFor (viLst (vStill (vCall (sp_comings) [none] (vaCons (vVar 0) (vaNil))))) (vName 2) (lb_sources_of0)) (vSeq (vSet 1 (vStill (vOp sAdd [none, none] (va2 (vLst (vaCons (vOp oNeg [none] (va1 (vC (.int 1)))) (vaNil))) (vAt 1 (vpIx 1 (vpName 1) (vC (.int 0))))))) (vpName 1) (vC (.int 0))) (vRet (vMov 1))))
def lb_found_same0 : VTS := vAsg 2 (vOp sIx [none, none] (va2 (vVar 0) (vTup (vaCons (vVar 1) (vaCons (vVar 2) (vaNil))))))
def t_found_same : VTS := vSeq (vWhile (vB (vOp (sIn false) [none, none] (va2 (vTup (vaCons (vVar 1) (vaCons (vVar 2) (vaNil)))) (vVar 0)))) (lb_found_same0)) (vRet (vVar 2))
def lb_joinings_spared0 : VTS := vSetN 7 (vC (.bl true)) (vLend (sp_found_same) (wCons (wName 1) (wCons (wName 5) (wCons (wMet 3 [118, 101, 114, 115, 105, 111, 110, 95, 102, 114, 111, 109] sp_Versions_version_from (wName 0) (wCons (wName 8) (wCons (wName 5) (wNil)))) (wNil)))))
def le_joinings_spared1 : VTE := vVar 10
def lt_joinings_spared1 : VTT := vB (vOp sNe [none, none] (va2 (vVar 10) (vVar 6)))
def lb_joinings_spared1 : VTS := vSeq (vAsg 6 (vOp sIx [none, none] (va2 (vOp sIx [none, none] (va2 (vFldS 3 [97, 104, 101, 97, 100] 0) (vVar 3))) (vVar 5)))) (vIfS (vAnd (vB (vOp oGt [none, none] (va2 (vOp sLen [none] (vaCons (vVar 4) (vaNil))) (vC (.int 1))))) (vViewT (wOp (sIn true) (w2 (wTup (wCons (wName 5) (wCons (wName 6) (wNil)))) (wName 1))))) (vSeq (vAsg 7 (vC (.dK true [] []))) (vSeq (vFor (viLst (vVar 4)) (vName 8) (lb_joinings_spared0)) (vSeq (vAsg 9 (vStill (vLcK 7 [10] (vName 10) (lt_joinings_spared1) (le_joinings_spared1)))) (vIfS (vB (vOp sEq [none, none] (va2 (vOp sLen [none] (vaCons (vVar 9) (vaNil))) (vC (.int 1))))) (vSeq (vSet 1 (vOp sIx [none, none] (va2 (vVar 9) (vC (.int 0)))) (vpName 1) (vTup (vaCons (vVar 5) (vaCons (vVar 6) (vaNil))))) (vAsg 2 (vC (.bl true)))) (vSkip))))) (vSkip))
def lb_joinings_spared2 : VTS := vFor (viLst (vFldS 3 [110, 97, 109, 101, 115] 0)) (vName 5) (lb_joinings_spared1)
def lb_joinings_spared3 : VTS := vSeq (vAsg 2 (vC (.bl false))) (vFor (viEnum (vaCons (vFldS 3 [115, 111, 117, 114, 99, 101, 115] 0) (vaNil))) (vNames [3, 4]) (lb_joinings_spared2))
def t_joinings_spared : VTS := vSeq (vAsg 1 (vC (.dT true [] []))) (vSeq (vAsg 2 (vC (.bl true))) (vSeq (vWhile (vB (vVar 2)) (lb_joinings_spared3)) (vRet (vMov 1))))
def lb_joinings_of0 : VTS := vDrop (vMutN muAppend 7 (vaCons (vTup (vaCons (vVar 8) (vaCons (vCall (sp_found_same) [none, none, none] (vaCons (vVar 1) (vaCons (vVar 5) (vaCons (vView (wMet 3 [118, 101, 114, 115, 105, 111, 110, 95, 102, 114, 111, 109] sp_Versions_version_from (wName 0) (wCons (wName 8) (wCons (wName 5) (wNil))))) (vaNil))))) (vaNil)))) (vaNil)))
def lb_joinings_of1 : VTS := vSeq (vAsg 6 (vOp sIx [none, none] (va2 (vOp sIx [none, none] (va2 (vFldS 3 [97, 104, 101, 97, 100] 0) (vVar 2))) (vVar 5)))) (vIfS (vAnd (vB (vOp oGt [none, none] (va2 (vOp sLen [none] (vaCons (vVar 4) (vaNil))) (vC (.int 1))))) (vB (vOp (sIn true) [none, none] (va2 (vTup (vaCons (vVar 5) (vaCons (vVar 6) (vaNil)))) (vVar 1))))) (vSeq (vAsg 7 (vLst (vaNil))) (vSeq (vFor (viLst (vVar 4)) (vName 8) (lb_joinings_of0)) (vDrop (vMutN muAppend 3 (vaCons (vTup (vaCons (vVar 5) (vaCons (vVar 6) (vaLate 7 (vaNil))))) (vaNil)))))) (vSkip))
def t_joinings_of : VTS := vSeq (vAsg 3 (vLst (vaNil))) (vSeq (vAsg 4 (vOp sIx [none, none] (va2 (vFldS 3 [115, 111, 117, 114, 99, 101, 115] 0) (vVar 2)))) (vSeq (vFor (viLst (vFldS 3 [110, 97, 109, 101, 115] 0)) (vName 5) (lb_joinings_of1)) (vRet (vMov 3))))
def t_operand_told : VTS := vSeq (vIfS (vB (vOp sIsi [none, none] (vaCons (vVar 3) (vaCons (vC (.ty "str")) (vaNil))))) (vRet (vTup (vaCons (vVar 3) (vaCons (vCall (sp_found_same) [none, none, none] (vaCons (vVar 1) (vaCons (vVar 3) (vaCons (vOp sIx [none, none] (va2 (vOp sIx [none, none] (va2 (vFldS 3 [97, 104, 101, 97, 100] 0) (vVar 2))) (vVar 3))) (vaNil))))) (vaNil))))) (vSkip)) (vRet (vVar 3))
def t_node_told : VTS := vSeq (vIfS (vB (vOp sEq [none, none] (va2 (vOp sIx [none, none] (va2 (vVar 3) (vC (.int 0)))) (vC (.str [115, 117, 109]))))) (vSeq (vAsg 4 (vCall (sp_operand_told) [none, none, none, none] (vaCons (vVar 0) (vaCons (vVar 1) (vaCons (vVar 2) (vaCons (vOp sIx [none, none] (va2 (vVar 3) (vC (.int 2)))) (vaNil))))))) (vSeq (vAsg 5 (vCall (sp_operand_told) [none, none, none, none] (vaCons (vVar 0) (vaCons (vVar 1) (vaCons (vVar 2) (vaCons (vOp sIx [none, none] (va2 (vVar 3) (vC (.int 4)))) (vaNil))))))) (vRet (vTup (vaCons (vC (.str [115, 117, 109])) (vaCons (vTup (vaCons (vOp sIx [none, none] (va2 (vVar 3) (vC (.int 1)))) (vaCons (vOp sIx [none, none] (va2 (vOp sIx [none, none] (va2 (vFldS 3 [98, 101, 104, 105, 110, 100] 0) (vVar 2))) (vOp sIx [none, none] (va2 (vVar 3) (vC (.int 1)))))) (vaNil)))) (vaCons (vVar 4) (vaCons (vOp sIx [none, none] (va2 (vVar 3) (vC (.int 3)))) (vaCons (vVar 5) (vaCons (vOp sIx [none, none] (va2 (vVar 3) (vC (.int 5)))) (vaNil))))))))))) (vSkip)) (vSeq (vIfS (vB (vOp sEq [none, none] (va2 (vOp sIx [none, none] (va2 (vVar 3) (vC (.int 0)))) (vC (.str [116, 101, 115, 116]))))) (vSeq (vAsg 4 (vCall (sp_operand_told) [none, none, none, none] (vaCons (vVar 0) (vaCons (vVar 1) (vaCons (vVar 2) (vaCons (vOp sIx [none, none] (va2 (vVar 3) (vC (.int 1)))) (vaNil))))))) (vRet (vTup (vaCons (vC (.str [116, 101, 115, 116])) (vaCons (vVar 4) (vaCons (vOp sIx [none, none] (va2 (vVar 3) (vC (.int 2)))) (vaCons (vCall (sp_operand_told) [none, none, none, none] (vaCons (vVar 0) (vaCons (vVar 1) (vaCons (vVar 2) (vaCons (vOp sIx [none, none] (va2 (vVar 3) (vC (.int 3)))) (vaNil)))))) (vaCons (vOp sIx [none, none] (va2 (vVar 3) (vC (.int 4)))) (vaCons (vOp sIx [none, none] (va2 (vVar 3) (vC (.int 5)))) (vaNil)))))))))) (vSkip)) (vRet (vVar 3)))
def lb_once0 : VTS := vDrop (vMutN muAppend 3 (vaCons (vTup (vaCons (vCall (sp_joinings_of) [none, none, none] (vaCons (vVar 1) (vaCons (vVar 2) (vaCons (vVar 4) (vaNil))))) (vaCons (vCall (sp_node_told) [none, none, none, none] (vaCons (vVar 1) (vaCons (vVar 2) (vaCons (vVar 4) (vaCons (vVar 5) (vaNil)))))) (vaNil)))) (vaNil)))
def t_once : VTS := vSeq (vAsg 1 (vStill (vNew 3 sp_Versions_init [none] (vaCons (vVar 0) (vaNil))))) (vSeq (vAsg 2 (vStill (vCall (sp_joinings_spared) [none] (vaCons (vVar 1) (vaNil))))) (vSeq (vAsg 3 (vLst (vaNil))) (vSeq (vFor (viEnum (vaCons (vVar 0) (vaNil))) (vNames [4, 5]) (lb_once0)) (vRet (vMov 3)))))
def t_Lcell : VTS := vSeq (vIfS (vB (vOp oLt [none, none] (va2 (vVar 1) (vOp sLen [none] (vaCons (vVar 0) (vaNil)))))) (vRet (vOp sIx [none, none] (va2 (vVar 0) (vVar 1)))) (vSkip)) (vRet (vC (.int 0)))
def t_Lmixed : VTS := vSeq (vAsg 2 (vOp oMod [none, none] (va2 (vOp sAdd [none, none] (va2 (vOp sAdd [none, none] (va2 (vOp sMul [none, none] (va2 (vOp oMod [none, none] (va2 (vVar 0) (vC (.int 2147483647)))) (vC (.int 48271)))) (vOp sMul [none, none] (va2 (vOp sMul [none, none] (va2 (vC (.int 7919)) (vVar 1))) (vVar 1))))) (vC (.int 104729)))) (vC (.int 2147483647))))) (vRet (vOp oMod [none, none] (va2 (vOp sMul [none, none] (va2 (vVar 2) (vVar 2))) (vC (.int 2147483629)))))
def t_Lgreat : VTS := vRet (vOp oSub [none, none] (va2 (vOp oMod [none, none] (va2 (vOp sMul [none, none] (va2 (vVar 0) (vOp oPow [none, none] (va2 (vC (.int 982451653)) (vC (.int 3)))))) (vOp sAdd [none, none] (va2 (vOp sMul [none, none] (va2 (vC (.int 2)) (vOp oPow [none, none] (va2 (vC (.int 10)) (vC (.int 18)))))) (vC (.int 1)))))) (vOp oPow [none, none] (va2 (vC (.int 10)) (vC (.int 18))))))
def t_Lfar : VTS := vSeq (vIfS (vB (vOp sEq [none, none] (va2 (vVar 3) (vC (.int 1))))) (vSeq (vAsg 4 (vOp sAdd [none, none] (va2 (vOp sAdd [none, none] (va2 (vVar 1) (vC (.int 1)))) (vOp oMod [none, none] (va2 (vOp oDiv [none, none] (va2 (vVar 0) (vC (.int 32768)))) (vOp oSub [none, none] (va2 (vVar 2) (vVar 1)))))))) (vSeq (vIfS (vB (vOp oLt [none, none] (va2 (vVar 4) (vVar 2)))) (vRet (vVar 4)) (vSkip)) (vRet (vOp sIx [none, none] (va2 (vLst (vaCons (vC (.int 0)) (vaCons (vVar 1) (vaNil)))) (vOp oMod [none, none] (va2 (vOp oDiv [none, none] (va2 (vVar 0) (vC (.int 64)))) (vC (.int 2))))))))) (vSkip)) (vSeq (vIfS (vAnd (vB (vOp sEq [none, none] (va2 (vVar 3) (vC (.int 2))))) (vB (vOp sEq [none, none] (va2 (vOp oMod [none, none] (va2 (vOp oDiv [none, none] (va2 (vVar 0) (vC (.int 64)))) (vC (.int 2)))) (vC (.int 0)))))) (vRet (vOp sMin [none, none] (vaCons (vOp sAdd [none, none] (va2 (vOp sAdd [none, none] (va2 (vVar 1) (vC (.int 1)))) (vOp oMod [none, none] (va2 (vOp oDiv [none, none] (va2 (vVar 0) (vC (.int 128)))) (vC (.int 3)))))) (vaCons (vOp oSub [none, none] (va2 (vVar 2) (vC (.int 1)))) (vaNil))))) (vSkip)) (vSeq (vIfS (vB (vOp sEq [none, none] (va2 (vVar 3) (vC (.int 2))))) (vRet (vOp oSub [none, none] (va2 (vVar 1) (vOp oMod [none, none] (va2 (vVar 1) (vOp sIx [none, none] (va2 (vLst (vaCons (vC (.int 1)) (vaCons (vC (.int 2)) (vaCons (vC (.int 4)) (vaCons (vC (.int 8)) (vaNil)))))) (vOp oMod [none, none] (va2 (vOp oDiv [none, none] (va2 (vVar 0) (vC (.int 128)))) (vC (.int 4))))))))))) (vSkip)) (vRet (vOp oMod [none, none] (va2 (vOp oDiv [none, none] (va2 (vVar 0) (vC (.int 32768)))) (vVar 2))))))
def t_Lnode : VTS := vSeq (vAsg 4 (vCall (sp_Lmixed) [none, none] (vaCons (vVar 0) (vaCons (vVar 1) (vaNil))))) (vSeq (vAsg 5 (vStill (vLst (vaCons (vC (.str [120])) (vaCons (vC (.str [121])) (vaCons (vC (.str [122, 49])) (vaCons (vC (.str [122])) (vaNil)))))))) (vSeq (vAsg 6 (vOp sIx [none, none] (va2 (vLst (vaCons (vOp sIx [none, none] (va2 (vVar 5) (vOp oMod [none, none] (va2 (vOp oDiv [none, none] (va2 (vVar 4) (vC (.int 64)))) (vC (.int 4)))))) (vaCons (vOp oSub [none, none] (va2 (vOp oMod [none, none] (va2 (vOp oDiv [none, none] (va2 (vVar 4) (vC (.int 64)))) (vC (.int 9)))) (vC (.int 4)))) (vaNil)))) (vOp oDiv [none, none] (va2 (vOp oMod [none, none] (va2 (vOp oDiv [none, none] (va2 (vVar 4) (vC (.int 512)))) (vC (.int 4)))) (vC (.int 3))))))) (vSeq (vAsg 7 (vOp sIx [none, none] (va2 (vLst (vaCons (vOp sIx [none, none] (va2 (vVar 5) (vOp oMod [none, none] (va2 (vOp oDiv [none, none] (va2 (vVar 4) (vC (.int 2048)))) (vC (.int 4)))))) (vaCons (vCall (sp_Lgreat) [none] (vaCons (vOp sAdd [none, none] (va2 (vVar 0) (vVar 4))) (vaNil))) (vaNil)))) (vOp oDiv [none, none] (va2 (vOp oMod [none, none] (va2 (vOp oDiv [none, none] (va2 (vVar 4) (vC (.int 8192)))) (vC (.int 4)))) (vC (.int 3))))))) (vSeq (vAsg 8 (vCall (sp_Lfar) [none, none, none, none] (vaCons (vVar 4) (vaCons (vVar 1) (vaCons (vVar 2) (vaCons (vVar 3) (vaNil))))))) (vSeq (vAsg 9 (vOp sMin [none, none] (vaCons (vOp sAdd [none, none] (va2 (vVar 1) (vC (.int 1)))) (vaCons (vOp oSub [none, none] (va2 (vVar 2) (vC (.int 1)))) (vaNil))))) (vSeq (vIfS (vB (vOp oLt [none, none] (va2 (vOp oMod [none, none] (va2 (vVar 4) (vC (.int 32)))) (vC (.int 13))))) (vSeq (vAsg 10 (vOp sIx [none, none] (va2 (vLst (vaCons (vC (.str [43])) (vaCons (vC (.str [45])) (vaCons (vC (.str [47])) (vaCons (vC (.str [114, 101, 115, 116])) (vaCons (vC (.str [38])) (vaCons (vC (.str [94])) (vaNil)))))))) (vOp oMod [none, none] (va2 (vOp oDiv [none, none] (va2 (vVar 4) (vC (.int 67)))) (vC (.int 6))))))) (vRet (vTup (vaCons (vC (.str [115, 117, 109])) (vaCons (vOp sIx [none, none] (va2 (vVar 5) (vOp oMod [none, none] (va2 (vOp oDiv [none, none] (va2 (vVar 4) (vC (.int 407)))) (vC (.int 4)))))) (vaCons (vVar 6) (vaCons (vVar 10) (vaCons (vVar 7) (vaCons (vOp sIx [none, none] (va2 (vLst (vaCons (vVar 9) (vaCons (vVar 9) (vaCons (vVar 9) (vaCons (vVar 8) (vaNil)))))) (vOp oMod [none, none] (va2 (vOp oDiv [none, none] (va2 (vVar 4) (vC (.int 32)))) (vC (.int 4)))))) (vaNil)))))))))) (vSkip)) (vSeq (vIfS (vB (vOp oLt [none, none] (va2 (vOp oMod [none, none] (va2 (vVar 4) (vC (.int 32)))) (vC (.int 30))))) (vSeq (vAsg 11 (vOp sIx [none, none] (va2 (vLst (vaCons (vVar 9) (vaCons (vVar 9) (vaCons (vVar 9) (vaCons (vCall (sp_Lfar) [none, none, none, none] (vaCons (vOp oMod [none, none] (va2 (vOp sMul [none, none] (va2 (vVar 4) (vC (.int 48271)))) (vC (.int 2147483629)))) (vaCons (vVar 1) (vaCons (vVar 2) (vaCons (vVar 3) (vaNil)))))) (vaNil)))))) (vOp oMod [none, none] (va2 (vOp oDiv [none, none] (va2 (vVar 4) (vC (.int 32)))) (vC (.int 4))))))) (vRet (vTup (vaCons (vC (.str [116, 101, 115, 116])) (vaCons (vVar 6) (vaCons (vOp sIx [none, none] (va2 (vLst (vaCons (vC (.str [60])) (vaCons (vC (.str [61])) (vaNil)))) (vOp oMod [none, none] (va2 (vOp oDiv [none, none] (va2 (vVar 4) (vC (.int 131)))) (vC (.int 2)))))) (vaCons (vVar 7) (vaCons (vVar 8) (vaCons (vVar 11) (vaNil)))))))))) (vSkip)) (vRet (vOp sIx [none, none] (va2 (vLst (vaCons (vTup (vaCons (vC (.str [101, 110, 100])) (vaNil))) (vaCons (vTup (vaCons (vC (.str [115, 112, 105, 110])) (vaNil))) (vaNil)))) (vOp oMod [none, none] (va2 (vVar 4) (vC (.int 2))))))))))))))
def t_Lgoals : VTS := vSeq (vIfS (vB (vOp sEq [none, none] (va2 (vOp sIx [none, none] (va2 (vVar 0) (vC (.int 0)))) (vC (.str [115, 117, 109]))))) (vRet (vLst (vaCons (vOp sIx [none, none] (va2 (vVar 0) (vC (.int 5)))) (vaNil)))) (vSkip)) (vSeq (vIfS (vB (vOp sEq [none, none] (va2 (vOp sIx [none, none] (va2 (vVar 0) (vC (.int 0)))) (vC (.str [116, 101, 115, 116]))))) (vRet (vLst (vaCons (vOp sIx [none, none] (va2 (vVar 0) (vC (.int 5)))) (vaCons (vOp sIx [none, none] (va2 (vVar 0) (vC (.int 4)))) (vaNil))))) (vSkip)) (vRet (vLst (vaNil))))
def lb_Lorder0 : VTS := vSeq (vAsgT (vMut muPop 2 (vpName 2) vaNil) (vNames [4, 5])) (vSeq (vAsg 6 (vStill (vCall (sp_Lgoals) [none] (vaCons (vOp sIx [none, none] (va2 (vVar 0) (vVar 4))) (vaNil))))) (vIfS (vB (vOp sEq [none, none] (va2 (vVar 5) (vOp sLen [none] (vaCons (vVar 6) (vaNil)))))) (vDrop (vMutN muAppend 3 (vaCons (vVar 4) (vaNil)))) (vSeq (vDrop (vMutN muAppend 2 (vaCons (vTup (vaCons (vVar 4) (vaCons (vOp sAdd [none, none] (va2 (vVar 5) (vC (.int 1)))) (vaNil)))) (vaNil)))) (vIfS (vViewT (wOp (sIn true) (w2 (wOp sIx (w2 (wName 6) (wName 5))) (wName 1)))) (vSeq (vDrop (vMutN muAppend 1 (vaCons (vOp sIx [none, none] (va2 (vVar 6) (vVar 5))) (vaNil)))) (vDrop (vMutN muAppend 2 (vaCons (vTup (vaCons (vOp sIx [none, none] (va2 (vVar 6) (vVar 5))) (vaCons (vC (.int 0)) (vaNil)))) (vaNil))))) (vSkip)))))
def t_Lorder : VTS := vSeq (vAsg 1 (vLst (vaCons (vC (.int 0)) (vaNil)))) (vSeq (vAsg 2 (vLst (vaCons (vTup (vaCons (vC (.int 0)) (vaCons (vC (.int 0)) (vaNil)))) (vaNil)))) (vSeq (vAsg 3 (vLst (vaNil))) (vSeq (vWhile (vViewT (wOp sNe (w2 (wName 2) (wLst (wNil))))) (lb_Lorder0)) (vRet (vOp sRev [some 3] (va1 (vMov 3)))))))
def lb_Lgraph0 : VTS := vSeq (vAsg 4 (vOp sIx [none, none] (va2 (vVar 0) (vVar 3)))) (vSeq (vIfS (vB (vOp sEq [none, none] (va2 (vOp sIx [none, none] (va2 (vVar 4) (vC (.int 0)))) (vC (.str [115, 117, 109]))))) (vAsg 4 (vStill (vOp sAdd [none, none] (va2 (vSl (none) (vVar 4) (vNoPart) (vPart (vC (.int 5)))) (vTup (vaCons (vView (wMeth "list" sIndex (wName 1) (wCons (wOp sIx (w2 (wName 4) (wC (.int 5)))) (wNil)))) (vaNil))))))) (vSkip)) (vSeq (vIfS (vB (vOp sEq [none, none] (va2 (vOp sIx [none, none] (va2 (vVar 4) (vC (.int 0)))) (vC (.str [116, 101, 115, 116]))))) (vAsg 4 (vStill (vOp sAdd [none, none] (va2 (vSl (none) (vVar 4) (vNoPart) (vPart (vC (.int 4)))) (vTup (vaCons (vView (wMeth "list" sIndex (wName 1) (wCons (wOp sIx (w2 (wName 4) (wC (.int 4)))) (wNil)))) (vaCons (vView (wMeth "list" sIndex (wName 1) (wCons (wOp sIx (w2 (wName 4) (wC (.int 5)))) (wNil)))) (vaNil)))))))) (vSkip)) (vDrop (vMutN muAppend 2 (vaCons (vVar 4) (vaNil))))))
def t_Lgraph : VTS := vSeq (vAsg 1 (vStill (vCall (sp_Lorder) [none] (vaCons (vVar 0) (vaNil))))) (vSeq (vAsg 2 (vLst (vaNil))) (vSeq (vFor (viLst (vVar 1)) (vName 3) (lb_Lgraph0)) (vRet (vMov 2))))
def t_Lmenu : VTS := vSeq (vAsg 1 (vStill (vLst (vaCons (vLst (vaCons (vC (.str [120])) (vaCons (vC (.str [121])) (vaCons (vC (.str [122, 49])) (vaCons (vC (.str [122])) (vaNil)))))) (vaCons (vLst (vaCons (vC (.str [115, 117, 109])) (vaCons (vC (.str [116, 101, 115, 116])) (vaCons (vC (.str [115, 112, 105, 110])) (vaCons (vC (.str [119, 97, 121, 48, 48])) (vaNil)))))) (vaCons (vLst (vaCons (vC (.str [119, 97, 121, 48])) (vaCons (vC (.str [121])) (vaCons (vC (.str [119, 97, 121, 50])) (vaCons (vC (.str [119, 97, 121])) (vaNil)))))) (vaNil))))))) (vSeq (vAsg 1 (vStill (vAddL (vVar 1) (vLst (vaCons (vLst (vaCons (vC (.str [119, 97, 121, 49])) (vaCons (vC (.str [99, 104, 111, 105, 99, 101])) (vaCons (vC (.str [119])) (vaCons (vC (.str [119, 97, 121, 51])) (vaNil)))))) (vaCons (vLst (vaCons (vC (.str [99, 111, 117, 110, 116, 101, 114, 49])) (vaCons (vC (.str [99, 111, 117, 110, 116, 101, 114, 50])) (vaCons (vC (.str [98, 111, 117, 110, 116, 101, 114, 49])) (vaCons (vC (.str [99, 111, 117, 110, 116, 101, 114])) (vaNil)))))) (vaNil))))))) (vRet (vOp sIx [none, none] (va2 (vVar 1) (vOp oMod [none, none] (va2 (vVar 0) (vC (.int 5))))))))
def t_Lword : VTS := vSeq (vIfS (vB (vOp sIsi [none, none] (vaCons (vVar 0) (vaCons (vC (.ty "str")) (vaNil))))) (vRet (vOp sIx [none, none] (va2 (vVar 1) (vView (wMeth "list" sIndex (wLst (wCons (wC (.str [120])) (wCons (wC (.str [121])) (wCons (wC (.str [122, 49])) (wCons (wC (.str [122])) (wNil)))))) (wCons (wName 0) (wNil))))))) (vSkip)) (vRet (vVar 0))
def lb_Lcalled0 : VTS := vSeq (vIfS (vB (vOp sEq [none, none] (va2 (vOp sIx [none, none] (va2 (vVar 3) (vC (.int 0)))) (vC (.str [115, 117, 109]))))) (vSeq (vAsg 4 (vCall (sp_Lword) [none, none] (vaCons (vOp sIx [none, none] (va2 (vVar 3) (vC (.int 2)))) (vaCons (vVar 1) (vaNil))))) (vSeq (vAsg 5 (vCall (sp_Lword) [none, none] (vaCons (vOp sIx [none, none] (va2 (vVar 3) (vC (.int 4)))) (vaCons (vVar 1) (vaNil))))) (vAsg 3 (vTup (vaCons (vC (.str [115, 117, 109])) (vaCons (vCall (sp_Lword) [none, none] (vaCons (vOp sIx [none, none] (va2 (vVar 3) (vC (.int 1)))) (vaCons (vVar 1) (vaNil)))) (vaCons (vVar 4) (vaCons (vOp sIx [none, none] (va2 (vVar 3) (vC (.int 3)))) (vaCons (vVar 5) (vaCons (vOp sIx [none, none] (va2 (vVar 3) (vC (.int 5)))) (vaNil))))))))))) (vIfS (vB (vOp sEq [none, none] (va2 (vOp sIx [none, none] (va2 (vVar 3) (vC (.int 0)))) (vC (.str [116, 101, 115, 116]))))) (vAsg 3 (vTup (vaCons (vC (.str [116, 101, 115, 116])) (vaCons (vCall (sp_Lword) [none, none] (vaCons (vOp sIx [none, none] (va2 (vVar 3) (vC (.int 1)))) (vaCons (vVar 1) (vaNil)))) (vaCons (vOp sIx [none, none] (va2 (vVar 3) (vC (.int 2)))) (vaCons (vCall (sp_Lword) [none, none] (vaCons (vOp sIx [none, none] (va2 (vVar 3) (vC (.int 3)))) (vaCons (vVar 1) (vaNil)))) (vaCons (vOp sIx [none, none] (va2 (vVar 3) (vC (.int 4)))) (vaCons (vOp sIx [none, none] (va2 (vVar 3) (vC (.int 5)))) (vaNil))))))))) (vSkip))) (vDrop (vMutN muAppend 2 (vaCons (vVar 3) (vaNil))))
def t_Lcalled : VTS := vSeq (vAsg 2 (vLst (vaNil))) (vSeq (vFor (viLst (vVar 0)) (vName 3) (lb_Lcalled0)) (vRet (vMov 2)))
def le_Ldrawn0 : VTE := vCall (sp_Lnode) [none, none, none, none] (vaCons (vCall (sp_Lcell) [none, none] (vaCons (vVar 0) (vaCons (vOp sAdd [none, none] (va2 (vC (.int 1)) (vVar 4))) (vaNil)))) (vaCons (vVar 4) (vaCons (vVar 2) (vaCons (vOp oMod [none, none] (va2 (vVar 1) (vC (.int 3)))) (vaNil)))))
def t_Ldrawn : VTS := vSeq (vAsg 1 (vCall (sp_Lmixed) [none, none] (vaCons (vCall (sp_Lcell) [none, none] (vaCons (vVar 0) (vaCons (vC (.int 0)) (vaNil)))) (vaCons (vC (.int 77)) (vaNil))))) (vSeq (vAsg 2 (vOp sMax [none, none] (vaCons (vOp sAdd [none, none] (va2 (vC (.int 1)) (vOp oMod [none, none] (va2 (vOp oDiv [none, none] (va2 (vVar 1) (vC (.int 6)))) (vC (.int 12)))))) (vaCons (vOp sMin [none, none] (vaCons (vOp oSub [none, none] (va2 (vOp sLen [none] (vaCons (vVar 0) (vaNil))) (vC (.int 1)))) (vaCons (vC (.int 14)) (vaNil)))) (vaNil))))) (vSeq (vAsg 3 (vStill (vLc [4] (viR1 (vaCons (vVar 2) (vaNil))) (vName 4) (vYes) (le_Ldrawn0)))) (vRet (vCall (sp_Lcalled) [none, none] (vaCons (vStill (vCall (sp_Lgraph) [none] (vaCons (vVar 3) (vaNil)))) (vaCons (vStill (vCall (sp_Lmenu) [none] (vaCons (vOp oDiv [none, none] (va2 (vVar 1) (vC (.int 3)))) (vaNil)))) (vaNil)))))))
def lb_Lwithout0 : VTS := vIfS (vAnd (vB (vOp sNe [none, none] (va2 (vVar 5) (vVar 1)))) (vViewT (wOp (sIn true) (w2 (wName 5) (wName 2))))) (vSeq (vDrop (vMutN muAppend 2 (vaCons (vVar 5) (vaNil)))) (vDrop (vMutN muAppend 3 (vaCons (vVar 5) (vaNil))))) (vSkip)
def lb_Lwithout1 : VTS := vSeq (vAsg 4 (vMut muPop 3 (vpName 3) vaNil)) (vFor (viLst (vStill (vCall (sp_Lgoals) [none] (vaCons (vOp sIx [none, none] (va2 (vVar 0) (vVar 4))) (vaNil))))) (vName 5) (lb_Lwithout0))
def t_Lwithout : VTS := vSeq (vAsg 2 (vLst (vaCons (vC (.int 0)) (vaNil)))) (vSeq (vIfS (vB (vOp sEq [none, none] (va2 (vVar 1) (vC (.int 0))))) (vAsg 2 (vLst (vaNil))) (vSkip)) (vSeq (vAsg 3 (vOp sList [some 2] (vaLate 2 (vaNil)))) (vSeq (vWhile (vViewT (wOp sNe (w2 (wName 3) (wLst (wNil))))) (lb_Lwithout1)) (vRet (vMov 2)))))
def lb_Lgivers0 : VTS := vSet 1 (vVar 3) (vpName 1) (vSlQ (vVar 6) none (some 2))
def lb_Lgivers1 : VTS := vSeq (vAsgT (vOp sIx [none, none] (va2 (vVar 0) (vVar 3))) (vNames [4, 5])) (vSeq (vFor (viLst (vVar 4)) (vName 6) (lb_Lgivers0)) (vIfS (vB (vOp sEq [none, none] (va2 (vOp sIx [none, none] (va2 (vVar 5) (vC (.int 0)))) (vC (.str [115, 117, 109]))))) (vSet 2 (vVar 3) (vpName 2) (vOpQ sIx (va2 (vVar 5) (vC (.int 1))))) (vSkip)))
def t_Lgivers : VTS := vSeq (vAsg 1 (vC (.dT true [] []))) (vSeq (vAsg 2 (vC (.dT true [] []))) (vSeq (vFor (viR1 (vaCons (vOp sLen [none] (vaCons (vVar 0) (vaNil))) (vaNil))) (vName 3) (lb_Lgivers1)) (vRet (vLst (vaLate 1 (vaLate 2 (vaNil)))))))
def t_Lgood_operand : VTS := vSeq (vIfS (vOr (vNot (vB (vOp sIsi [none, none] (vaCons (vVar 0) (vaCons (vC (.ty "tuple")) (vaNil)))))) (vB (vOp sEq [none, none] (va2 (vOp sIx [none, none] (va2 (vVar 0) (vC (.int 1)))) (vC (.int 0)))))) (vRet (vC (.bl true))) (vSkip)) (vSeq (vIfS (vB (vOp (sIn false) [none, none] (va2 (vVar 0) (vOp sIx [none, none] (va2 (vVar 2) (vC (.int 0))))))) (vRet (vOrV (vOp sEq [none, none] (va2 (vOp sIx [none, none] (va2 (vOp sIx [none, none] (va2 (vVar 2) (vC (.int 0)))) (vVar 0))) (vVar 1))) (vOp (sIn true) [none, none] (va2 (vVar 1) (vOp sIx [none, none] (va2 (vVar 3) (vOp sIx [none, none] (va2 (vOp sIx [none, none] (va2 (vVar 2) (vC (.int 0)))) (vVar 0))))))))) (vSkip)) (vRet (vAndV (vOp (sIn false) [none, none] (va2 (vVar 0) (vOp sIx [none, none] (va2 (vVar 2) (vC (.int 1)))))) (vAndV (vOp sNe [none, none] (va2 (vOp sIx [none, none] (va2 (vOp sIx [none, none] (va2 (vVar 2) (vC (.int 1)))) (vVar 0))) (vVar 1))) (vOp (sIn true) [none, none] (va2 (vVar 1) (vOp sIx [none, none] (va2 (vVar 3) (vOp sIx [none, none] (va2 (vOp sIx [none, none] (va2 (vVar 2) (vC (.int 1)))) (vVar 0)))))))))))
def lb_Lgood_source0 : VTS := vIfS (vB (vOp (sIn false) [none, none] (va2 (vTup (vaCons (vVar 0) (vaCons (vVar 2) (vaNil)))) (vVar 5)))) (vSeq (vAsg 6 (vOp sIx [none, none] (va2 (vVar 5) (vTup (vaCons (vVar 0) (vaCons (vVar 2) (vaNil))))))) (vRet (vOrV (vOp sEq [none, none] (va2 (vVar 6) (vVar 1))) (vOp (sIn true) [none, none] (va2 (vVar 1) (vOp sIx [none, none] (va2 (vVar 4) (vVar 6)))))))) (vSkip)
def t_Lgood_source : VTS := vSeq (vIfS (vOr (vB (vOp sEq [none, none] (va2 (vVar 1) (vOp oNeg [none] (va1 (vC (.int 1))))))) (vB (vOp sEq [none, none] (va2 (vVar 2) (vC (.int 0)))))) (vRet (vOp sEq [none, none] (va2 (vVar 2) (vC (.int 0))))) (vSkip)) (vSeq (vFor (viLst (vVar 3)) (vName 5) (lb_Lgood_source0)) (vRet (vC (.bl false))))
def le_law0 : VTE := vCall (sp_Lwithout) [none, none] (vaCons (vVar 1) (vaCons (vVar 4) (vaNil)))
def lb_law0 : VTS := vIfS (vNot (vB (vCall (sp_Lgood_operand) [none, none, none, none] (vaCons (vVar 10) (vaCons (vVar 6) (vaCons (vVar 5) (vaCons (vVar 3) (vaNil)))))))) (vRet (vC (.bl false))) (vSkip)
def lb_law1 : VTS := vIfS (vNot (vB (vCall (sp_Lgood_source) [none, none, none, none, none] (vaCons (vVar 11) (vaCons (vVar 14) (vaCons (vVar 15) (vaCons (vVar 5) (vaCons (vVar 3) (vaNil))))))))) (vRet (vC (.bl false))) (vSkip)
def lb_law2 : VTS := vFor (viLst (vVar 13)) (vNames [14, 15]) (lb_law1)
def lb_law3 : VTS := vSeq (vAsgT (vOp sIx [none, none] (va2 (vVar 2) (vVar 6))) (vNames [7, 8])) (vSeq (vAsg 9 (vOp sAdd [none, none] (va2 (vC (.int 1)) (vOp sInt [none] (vaCons (vOp sEq [none, none] (va2 (vOp sIx [none, none] (va2 (vVar 8) (vC (.int 0)))) (vC (.str [115, 117, 109])))) (vaNil)))))) (vSeq (vFor (viTup (vSl (none) (vVar 8) (vPart (vVar 9)) (vNoPart))) (vName 10) (lb_law0)) (vFor (viLst (vVar 7)) (vNames [11, 12, 13]) (lb_law2))))
def t_law : VTS := vSeq (vAsg 1 (vStill (vCall (sp_Ldrawn) [none] (vaCons (vVar 0) (vaNil))))) (vSeq (vAsg 2 (vStill (vCall (sp_once) [none] (vaCons (vStill (vOp sList [none] (vaCons (vVar 1) (vaNil)))) (vaNil))))) (vSeq (vIfS (vB (vOp sNe [none, none] (va2 (vOp sLen [none] (vaCons (vVar 2) (vaNil))) (vOp sLen [none] (vaCons (vVar 1) (vaNil)))))) (vRet (vC (.bl false))) (vSkip)) (vSeq (vAsg 3 (vStill (vLc [4] (viR1 (vaCons (vOp sLen [none] (vaCons (vVar 1) (vaNil))) (vaNil))) (vName 4) (vYes) (le_law0)))) (vSeq (vAsg 5 (vStill (vCall (sp_Lgivers) [none] (vaCons (vVar 2) (vaNil))))) (vSeq (vFor (viR1 (vaCons (vOp sLen [none] (vaCons (vVar 1) (vaNil))) (vaNil))) (vName 6) (lb_law3)) (vRet (vC (.bl true))))))))
end Pk82
namespace Pk82
open PySem PySem.Spec PyProof.Rows L2 VL
local macro_rules
  | `(tactic| simp! only [$ls,*] $[$loc:location]?) => `(tactic| simp (maxSteps := 4000000) only [startE, List.map_cons, List.map_nil, List.length_cons, List.length_nil, List.replicate, List.cons_append, List.nil_append, Nat.reduceAdd, Nat.reduceSub, Nat.zero_add,
  vSeq, vIfS, vRet, vRetN, vAsg, vAsgT, vName, vVar, vMov, vFrz, vC, va1, va2, vaCons, vaNil, vaLate, vOp, vOpQ, vB, vAnd, vOr, vNot, vAndV, vOrV, vNotV, vIf, vTup, vLst, vStill, vSkip, vDrop, vBrk, vCnt, vCall, vFor, viR1, viR2, viLst, viTup, viStr, viEnum, viZip, viRev, vSl, vNoPart, vPart, vDGet2, vM1, vPeek, vAddL, vSetd, vLcO, vForZO, vSet, vAt, vpName, vpIx, vMutN, vMut,
  restore, List.getElem?_cons_zero, List.getElem?_cons_succ, Option.some.injEq, exists_eq_left', isFz, isFzL, frz, frzL, List.set_cons_zero, List.set_cons_succ, e_sI2, e_sI2c, e_neg, e_addI, e_addS, e_addT, e_addL, e_mulI, e_divmod, e_eq, e_ne, eqOk_i, eqOk_s, eqOk_b, eqOk_si, eqOk_is, deq_i, deq_s, deq_b, deq_si, deq_is,
  e_isN, e_notN, e_isi, e_lenS, e_lenL, e_lenT, e_lenK, e_lenDT, e_ix, ixD_l, ixD_t, e_in, e_min, e_max, e_list, e_tuple, e_dict, e_rev, e_dget2, e_eqD, e_slS, e_slL, e_slT, isDct_K, isDct_T, tyNm, D.bl.injEq, D.int.injEq, D.str.injEq, true_and, and_true, decide_eq_true_eq, finalL, Nat.reduceLT, Nat.reduceLeDiff, if_true, Bool.and_self, and_self, pmod_lit, pdiv_lit, cml_lit_r, cml_lit_l, cpow_lit, cdv_lit, Int.reduceNe, Int.reduceEq, Int.reduceToNat, Int.reducePow, Int.reduceMul, Int.reduceAdd, Int.reduceSub, Int.reduceNeg, Int.reduceLT, Int.reduceLE, Nat.reduceLT, Nat.reduceLeDiff, Nat.reducePow, Nat.reduceEqDiff, ne_eq, not_false_eq_true, eq_self, reduceCtorEq, false_and, and_false, if_false, Bool.not_true, Bool.not_false, Bool.true_eq_false, Bool.false_eq_true, List.cons.injEq, e_app, lst_inj, exists_const, ixN_lit, Option.bind_some, getP_nilE, setP_nilE, exists_and_left, exists_eq', isT_nonetype_int, isT_nonetype_bool, isT_nonetype_str, isT_nonetype_list, isT_nonetype_tuple, isT_nonetype_dict, isT_int_int, isT_int_bool, isT_int_str, isT_int_list, isT_int_tuple, isT_int_dict, isT_bool_int, isT_bool_bool, isT_bool_str, isT_bool_list, isT_bool_tuple, isT_bool_dict, isT_str_int, isT_str_bool, isT_str_str, isT_str_list, isT_str_tuple, isT_str_dict, isT_list_int, isT_list_bool, isT_list_str, isT_list_list, isT_list_tuple, isT_list_dict, isT_tuple_int, isT_tuple_bool, isT_tuple_str, isT_tuple_list, isT_tuple_tuple, isT_tuple_dict, isT_dict_int, isT_dict_bool, isT_dict_str, isT_dict_list, isT_dict_tuple, isT_dict_dict, inT_int, inT_bool, inT_str, inT_list, inT_tuple, inT_dict, wName, wC, w1, w2, wNil, wCons, wOp, wCall, wTup, wLst, vView, vViewT, wMeth, flatD, tyOk_L, e_index, e_any, e_all, vAug, vForO, e_pop, names1, names2, names3, Bool.true_and, isFzL_nds, natsD_fz, isFz_nd, frz_nd, natsD_frz, frzL_nds, opD_fz, natsD_len, cutL_take, cutL_drop, List.take_succ_cons, List.take_zero, List.drop_succ_cons, List.drop_zero, frz_op, vLc, pull, forgetE, vYes, VL.isNon, D.tup.injEq, seqD_l, seqD_t, listD_l, listD_t, frz_rows, rowsF_fz, rowsD_len, rowsF_len, deq_ll, frz_rowsF, frzL_len, List.length_map, eqOk_n0, eqOk_nn, deqL_n0, deqL_nn, vDisp1, vDisp, vdCons, vdNil, rws_fz, rws_frz, mm_fz, mm_frz, deds_fz, deds_frz, strs_fz, strs_frz, isDct_mm, plc_frz, vLend, slice_script, frz_ints, new_told, ded_frz, rwD_frz, std_fz, std_frz, std_len, ln_fz, ln_frz, lns_fz, lns_frz, tk_fz, fms_fz, fms_frz, fm_fz, fm_frz, e_strS, e_join, e_joinA, e_split, e_part, e_starts, e_inG, viRd, $ls,*] $[$loc]?)
theorem rd_Versions_version_from : Rd 3 [true, true, true] 3 sp_Versions_version_from t_Versions_version_from := by
  rintro ds Q Ex - ⟨⟨⟨nm, S, V⟩, s, x⟩, rfl, ⟨hs, hx⟩, q⟩
  have hs : s = -1 ∨ (0 ≤ s ∧ s.toNat < V.B.length) := hs
  have hx : x ∈ nm := hx
  have q : Q (.int (verF V s x : Int)) [insV false nm S V, .int s, .str x] := q
  unfold t_Versions_version_from
  simp! only [VrA.f, insV, wFld, frzL_id (vers_fzL nm V.B)]
  by_cases z : s = -1
  · subst z
    refine ite_yes rfl ?_
    have e : verF V (-1) x = 0 := if_pos rfl
    rw [e] at q
    exact q
  · have hs := hs.resolve_left z
    refine ite_no z ?_
    obtain ⟨m, rfl⟩ := Int.eq_ofNat_of_zero_le hs.1
    have hm : m < V.B.length := by simpa using hs.2
    have e : verF V (m : Int) x = rowAt V.B m x := by unfold verF; rw [if_neg z]; rfl
    rw [e] at q
    refine ⟨_, _, rfl, 4, rfl, _, rfl, _, (show (ixN (versD nm V.B).length (m : Int)).bind _ = _ by rw [ixN_nat (by unfold versD; rw [List.length_map]; exact hm)]; exact vers_at hm), ver_fz, ?_⟩
    rw [ver_frz]
    exact ⟨_, ver_ix hx, rfl, rfl, q⟩
theorem getP_ahead (nm : List Cs) (S : List (List Int)) (V : Vst) {k : Nat} (h : k < V.A.length) : getP (insV true nm S V) [Stp.fd [97, 104, 101, 97, 100], Stp.ix k] = some (verD false nm (rowAt V.A k)) := by
  have e : getP (insV true nm S V) ([Stp.fd [97, 104, 101, 97, 100]] ++ [Stp.ix k]) = (versD nm V.A)[k]? := getP_ix rfl
  exact e.trans (vers_at h)
theorem setP_behind (nm : List Cs) (S : List (List Int)) (V : Vst) (L : List VRow) : setP (insV true nm S V) [Stp.fd [98, 101, 104, 105, 110, 100]] (.lst true (versD nm L)) = insV true nm S ⟨V.gv, V.A, L⟩ := rfl
theorem c_dictV {nm : List Cs} {f : VRow} {Q : D → Prop} (q : Q (verD true nm f)) : sDict [verD false nm f] Q := ⟨_, _, _, rfl, by rw [isFzL_all]; simp [isFz], q⟩
theorem vers_few (nm : List Cs) (L : List VRow) : (versD nm L).length = L.length := by unfold versD; rw [List.length_map]
theorem rd_Versions_pass_by : Rd 3 [true, true, true] 4 sp_Versions_pass_by t_Versions_pass_by := by
  rintro ds Q Ex - ⟨⟨⟨nm, S, V⟩, k, x⟩, rfl, ⟨nd, few, hk, hB, ht⟩, q⟩
  have nd : nm.Nodup := nd
  have few : nm.length < 60 := few
  have hk : k < V.A.length := hk
  have hB : V.B.length < 1000 := hB
  have ht : ∀ t ∈ txtsN x, t ∈ nm := ht
  have q : Q .non [insV true nm S (passV k x V), .int (k : Int), ndD x] := q
  unfold t_Versions_pass_by
  have fA : fdIx [fNames, fSources, fGiven, fAhead, fBehind] [97, 104, 101, 97, 100] = some 3 := rfl
  have fB : fdIx [fNames, fSources, fGiven, fAhead, fBehind] [98, 101, 104, 105, 110, 100] = some 4 := rfl
  have gA := getP_ahead nm S V hk
  have app : ∀ (V' : Vst) (f : VRow), V'.B.length = V.B.length → ∀ (P : D → Prop), P (insV true nm S ⟨V'.gv, V'.A, V'.B ++ [f]⟩) → ∃ x_1 x_2, insV true nm S V' = D.ins true 3 x_1 x_2 ∧ ∃ x_3, fdIx x_1 [98, 101, 104, 105, 110, 100] = some x_3 ∧ x_3 < x_2.length ∧ ∃ ds, getP (insV true nm S V') [Stp.fd [98, 101, 104, 105, 110, 100]] = some (.lst true ds) ∧ ds.length < 1000000 ∧ P (setP (insV true nm S V') [Stp.fd [98, 101, 104, 105, 110, 100]] (.lst true (ds ++ [verD false nm f]))) := fun V' f hl P h =>
    ⟨_, _, rfl, 4, rfl, (by show 4 < 5; decide), _, rfl, by rw [vers_few, hl]; omega, by rw [vers_app, setP_behind]; exact h⟩
  simp! only [VrA.d, vpFd, isFz_nd]
  refine ⟨_, _, rfl, 3, fA, (by show 3 < 5; decide), _, rfl, k, ixN_nat (by rw [vers_few]; exact hk), _, gA, ver_fz, c_dictV ?_⟩
  cases x with
  | sum y a s b to =>
    have hy : y ∈ nm := ht y List.mem_cons_self
    simp! only [ndD, ndL, opD_fz, vMeth]
    refine ⟨⟨_, _, rfl, rfl⟩, c_Versions_new_one ⟨nd, by omega, hy⟩ ⟨rfl, ?_⟩⟩
    simp! only [opD_fz]
    refine ⟨_, ver_put nd (by omega) hy, ?_⟩
    simp! only [opD_fz, ver_frz]
    exact app (oneV V y) _ rfl (fun d => Q .non [d, .int (k : Int), ndD (.sum y a s b to)]) q
  | fin =>
    simp! only [ndD, ndL, ver_frz]
    exact app V _ rfl (fun d => Q .non [d, .int (k : Int), ndD .fin]) q
  | spin =>
    simp! only [ndD, ndL, ver_frz]
    exact app V _ rfl (fun d => Q .non [d, .int (k : Int), ndD .spin]) q
  | test a s b y n =>
    simp! only [ndD, ndL, opD_fz, ver_frz]
    exact app V _ rfl (fun d => Q .non [d, .int (k : Int), ndD (.test a s b y n)]) q
theorem setP_ahead (nm : List Cs) (S : List (List Int)) (V : Vst) (L : List VRow) : setP (insV true nm S V) [Stp.fd [97, 104, 101, 97, 100]] (.lst true (versD nm L)) = insV true nm S ⟨V.gv, L, V.B⟩ := rfl
theorem getP_behind (nm : List Cs) (S : List (List Int)) (V : Vst) {k : Nat} (h : k < V.B.length) : getP (insV true nm S V) [Stp.fd [98, 101, 104, 105, 110, 100], Stp.ix k] = some (verD false nm (rowAt V.B k)) := by
  have e : getP (insV true nm S V) ([Stp.fd [98, 101, 104, 105, 110, 100]] ++ [Stp.ix k]) = (versD nm V.B)[k]? := getP_ix rfl
  exact e.trans (vers_at h)
/-- new versions for names, one by one -/
def addL (done : List Cs) (f : VRow) : VRow := fun y => if y ∈ done then f y + 1 else f y
theorem for_enter {nm : List Cs} {S : List (List Int)} {V : Vst} (nd : nm.Nodup) (few : nm.length < 1000) {N : VEnds} {k : Option D} : ∀ (xs done : List Cs) (v : Option D), done ++ xs = nm →
    (∀ v, N.nx [some (insV true nm S ⟨addL nm V.gv, V.A, V.B⟩), k, some (verD true nm fun x => V.gv x + 1), v]) →
    vForL (vName 3) lb_Versions_enter0 (strsD xs) N [some (insV true nm S ⟨addL done V.gv, V.A, V.B⟩), k, some (verD true done fun x => V.gv x + 1), v]
  | [], done, v, e, q => by
    rw [List.append_nil] at e
    subst e
    exact q v
  | x :: xs, done, v, e, q => by
    show vForL (vName 3) lb_Versions_enter0 (D.str x :: strsD xs) N _
    rw [e_forU lb_Versions_enter0.eq_1]
    have hx : x ∈ nm := by rw [← e]; simp
    have nx : x ∉ done := fun z => by
      rw [← e] at nd
      exact (List.nodup_append.mp nd).2.2 x z x List.mem_cons_self rfl
    have l : done.length < 1000000 := by
      have := congrArg List.length e
      rw [List.length_append] at this
      omega
    simp! only [vMeth]
    refine ⟨⟨_, _, rfl, rfl⟩, c_Versions_new_one ⟨nd, few, hx⟩ ⟨rfl, ?_⟩⟩
    have ev : addL done V.gv x = V.gv x := if_neg nx
    simp! only []
    refine ⟨_, ver_new (v := addL done V.gv x + 1) l nx, ?_⟩
    have e1 : verD true (done ++ [x]) (updC (fun x => V.gv x + 1) x (addL done V.gv x + 1)) = verD true (done ++ [x]) fun x => V.gv x + 1 := ver_congr fun y _ => by
      rw [ev]
      unfold updC
      split
      · next z => rw [z]
      · rfl
    have e2 : oneV ⟨addL done V.gv, V.A, V.B⟩ x = ⟨addL (done ++ [x]) V.gv, V.A, V.B⟩ := by
      show Vst.mk (updC (addL done V.gv) x (addL done V.gv x + 1)) V.A V.B = _
      congr 1
      funext y
      unfold updC
      rw [ev]
      by_cases z : y = x
      · subst z
        rw [if_pos rfl]
        unfold addL
        rw [if_pos (by simp)]
      · rw [if_neg z]
        unfold addL
        by_cases w : y ∈ done
        · rw [if_pos w, if_pos (List.mem_append_left _ w)]
        · rw [if_neg w, if_neg (by simp [w, z])]
    rw [e1, e2]
    exact for_enter nd few xs (done ++ [x]) _ (by simpa using e) q
theorem for_zero {a k : Option D} {N : VEnds} : ∀ (xs done : List Cs) (v : Option D), (done ++ xs).Nodup → (done ++ xs).length < 1000000 →
    (∀ v, N.nx [a, k, some (verD true (done ++ xs) fun _ => 0), v]) →
    vForL (vName 3) lb_Versions_enter1 (strsD xs) N [a, k, some (verD true done fun _ => 0), v]
  | [], done, v, _, _, q => by
    have q := q v
    rw [List.append_nil] at q
    exact q
  | x :: xs, done, v, nd, l, q => by
    show vForL (vName 3) lb_Versions_enter1 (D.str x :: strsD xs) N _
    rw [e_forU lb_Versions_enter1.eq_1]
    have nx : x ∉ done := fun z => (List.nodup_append.mp nd).2.2 x z x List.mem_cons_self rfl
    rw [List.length_append] at l
    simp! only []
    refine ⟨_, (show putD _ _ (D.int ((0 : Nat) : Int)) = _ from ver_new (by omega) nx), ?_⟩
    have e : verD true (done ++ [x]) (updC (fun _ => 0) x 0) = verD true (done ++ [x]) fun _ => 0 := ver_congr fun y _ => by unfold updC; split <;> rfl
    rw [e]
    refine for_zero xs (done ++ [x]) _ (by simpa using nd) (by simpa using l) fun v => ?_
    rw [List.append_assoc]
    exact q v
theorem rd_Versions_enter : Rd 2 [true, true] 4 sp_Versions_enter t_Versions_enter := by
  rintro ds Q Ex - ⟨⟨⟨nm, S, V⟩, k⟩, rfl, h, q⟩
  have h : EnP nm S V k := h
  have q : Q .non [insV true nm S (enterV S k V), .int (k : Int)] := q
  obtain ⟨nd, few, so, lt, la, lb⟩ := h
  obtain ⟨r, hr⟩ : ∃ r, S[k]? = some r := ⟨_, List.getElem?_eq_getElem lt⟩
  have hix : ixD (.lst false (srcsD S)) (.int (k : Int)) = some (.lst false (intsD r)) := by
    show (ixN (srcsD S).length (k : Int)).bind _ = _
    rw [ixN_nat (by unfold srcsD; rw [List.length_map]; exact lt)]
    exact srcs_at hr
  have rz : isFz (.lst false (intsD r)) = true := by show (!false && isFzL (intsD r)) = true; rw [ints_fzL]; rfl
  have rf : frz (.lst false (intsD r)) = .lst false (intsD r) := frz_id rz
  have rl : (intsD r).length = r.length := by unfold intsD; rw [List.length_map]
  have fA : fdIx [fNames, fSources, fGiven, fAhead, fBehind] [97, 104, 101, 97, 100] = some 3 := rfl
  have fN : fdIx [fNames, fSources, fGiven, fAhead, fBehind] [110, 97, 109, 101, 115] = some 0 := rfl
  have app : ∀ (V' : Vst) (f : VRow), V'.A.length = V.A.length → ∀ (P : D → Prop), P (insV true nm S ⟨V'.gv, V'.A ++ [f], V'.B⟩) → ∃ x_1 x_2, insV true nm S V' = D.ins true 3 x_1 x_2 ∧ ∃ x_3, fdIx x_1 [97, 104, 101, 97, 100] = some x_3 ∧ x_3 < x_2.length ∧ ∃ ds, getP (insV true nm S V') [Stp.fd [97, 104, 101, 97, 100]] = some (.lst true ds) ∧ ds.length < 1000000 ∧ P (setP (insV true nm S V') [Stp.fd [97, 104, 101, 97, 100]] (.lst true (ds ++ [verD false nm f]))) := fun V' f hl P h =>
    ⟨_, _, rfl, 3, rfl, (by show 3 < 5; decide), _, rfl, by rw [vers_few, hl, la]; have := so.few; omega, by rw [vers_app, setP_ahead]; exact h⟩
  unfold t_Versions_enter
  simp! only [VrA.d, wFld, insV_frz]
  refine ⟨_, _, rfl, 1, rfl, _, rfl, _, hix, rz, ?_⟩
  rw [rf]
  simp! only [rl, vpFd]
  have gN : getP (insV true nm S V) [Stp.fd [110, 97, 109, 101, 115]] = some (.lst false (strsD nm)) := rfl
  have sz : isFz (.lst false (strsD nm)) = true := by show (!false && isFzL (strsD nm)) = true; rw [strs_fz]; rfl
  by_cases m : 1 < r.length
  · refine ite_yes (by omega) ⟨_, _, rfl, 0, fN, (by show 0 < 5; decide), _, gN, sz, _, rfl, ?_⟩
    have e0 : V = ⟨addL [] V.gv, V.A, V.B⟩ := by
      have : addL [] V.gv = V.gv := funext fun y => if_neg (fun z => nomatch z)
      rw [this]
    have en : enterV S k V = ⟨fun x => V.gv x + 1, V.A ++ [(fun x => V.gv x + 1 : VRow)], V.B⟩ := enter_many ⟨r, hr, m⟩
    rw [en] at q
    have := for_enter (S := S) (V := V) nd (by omega) (N := ?N) (k := some (.int (k : Int))) nm [] none rfl ?h
    · rw [← e0] at this
      exact this
    · intro v
      simp! only [vpFd, ver_frz]
      refine app ⟨addL nm V.gv, V.A, V.B⟩ (fun x => V.gv x + 1) rfl (fun d => Q .non [d, .int (k : Int)]) ?_
      have ec : insV true nm S ⟨addL nm V.gv, V.A ++ [(fun x => V.gv x + 1 : VRow)], V.B⟩ = insV true nm S ⟨fun x => V.gv x + 1, V.A ++ [(fun x => V.gv x + 1 : VRow)], V.B⟩ := by
        unfold insV
        rw [show verD true nm (addL nm V.gv) = verD true nm fun x => V.gv x + 1 from ver_congr fun y hy => if_pos hy]
      rw [ec]
      exact q
  · have r1 : ∃ s, r = [s] ∧ (s = -1 ∨ (0 ≤ s ∧ s < (k : Int))) := by
      obtain ⟨_, _, h3⟩ := so.row k r hr
      cases r with
      | nil =>
        rcases h3 with ⟨_, r', e⟩ | ⟨_, _, s, hs, _⟩
        · cases e
        · cases hs
      | cons a t =>
        cases t with
        | cons b u => simp at m
        | nil =>
          refine ⟨a, rfl, ?_⟩
          rcases h3 with ⟨_, r', e⟩ | ⟨_, _, s, hs, hs2⟩
          · injection e with e1 e2; exact .inl e1
          · rw [List.mem_singleton.mp hs] at hs2; exact .inr hs2
    obtain ⟨s, rfl, hs⟩ := r1
    refine ite_no (by simp) ⟨_, _, rfl, 1, rfl, _, rfl, _, hix, rz, .inr ⟨rfl, rfl⟩, ?_⟩
    rw [rf]
    have dq : deq (.lst false (intsD [s])) (.lst false [.int (-1)]) = decide (s = -1) := by
      show (deq (.int s) (.int (-1)) && deqL [] []) = _
      rw [deq, deqL, Bool.and_true]
      exact Bool.eq_iff_iff.mpr (by simp)
    rw [dq]
    by_cases z : s = -1
    · subst z
      have en : enterV S k V = ⟨V.gv, V.A ++ [(fun _ => 0 : VRow)], V.B⟩ := by unfold enterV; rw [hr]; rfl
      rw [en] at q
      refine ite_yes rfl ⟨_, _, rfl, 0, fN, (by show 0 < 5; decide), _, gN, sz, _, rfl, ?_⟩
      refine for_zero nm [] none (by simpa using nd) (by simp; omega) fun v => ?_
      simp! only [vpFd, ver_frz]
      exact app V (fun _ => 0) rfl (fun d => Q .non [d, .int (k : Int)]) q
    · have hs := hs.resolve_left z
      obtain ⟨j, rfl⟩ := Int.eq_ofNat_of_zero_le hs.1
      have hj : j < V.B.length := by omega
      have en : enterV S k V = ⟨V.gv, V.A ++ [rowAt V.B j], V.B⟩ := by unfold enterV; rw [hr]; show (if (j : Int) = -1 then _ else _) = _; rw [if_neg z]; rfl
      rw [en] at q
      refine ite_no (by simp [z]) ?_
      have fB : fdIx [fNames, fSources, fGiven, fAhead, fBehind] [98, 101, 104, 105, 110, 100] = some 4 := rfl
      refine ⟨_, _, rfl, 3, fA, (by show 3 < 5; decide), _, rfl, _, _, rfl, 4, fB, (by show 4 < 5; decide), _, _, rfl, 1, rfl, _, rfl, _, hix, rz, ?_⟩
      rw [rf]
      refine ⟨.int (j : Int), rfl, rfl, rfl, _, rfl, _, rfl, j, ixN_nat (by rw [vers_few]; exact hj), ?_⟩
      refine ⟨_, getP_behind nm S V hj, ver_fz, c_dictV ⟨by rw [vers_few, la]; have := so.few; omega, ?_⟩⟩
      rw [ver_frz, vers_app, setP_ahead]
      exact q
theorem setP_given (nm : List Cs) (S : List (List Int)) (V : Vst) (f : VRow) : setP (insV true nm S V) [Stp.fd [103, 105, 118, 101, 110]] (verD true nm f) = insV true nm S ⟨f, V.A, V.B⟩ := rfl
theorem rd_Versions_new_one : Rd 2 [true, true] 2 sp_Versions_new_one t_Versions_new_one := by
  rintro ds Q Ex - ⟨⟨⟨nm, S, V⟩, x⟩, rfl, ⟨nd, few, hx⟩, q⟩
  have nd : nm.Nodup := nd
  have few : nm.length < 1000 := few
  have hx : x ∈ nm := hx
  have q : Q (.int ((V.gv x + 1 : Nat) : Int)) [insV true nm S (oneV V x), .str x] := q
  unfold t_Versions_new_one
  simp! only [VrA.d, insV, wFld, vAugP, vpFd]
  have few2 : nm.length < 1000000 := by omega
  refine ⟨_, _, rfl, 2, rfl, (by show 2 < 5; decide), _, rfl, _, ver_getM hx, _, (show putD _ _ (D.int ((V.gv x + 1 : Nat) : Int)) = _ from ver_put nd few2 hx), ?_⟩
  have e := setP_given nm S V (updC V.gv x (V.gv x + 1))
  unfold insV at e
  rw [e]
  have f : frz (insV true nm S (oneV V x)) = insV false nm S (oneV V x) := insV_frz
  unfold insV oneV at f
  rw [f]
  refine ⟨_, _, rfl, 2, rfl, _, rfl, _, ver_ix hx, rfl, rfl, ?_⟩
  have e2 : updC V.gv x (V.gv x + 1) x = V.gv x + 1 := updC_self
  show Q (D.int ((updC V.gv x (V.gv x + 1) x : Nat) : Int)) _
  rw [e2]
  exact q
def ins3 (nm : List Cs) (S : List (List Int)) (d : D) : D := .ins true 3 [[110, 97, 109, 101, 115], [115, 111, 117, 114, 99, 101, 115], [103, 105, 118, 101, 110]] [.lst false (strsD nm), .lst false (srcsD S), d]
theorem setP_ins3 (nm : List Cs) (S : List (List Int)) (d e : D) : setP (ins3 nm S d) [Stp.fd [103, 105, 118, 101, 110]] e = ins3 nm S e := rfl
theorem for_init0 {nm : List Cs} {S : List (List Int)} {a u v : Option D} {N : VEnds} : ∀ (xs done : List Cs) (w : Option D), (done ++ xs).Nodup → (done ++ xs).length < 1000000 →
    (∀ w, N.nx [some (ins3 nm S (verD true (done ++ xs) fun _ => 0)), a, w, u, v]) →
    vForL (vName 2) lb_Versions_init0 (strsD xs) N [some (ins3 nm S (verD true done fun _ => 0)), a, w, u, v]
  | [], done, w, _, _, q => by
    have q := q w
    rw [List.append_nil] at q
    exact q
  | x :: xs, done, w, nd, l, q => by
    show vForL (vName 2) lb_Versions_init0 (D.str x :: strsD xs) N _
    rw [e_forU lb_Versions_init0.eq_1]
    have nx : x ∉ done := fun z => (List.nodup_append.mp nd).2.2 x z x List.mem_cons_self rfl
    rw [List.length_append] at l
    simp! only [vpFd]
    have e : verD true (done ++ [x]) (updC (fun _ => 0) x 0) = verD true (done ++ [x]) fun _ => 0 := ver_congr fun y _ => by unfold updC; split <;> rfl
    refine ⟨_, _, rfl, 2, rfl, (by show 2 < 3; decide), _, rfl, _, (show putD _ _ (D.int ((0 : Nat) : Int)) = _ from ver_new (by omega) nx), ?_⟩
    rw [setP_ins3, e]
    refine for_init0 xs (done ++ [x]) _ (by simpa using nd) (by simpa using l) fun w => ?_
    rw [List.append_assoc]
    exact q w
theorem for_init1 {nm : List Cs} {S : List (List Int)} {G : List D} (nd : nm.Nodup) (few : nm.length < 60) (so : SrcOk S.length S) {N : VEnds} {w : Option D} : ∀ (xs : List Nd) (k : Nat) (V : Vst) (u v : Option D), k + xs.length = S.length → V.A.length = k → V.B.length = k → (∀ x ∈ xs, ∀ t ∈ txtsN x, t ∈ nm) → isFzL G = true →
    (∀ u v, N.nx [some (insV true nm S (goV S k xs V)), some (.lst false G), w, u, v]) →
    vForL (vNames [3, 4]) lb_Versions_init1 (xs.mapIdx fun i x => .tup [.int ((k + i : Nat) : Int), ndD x]) N [some (insV true nm S V), some (.lst false G), w, u, v]
  | [], k, V, u, v, _, _, _, _, _, q => q u v
  | x :: xs, k, V, u, v, hk, la, lb, ht, hG, q => by
    rw [List.mapIdx_cons, Nat.add_zero, e_forU lb_Versions_init1.eq_1]
    rw [List.length_cons] at hk
    simp! only [isFz_nd, vMeth]
    refine ⟨⟨_, _, rfl, rfl⟩, c_Versions_enter ⟨nd, few, so, by omega, la, lb⟩ ⟨rfl, ?_⟩⟩
    simp! only [isFz_nd]
    obtain ⟨e1, e2⟩ := enter_A S k V
    refine ⟨⟨_, _, rfl, rfl⟩, c_Versions_pass_by ⟨nd, few, by omega, by rw [e2]; have := so.few; omega, ht x List.mem_cons_self⟩ ⟨rfl, ?_⟩⟩
    simp! only [isFz_nd]
    obtain ⟨f1, f2⟩ := pass_B k x (enterV S k V)
    have e : (xs.mapIdx fun i x => D.tup [.int ((k + (i + 1) : Nat) : Int), ndD x]) = xs.mapIdx fun i x => D.tup [.int (((k + 1) + i : Nat) : Int), ndD x] := by
      congr 1
      funext i x
      rw [Nat.add_assoc, Nat.add_comm 1 i]
    rw [e]
    exact for_init1 nd few so xs (k + 1) _ _ _ (by omega) (by rw [f2, e1, la]) (by rw [f1, e2, lb]) (fun y hy => ht y (List.mem_cons_of_mem _ hy)) hG q
theorem enum_idx {α : Type} (f : α → D) : ∀ (xs : List α), enumD (xs.map f) = xs.mapIdx fun i x => D.tup [.int ((0 + i : Nat) : Int), f x] := fun xs => by
  refine List.ext_getElem? fun i => ?_
  unfold enumD
  rw [List.getElem?_map, List.getElem?_zipIdx, List.getElem?_mapIdx, List.getElem?_map]
  cases xs[i]? with
  | none => rfl
  | some x => simp
theorem rd_Versions_init : Rd 2 [true, true] 5 sp_Versions_init t_Versions_init := by
  rintro ds Q Ex - ⟨⟨g, M⟩, rfl, ⟨hg, few, hM⟩, q⟩
  have hg : GOk g := hg
  have few : g.length ≤ 62 := few
  have hM : NmG g M := hM
  have q : Q .non [insV true (namesG g) (srcG g) (verG (srcG g) g), .lst false (g.map ndD)] := q
  unfold t_Versions_init
  simp! only [isFzL_nds, vFld]
  refine c_names_of ⟨hM, by omega⟩ ⟨rfl, _, _, rfl, rfl, by decide, ?_⟩
  simp! only [isFzL_nds]
  refine c_sources_of ⟨hg, few⟩ ⟨rfl, _, _, rfl, rfl, by decide, _, _, rfl, rfl, by decide, ?_⟩
  simp! only [isFzL_nds, vpFd, strs_frz, frzL_id (srcs_fzL (srcG g))]
  refine ⟨_, _, rfl, 0, rfl, (by show 0 < 3; decide), _, rfl, strs_fzD _, _, rfl, ?_⟩
  have nd := namesG_nodup g
  have fw := hM.len
  have fw2 := hM.few
  refine for_init0 (nm := namesG g) (S := srcG g) (namesG g) [] none (by simpa using nd) (by simp; omega) fun w => ?_
  simp! only [isFzL_nds, vFld, ins3]
  refine ⟨_, _, rfl, rfl, by decide, _, _, rfl, rfl, by decide, ?_⟩
  rw [enum_idx]
  have so := src_ok hg few
  have sl := so.len
  have so2 : SrcOk (srcG g).length (srcG g) := by rw [sl]; exact so
  refine for_init1 (S := srcG g) nd (by omega) so2 g 0 ⟨fun _ => 0, [], []⟩ none none (by rw [sl]; omega) rfl rfl (fun x hx t ht => namesG_mem.mpr ⟨x, hx, ht⟩) (isFzL_nds g) fun u v => ?_
  simp! only [isFzL_nds]
  exact q
theorem rd_ways : Rd 1 [true] 1 sp_ways t_ways := by
  rintro ds Q Ex hl ⟨x, rfl, _, q⟩
  have q : Q (.tup (natsD (waysN x))) [ndD x] := q
  unfold t_ways
  cases x <;> (unfold ndD ndL at q ⊢; simp! only [opD_fz]; exact q)
theorem lc_comings {G : D} {u v w : Option D} {Q : List D → Ep → Prop} : ∀ (xs : List Nd) (acc : List D), acc.length + xs.length < 1000000 → Q (acc ++ List.replicate xs.length (.lst true [])) [some G, u, none, v, w] →
    vLcL [2] (vName 2) vYes le_comings0 (xs.map ndD) acc [some G, u, none, v, w] Q
  | [], acc, _, q => by
    show Q acc _
    simpa using q
  | x :: xs, acc, hl, q => by
    rw [List.map_cons, e_lcU le_comings0.eq_1]
    have hl : acc.length + (xs.length + 1) < 1000000 := hl
    simp! only []
    refine ⟨by omega, ?_⟩
    refine lc_comings xs _ (by first | omega | (simp <;> omega)) ?_
    rw [List.append_assoc]
    exact q
theorem empty_rows (n : Nat) : List.replicate n (.lst true []) = rowsD n fun _ => [] := by
  unfold rowsD
  apply List.ext_getElem
  · simp
  · intro i h1 h2
    simp
    rfl
theorem inner_comings {G nd : D} {n k : Nat} {N : VEnds} : ∀ (ws : List Nat) (r : Nat → List Nat) (u : Option D), (∀ t ∈ ws, t < n) → (∀ t < n, (r t).length + ws.length < 1000000) →
    (∀ u r', (∀ t, r' t = r t ++ List.replicate (ws.count t) k) → N.nx [some G, some (.lst true (rowsD n r')), some nd, some (.int (k : Int)), u]) →
    vForL (vName 4) lb_comings0 (natsD ws) N [some G, some (.lst true (rowsD n r)), some nd, some (.int (k : Int)), u]
  | [], r, u, _, _, q => q u r (fun t => by simp)
  | t :: ws, r, u, hw, hl, q => by
    show vForL (vName 4) lb_comings0 (D.int (t : Int) :: natsD ws) N _
    rw [e_forU lb_comings0.eq_1]
    have ht := hw t List.mem_cons_self
    have hlt := hl t ht
    simp only [List.length_cons] at hlt
    have hix : ixN n (t : Int) = some t := ixN_nat ht
    simp! only [hix, getP_ix1 (rowsD_get (r := r) ht), setP_ix1 (rowsD_get (r := r) ht), List.nil_append, natsD_app, rowsD_set ht]
    refine ⟨by omega, ?_⟩
    refine inner_comings ws (addRow r t k) _ (fun i hi => hw i (List.mem_cons_of_mem _ hi)) (fun i hi => ?_) fun u r' hr => ?_
    · have := hl i hi
      simp only [List.length_cons] at this
      unfold addRow
      split <;> simp <;> omega
    · refine q u r' fun s => ?_
      rw [hr s]
      unfold addRow
      by_cases e : s = t
      · subst e
        rw [if_pos rfl, List.count_cons_self, List.append_assoc, List.replicate_succ]
        rfl
      · rw [if_neg e, List.count_cons_of_ne (fun z => e z.symm)]
theorem outer_comings {g : List Nd} (hg : g.length < 100000) (ok : ∀ x ∈ g, x.ok g.length) {N : VEnds} : ∀ (i : Nat) (r : Nat → List Nat) (u v w : Option D), i ≤ g.length → (∀ t, r t = comeRow (fun k => match g[k]? with | some x => goals x | none => []) i t) →
    (∀ u v w, N.nx [some (.lst false (g.map ndD)), some (.lst true (rowsD g.length (comeG g))), u, v, w]) →
    vForL (vNames [3, 2]) lb_comings1 ((enumD (g.map ndD)).drop i) N [some (.lst false (g.map ndD)), some (.lst true (rowsD g.length r)), u, v, w] := by
  intro i
  generalize hm : g.length - i = m
  induction m generalizing i with
  | zero =>
    intro r u v w hi hr q
    have e : i = g.length := by omega
    subst e
    rw [List.drop_of_length_le (by rw [enumD_len, List.length_map]; exact Nat.le_refl _)]
    have : r = comeG g := funext fun t => hr t
    rw [this]
    exact q u v w
  | succ m ih =>
    intro r u v w hi hr q
    have hlt : i < g.length := by omega
    have hlt2 : i < (enumD (g.map ndD)).length := by rw [enumD_len, List.length_map]; exact hlt
    have e1 : (enumD (g.map ndD))[i] = .tup [.int (i : Int), ndD g[i]] := by
      obtain ⟨x, hx, e⟩ := enumD_get (List.getElem?_eq_getElem hlt2)
      rw [e]
      rw [List.getElem?_map, List.getElem?_eq_getElem hlt] at hx
      cases hx
      rfl
    rw [List.drop_eq_getElem_cons hlt2, e1, e_forU lb_comings1.eq_1]
    have hok := ok _ (List.getElem_mem hlt)
    have hr2 : ∀ t, (r t).length ≤ i * 2 := fun t => by
      rw [hr t]
      exact comeRow_len fun k _ => by
        show (match g[k]? with | some x => goals x | none => []).length ≤ 2
        cases g[k]? with
        | none => simp
        | some x => exact goals_len x
    have wl : (waysN g[i]).length ≤ 2 := by rw [waysN_eq, List.length_reverse]; exact goals_len _
    simp! only [c_ways]
    refine inner_comings (waysN g[i]) r _ (fun t ht => hok t (by rw [waysN_eq] at ht; exact List.mem_reverse.mp ht)) (fun t _ => by have := hr2 t; omega) fun u r' hr' => ?_
    refine ih (i + 1) (by omega) r' _ _ _ (by omega) (fun t => ?_) q
    rw [hr' t, comeRow_succ, hr t, waysN_eq, List.count_reverse]
    rw [List.getElem?_eq_getElem hlt]
theorem rd_comings : Rd 1 [true] 5 sp_comings t_comings := by
  rintro ds Q Ex hl ⟨g, rfl, ⟨hg, ok⟩, q⟩
  have hg : g.length < 100000 := hg
  have q : Q (.lst true (rowsD g.length (comeG g))) [.lst false (g.map ndD)] := q
  unfold t_comings
  simp! only []
  refine lc_comings g [] (by first | omega | (simp <;> omega)) ?_
  rw [List.nil_append, empty_rows]
  simp! only []
  have := outer_comings hg ok (N := { nx := vRet (vMov 1) { nx := fun ε => 1 ≤ List.length ε ∧ Q .non (finalL [true] [.lst false (g.map ndD)] ε), rt := fun r ε => 1 ≤ List.length ε ∧ Q r (finalL [true] [.lst false (g.map ndD)] ε), rx := fun cls row ε => 1 ≤ List.length ε ∧ Ex cls row (finalL [true] [.lst false (g.map ndD)] ε) }, rt := fun r ε => 1 ≤ List.length ε ∧ Q r (finalL [true] [.lst false (g.map ndD)] ε), rx := fun cls row ε => 1 ≤ List.length ε ∧ Ex cls row (finalL [true] [.lst false (g.map ndD)] ε) }) 0 (fun _ => []) none none none (Nat.zero_le _) (fun t => by simp [comeRow]) fun u v w => by
    simp! only []
    exact q
  rw [List.drop_zero] at this
  exact this
def partK (ks : List Cs) : D → List Cs
  | .str t => if t ∈ signs8 then ks else addK ks t
  | _ => ks
theorem mapK_add (ks : List Cs) (t : Cs) : addK (ks.map (Sum.inr : Cs → Kc)) (.inr t) = (addK ks t).map (Sum.inr : Cs → Kc) := by
  unfold addK
  by_cases h : t ∈ ks
  · rw [if_pos h, if_pos (inr_mem.mpr h)]
  · rw [if_neg h, if_neg fun z => h (inr_mem.mp z), List.map_append]; rfl
theorem sg_mem (t : Cs) : memD (.str t) (.tup [.str [43], .str [45], .str [47], .str [114, 101, 115, 116], .str [38], .str [94], .str [60], .str [61]]) = some (decide (t ∈ signs8)) := by
  have e : ∀ y : Cs, deq (.str y) (.str t) = decide (y = t) := fun y => by rw [deq]; exact Bool.eq_iff_iff.mpr (by simp)
  have m : ∀ ys : List D, memD (.str t) (.tup ys) = if (flatD (.str t) && ys.all flatD) = true then some (ys.any fun y => deq y (.str t)) else none := fun _ => rfl
  have fl : (flatD (D.str t) && ([.str [43], .str [45], .str [47], .str [114, 101, 115, 116], .str [38], .str [94], .str [60], .str [61]] : List D).all flatD) = true := rfl
  rw [m, if_pos fl]
  congr 1
  rw [Bool.eq_iff_iff, decide_eq_true_iff, List.any_eq_true]
  unfold signs8
  constructor
  · rintro ⟨x, hx, h⟩
    simp only [List.mem_cons, List.not_mem_nil, or_false] at hx ⊢
    rcases hx with rfl | rfl | rfl | rfl | rfl | rfl | rfl | rfl <;> (rw [e, decide_eq_true_iff] at h; subst h; simp)
  · intro h
    refine ⟨.str t, ?_, by rw [e]; simp⟩
    simp only [List.mem_cons, List.not_mem_nil, or_false] at h ⊢
    rcases h with rfl | rfl | rfl | rfl | rfl | rfl | rfl | rfl <;> simp
theorem for_part {G u : Option D} {N : VEnds} : ∀ (ds : List D) (ks : List Cs) (v : Option D), (∀ d ∈ ds, (∃ i, d = .int i) ∨ ∃ t, d = .str t) → ks.length + ds.length < 1000000 →
    (∀ v, N.nx [G, some (truesD true ((ds.foldl partK ks).map Sum.inr)), u, v]) → vForL (vName 3) lb_names_of0 ds N [G, some (truesD true (ks.map Sum.inr)), u, v]
  | [], ks, v, _, _, q => q v
  | d :: ds, ks, v, hd, hl, q => by
    rw [e_forU lb_names_of0.eq_1]
    rw [List.length_cons] at hl
    have hd' : ∀ e ∈ ds, (∃ i, e = .int i) ∨ ∃ t, e = .str t := fun e he => hd e (List.mem_cons_of_mem _ he)
    rcases hd d List.mem_cons_self with ⟨i, rfl⟩ | ⟨t, rfl⟩
    · simp! only []
      exact for_part ds ks _ hd' (by omega) q
    · simp! only []
      refine ⟨_, sg_mem t, ?_⟩
      by_cases h : t ∈ signs8
      · rw [decide_eq_true h, if_neg (by decide)]
        have e : partK ks (.str t) = ks := if_pos h
        rw [List.foldl_cons, e] at q
        exact for_part ds ks _ hd' (by omega) q
      · rw [decide_eq_false h, if_pos (by decide)]
        have e : partK ks (.str t) = addK ks t := if_neg h
        rw [List.foldl_cons, e] at q
        have l : (addK ks t).length ≤ ks.length + 1 := by unfold addK; split <;> simp
        refine ⟨_, (tru_put (k := .inr t) (by rw [List.length_map]; omega)).trans (by rw [mapK_add]), ?_⟩
        exact for_part ds (addK ks t) _ hd' (by omega) q
def partsN : Nd → List D
  | .sum x a s b _ => [.str x, opD a, .str s, opD b]
  | .test a s b y _ => [opD a, .str s, opD b, .int (y : Int)]
  | _ => []
theorem op_part (ks : List Cs) (a : Opd) (h : ∀ t ∈ txtsO a, t ∉ signs8) : partK ks (opD a) = ddK ks (txtsO a) := by
  cases a with
  | inl i => rfl
  | inr t => exact if_neg (h t List.mem_cons_self)
theorem ddK_app {α : Type} [DecidableEq α] : ∀ (xs ys : List α) (acc : List α), ddK acc (xs ++ ys) = ddK (ddK acc xs) ys
  | [], ys, acc => rfl
  | x :: xs, ys, acc => by rw [List.cons_append, ddK, ddK, ddK_app xs ys]
theorem nd_part (ks : List Cs) (x : Nd) (h : ∀ t ∈ txtsN x, t ∉ signs8) (h2 : ∀ s, sgnN x = some s → s ∈ signs8) : (partsN x).foldl partK ks = ddK ks (txtsN x) := by
  cases x with
  | sum y a s b to =>
    have e0 : partK ks (.str y) = addK ks y := if_neg (h y List.mem_cons_self)
    have e1 := fun ks => op_part ks a fun t ht => h t (List.mem_cons_of_mem _ (List.mem_append_left _ ht))
    have e2 := fun ks => op_part ks b fun t ht => h t (List.mem_cons_of_mem _ (List.mem_append_right _ ht))
    have e3 : ∀ ks, partK ks (.str s) = ks := fun ks => if_pos (h2 s rfl)
    show partK (partK (partK (partK ks (.str y)) (opD a)) (.str s)) (opD b) = _
    rw [e0, e1, e3, e2]
    show _ = ddK ks (y :: (txtsO a ++ txtsO b))
    rw [ddK, ddK_app]
  | test a s b y n =>
    have e1 := fun ks => op_part ks a fun t ht => h t (List.mem_append_left _ ht)
    have e2 := fun ks => op_part ks b fun t ht => h t (List.mem_append_right _ ht)
    have e3 : ∀ ks, partK ks (.str s) = ks := fun ks => if_pos (h2 s rfl)
    show partK (partK (partK (partK ks (opD a)) (.str s)) (opD b)) (.int (y : Int)) = _
    rw [e1, e3, e2]
    show _ = ddK ks (txtsO a ++ txtsO b)
    rw [ddK_app]
    rfl
  | fin => rfl
  | spin => rfl
theorem parts_flat (x : Nd) : ∀ d ∈ partsN x, (∃ i, d = .int i) ∨ ∃ t, d = .str t := by
  have o : ∀ a : Opd, (∃ i, opD a = .int i) ∨ ∃ t, opD a = .str t := fun a => by cases a with | inl i => exact .inl ⟨i, rfl⟩ | inr t => exact .inr ⟨t, rfl⟩
  intro d hd
  cases x with
  | sum y a s b to =>
    simp only [partsN, List.mem_cons, List.not_mem_nil, or_false] at hd
    rcases hd with rfl | rfl | rfl | rfl
    · exact .inr ⟨_, rfl⟩
    · exact o a
    · exact .inr ⟨_, rfl⟩
    · exact o b
  | test a s b y n =>
    simp only [partsN, List.mem_cons, List.not_mem_nil, or_false] at hd
    rcases hd with rfl | rfl | rfl | rfl
    · exact o a
    · exact .inr ⟨_, rfl⟩
    · exact o b
    · exact .inl ⟨_, rfl⟩
  | fin => cases hd
  | spin => cases hd
theorem parts_few (x : Nd) : (partsN x).length ≤ 4 := by cases x <;> simp [partsN]
theorem txts_few (x : Nd) : (txtsN x).length ≤ 4 := by
  have o : ∀ a : Opd, (txtsO a).length ≤ 1 := fun a => by cases a <;> simp [txtsO]
  cases x with
  | sum y a s b to => have := o a; have := o b; simp [txtsN]; omega
  | test a s b y n => have := o a; have := o b; simp [txtsN]; omega
  | fin => simp [txtsN]
  | spin => simp [txtsN]
theorem for_names {G : Option D} {N : VEnds} : ∀ (g : List Nd) (ks : List Cs) (u v : Option D), (∀ x ∈ g, (∀ t ∈ txtsN x, t ∉ signs8) ∧ ∀ s, sgnN x = some s → s ∈ signs8) → ks.length + 4 * g.length < 100000 →
    (∀ u v, N.nx [G, some (truesD true ((ddK ks (txtsG g)).map Sum.inr)), u, v]) → vForL (vName 2) lb_names_of1 (g.map ndD) N [G, some (truesD true (ks.map Sum.inr)), u, v]
  | [], ks, u, v, _, _, q => q u v
  | x :: g, ks, u, v, hg, hl, q => by
    rw [List.map_cons, e_forU lb_names_of1.eq_1]
    rw [List.length_cons] at hl
    obtain ⟨h1, h2⟩ := hg x List.mem_cons_self
    have e := nd_part ks x h1 h2
    have l := ddK_len (txtsN x) (acc := ks)
    have l4 := txts_few x
    have p4 := parts_few x
    have go : ∀ u v, vForL (vName 2) lb_names_of1 (g.map ndD) N [G, some (truesD true ((ddK ks (txtsN x)).map Sum.inr)), u, v] := fun u v => by
      refine for_names g _ u v (fun y hy => hg y (List.mem_cons_of_mem _ hy)) (by omega) fun u v => ?_
      have q := q u v
      rw [show txtsG (x :: g) = txtsN x ++ txtsG g from rfl, ddK_app] at q
      exact q
    simp! only [isFz_nd]
    have sl : sliceD (ndD x) (some 1) (some 5) = some (.tup (partsN x)) := by
      have e2 : sliceD (ndD x) (some 1) (some 5) = if isFzL (ndL x) = true then some (.tup (cutL (ndL x) (some 1) (some 5))) else none := rfl
      rw [e2, if_pos (isFzL_nd x)]
      cases x <;> rfl
    have pz : isFzL (partsN x) = true := by cases x <;> simp [partsN, isFzL, isFz, opD_fz]
    refine ⟨_, sl, _, rfl, pz, for_part (partsN x) ks v (parts_flat x) (by omega) fun v => ?_⟩
    rw [e]
    exact go _ _
theorem rd_names_of : Rd 1 [true] 4 sp_names_of t_names_of := by
  rintro ds Q Ex - ⟨⟨g, M⟩, rfl, ⟨hg, few⟩, q⟩
  have hg : NmG g M := hg
  have few : g.length ≤ 1000 := few
  have q : Q (.lst true (strsD (namesG g))) [.lst false (g.map ndD)] := q
  unfold t_names_of
  simp! only [isFzL_nds]
  refine for_names g [] none none (fun x hx => ⟨fun t ht => hg.off t (hg.mem x hx t ht), hg.sgn x hx⟩) (by simp; omega) fun u v => ?_
  simp! only [isFzL_nds]
  have lm := hg.len
  have few2 := hg.few
  have l2 : (ddK [] (txtsG g)).length = (namesG g).length := ((sortK_perm _).length_eq).symm
  exact ⟨true, _, _, ddK [] (txtsG g), rfl, tru_fzL, rfl, by omega, q⟩
theorem for_sources {G : Option D} {n : Nat} {f : Nat → List Nat} (hn : n < 64) (hf : ∀ t, (∀ x ∈ f t, x < n) ∧ (f t).length < 4000) {N : VEnds} : ∀ (ts : List Nat) (acc : List D) (u : Option D), acc.length + ts.length < 1000000 →
    (∀ u, N.nx [G, some (.lst true (acc ++ ts.map fun t => .lst false (natsD (asc (f t) n)))), u]) → vForL (vName 2) lb_sources_of0 (ts.map fun t => .lst false (natsD (f t))) N [G, some (.lst true acc), u]
  | [], acc, u, _, q => by
    have q := q u
    rw [List.map_nil, List.append_nil] at q
    exact q
  | t :: ts, acc, u, hl, q => by
    rw [List.map_cons, e_forU lb_sources_of0.eq_1]
    rw [List.length_cons] at hl
    simp! only [natsD_fz]
    refine e_sortSetW (hf t).1 hn (hf t).2 ?_
    simp! only [natsD_fz, natsD_frz]
    refine ⟨by omega, for_sources hn hf ts _ _ (by rw [List.length_append]; simp; omega) fun u => ?_⟩
    rw [List.append_assoc]
    exact q u
theorem rd_sources_of : Rd 1 [true] 3 sp_sources_of t_sources_of := by
  rintro ds Q Ex - ⟨g, rfl, ⟨hg, few⟩, q⟩
  have hg : GOk g := hg
  have few : g.length ≤ 62 := few
  have q : Q (.lst true (srcsD (srcG g))) [.lst false (g.map ndD)] := q
  unfold t_sources_of
  simp! only [isFzL_nds, c_comings]
  refine ⟨⟨by omega, hg.ok⟩, ?_⟩
  have hf : ∀ t, (∀ x ∈ comeG g t, x < g.length) ∧ (comeG g t).length < 4000 := fun t => ⟨fun x hx => (mem_comeRow.mp hx).1, by have := comeG_len g t; omega⟩
  refine for_sources (by omega) hf (List.range g.length) [] none (by simp; omega) fun u => ?_
  simp! only [isFzL_nds]
  have n0 := hg.pos
  have e0 : ((List.range g.length).map fun t => D.lst false (natsD (asc (comeG g t) g.length)))[0]? = some (.lst false (natsD (asc (comeG g 0) g.length))) := by
    rw [List.getElem?_map, List.getElem?_range n0]; rfl
  have hz : natsD (asc (comeG g 0) g.length) = (asc (comeG g 0) g.length).map fun j : Nat => D.int (j : Int) := rfl
  refine ⟨0, ixN_nat (by simpa using n0), _, getP_ix1 e0, ?_⟩
  simp! only [natsD_fz]
  have la : (asc (comeG g 0) g.length).length ≤ g.length := by
    have := List.length_filter_le (fun k => decide (k ∈ comeG g 0)) (List.range g.length)
    rw [List.length_range] at this
    exact this
  have lR : ((List.range g.length).map fun t => D.lst false (natsD (asc (comeG g t) g.length))).length = g.length := by simp
  refine ⟨by omega, _, (show (ixN _ ((0 : Nat) : Int)).map _ = _ by rw [lR, ixN_nat n0]; rfl), ?_⟩
  have fin : ((List.range g.length).map fun t => D.lst false (natsD (asc (comeG g t) g.length))).set 0 (.lst false (D.int (-1) :: natsD (asc (comeG g 0) g.length))) = srcsD (srcG g) := by
    refine List.ext_getElem? fun i => ?_
    unfold srcsD
    rw [List.getElem?_map, List.getElem?_set]
    have eq : ∀ t, natsD (asc (comeG g t) g.length) = intsD (((List.range g.length).filter fun j => decide (t ∈ glOf g j)).map fun j : Nat => (j : Int)) := fun t => by
      unfold natsD intsD asc
      rw [List.map_map]
      have : ((List.range g.length).filter fun k => decide (k ∈ comeG g t)) = (List.range g.length).filter fun j => decide (t ∈ glOf g j) := by
        refine List.filter_congr fun k hk => ?_
        rw [decide_eq_decide]
        unfold comeG
        rw [mem_comeRow]
        exact ⟨fun z => z.2, fun z => ⟨List.mem_range.mp hk, z⟩⟩
      rw [this]
      rfl
    by_cases hi : i < g.length
    · rw [srcG_at hi, List.getElem?_map, List.getElem?_range hi]
      by_cases z : 0 = i
      · subst z
        rw [if_pos rfl, if_pos (by rw [lR]; exact n0), if_pos rfl, eq 0]
        rfl
      · rw [if_neg z, if_neg fun w => z w.symm, List.nil_append]
        show some (D.lst false (natsD _)) = some (D.lst false _)
        rw [eq i]
    · have h1 : (srcG g)[i]? = none := List.getElem?_eq_none (by unfold srcG; simp; omega)
      have h2 : ((List.range g.length).map fun t => D.lst false (natsD (asc (comeG g t) g.length)))[i]? = none := List.getElem?_eq_none (by rw [lR]; omega)
      rw [h1, h2, if_neg (by omega)]
      rfl
  show Q (D.lst true (List.set _ 0 _)) _
  rw [fin]
  exact q
theorem rd_found_same : Rd 3 [true, true, false] 3 sp_found_same t_found_same := by
  rintro ds Q Ex - ⟨⟨μ, ks, js, x, v⟩, rfl, ⟨R, d⟩, q⟩
  have R : RepM μ ks js := R
  have d : DecM μ := d
  have q : Q (.int (rootM μ x v : Int)) [mksD false ks js, .str x, .int (v : Int)] := q
  unfold t_found_same
  simp! only [mks_fz]
  refine ⟨fun m ε => ∃ w : Nat, m = w ∧ rootM μ x w = rootM μ x v ∧ ε = [some (mksD false ks js), some (.str x), some (.int (w : Int))], ⟨v, v, rfl, rfl, rfl⟩, ?_⟩
  rintro m ε ⟨w, rfl, hr, rfl⟩
  simp! only [mks_fz]
  refine mks_mem R ?_
  cases e : μ x (m : Int) with
  | none =>
    have r := root_none e
    rw [r] at hr
    rw [if_neg (by simp)]
    rw [← hr] at q
    exact q
  | some w =>
    have lt := d _ _ _ e
    rw [if_pos (by simp)]
    unfold lb_found_same0
    simp! only [mks_fz]
    refine mks_ix R e ?_
    exact ⟨w, by omega, (root_some d e).symm.trans hr, rfl⟩
def someD (m : Bool) (ws : List Nat) : D := truesD m (ws.map fun w : Nat => (Sum.inl (w : Int) : Kc))
theorem inl_mem {ws : List Nat} {w : Nat} : (Sum.inl (w : Int) : Kc) ∈ ws.map (fun w : Nat => (Sum.inl (w : Int) : Kc)) ↔ w ∈ ws := by
  rw [List.mem_map]
  constructor
  · rintro ⟨y, hy, e⟩
    have := Sum.inl.inj e
    have : y = w := by omega
    exact this ▸ hy
  · exact fun h => ⟨w, h, rfl⟩
theorem some_add (ws : List Nat) (w : Nat) : addK (ws.map fun w : Nat => (Sum.inl (w : Int) : Kc)) (.inl (w : Int)) = (addK ws w).map fun w : Nat => (Sum.inl (w : Int) : Kc) := by
  unfold addK
  by_cases h : w ∈ ws
  · rw [if_pos h, if_pos (inl_mem.mpr h)]
  · rw [if_neg h, if_neg fun z => h (inl_mem.mp z), List.map_append]; rfl
theorem for_some {nm : List Cs} {S : List (List Int)} {V : Vst} {μ : Mks} {ks : List (List Kc)} {js : List Nat} (R : RepM μ ks js) (d : DecM μ) {x : Cs} (hx : x ∈ nm) {c k r0 o u9 u10 : Option D} {N : VEnds} : ∀ (r : List Int) (ws : List Nat) (u : Option D), (∀ s ∈ r, s = -1 ∨ (0 ≤ s ∧ s.toNat < V.B.length)) → ws.length + r.length < 100000 →
    (∀ u, N.nx [some (insV false nm S V), some (mksD true ks js), c, k, r0, some (.str x), o, some (someD true (ddK ws (r.map fun s => rootM μ x (verF V s x)))), u, u9, u10]) →
    vForL (vName 8) lb_joinings_spared0 (intsD r) N [some (insV false nm S V), some (mksD true ks js), c, k, r0, some (.str x), o, some (someD true ws), u, u9, u10]
  | [], ws, u, _, _, q => q u
  | s :: r, ws, u, hs, hl, q => by
    show vForL (vName 8) lb_joinings_spared0 (D.int s :: intsD r) N _
    rw [e_forU lb_joinings_spared0.eq_1]
    rw [List.length_cons] at hl
    simp! only [vSetN, vLend, wMet, insV_frz, mks_frz]
    refine ⟨⟨_, _, rfl, rfl⟩, c_Versions_version_from ⟨hs s List.mem_cons_self, hx⟩ ?_⟩
    simp! only []
    refine c_found_same ⟨R, d⟩ ⟨rfl, _, (tru_put (k := .inl (rootM μ x (verF V s x) : Int)) (by rw [List.length_map]; omega)).trans (by rw [some_add]), ?_⟩
    have l : (addK ws (rootM μ x (verF V s x))).length ≤ ws.length + 1 := by unfold addK; split <;> simp
    exact for_some R d hx r _ _ (fun t ht => hs t (List.mem_cons_of_mem _ ht)) (by omega) q
theorem lc_oth {a b c k r0 nx : Option D} {own : Nat} {s7 u8 u9 : Option D} {Q : List D → Ep → Prop} : ∀ (ws : List Nat) (acc : List Nat), acc.length + ws.length < 100000 →
    Q (natsD (acc ++ ws.filter fun v => decide (v ≠ own))) [a, b, c, k, r0, nx, some (.int (own : Int)), s7, u8, u9, none] →
    vLcL [10] (vName 10) lt_joinings_spared1 le_joinings_spared1 ((ws.map fun w : Nat => (Sum.inl (w : Int) : Kc)).map keyKD) (natsD acc) [a, b, c, k, r0, nx, some (.int (own : Int)), s7, u8, u9, none] Q
  | [], acc, _, q => by
    rw [List.filter_nil, List.append_nil] at q
    exact q
  | w :: ws, acc, hl, q => by
    show vLcL [10] (vName 10) lt_joinings_spared1 le_joinings_spared1 (D.int (w : Int) :: (ws.map fun w : Nat => (Sum.inl (w : Int) : Kc)).map keyKD) (natsD acc) _ Q
    rw [e_lcU2 le_joinings_spared1.eq_1 lt_joinings_spared1.eq_1]
    rw [List.length_cons] at hl
    simp! only []
    by_cases h : w = own
    · subst h
      rw [if_neg (by simp)]
      refine lc_oth ws acc (by omega) ?_
      rw [List.filter_cons_of_neg (by simp)] at q
      exact q
    · have ne : ¬((w : Int) = (own : Int)) := by omega
      rw [if_pos (by simp [ne])]
      refine ⟨by omega, ?_⟩
      have e : natsD acc ++ [D.int (w : Int)] = natsD (acc ++ [w]) := by unfold natsD; rw [List.map_append]; rfl
      rw [e]
      refine lc_oth ws (acc ++ [w]) (by rw [List.length_append]; simp; omega) ?_
      rw [List.filter_cons_of_pos (by simp [h])] at q
      rw [List.append_assoc]
      exact q
structure PassI (nm : List Cs) (S : List (List Int)) (V : Vst) (μ0 μ : Mks) (js : List Nat) (c : Bool) (Done : List (Nat × Cs)) : Prop where
  dec : DecM μ
  key : ∀ y i v, μ y i = some v → y ∈ nm ∧ ∃ k, manyS S k ∧ i = (rowAt V.A k y : Int)
  no : c = false → μ = μ0 ∧ ∀ p ∈ Done, FixAt μ0 S V p.2 p.1
  yes : c = true → openN nm S V μ < openN nm S V μ0
  few : js.length + openN nm S V μ ≤ 10000
  hist : HistM nm S V μ
theorem step_own {nm : List Cs} {S : List (List Int)} {V : Vst} (P : VerP nm S V) {μ0 μ : Mks} {ks : List (List Kc)} {js : List Nat} {c : Bool} {Done : List (Nat × Cs)} (R : RepM μ ks js) (I : PassI nm S V μ0 μ js c Done) {k : Nat} {r : List Int} (hr : S[k]? = some r) {x : Cs} (hx : x ∈ nm) {N : VEnds} {u5 u6 u7 u8 u9 : Option D}
    (q : ∀ μ' ks' js' c', RepM μ' ks' js' → PassI nm S V μ0 μ' js' c' (Done ++ [(k, x)]) → ∀ u6 u7 u8 u9, N.nx [some (insV false nm S V), some (mksD true ks' js'), some (.bl c'), some (.int (k : Int)), some (.lst false (intsD r)), some (.str x), u6, u7, u8, u9, none]) :
    lb_joinings_spared1 N [some (insV false nm S V), some (mksD true ks js), some (.bl c), some (.int (k : Int)), some (.lst false (intsD r)), some (.str x), u6, u7, u8, u9, none] := by
  have hk : k < V.A.length := by rw [P.la]; exact (List.getElem?_eq_some_iff.mp hr).1
  have hkS : k < S.length := (List.getElem?_eq_some_iff.mp hr).1
  have same : FixAt μ S V x k → ∀ u6 u7 u8 u9, N.nx [some (insV false nm S V), some (mksD true ks js), some (.bl c), some (.int (k : Int)), some (.lst false (intsD r)), some (.str x), u6, u7, u8, u9, none] := fun h => by
    refine q μ ks js c R ⟨I.dec, I.key, fun e => ⟨(I.no e).1, fun p hp => ?_⟩, I.yes, I.few, I.hist⟩
    rcases List.mem_append.mp hp with hp | hp
    · exact (I.no e).2 p hp
    · rw [List.mem_singleton.mp hp, ← (I.no e).1]; exact h
  unfold lb_joinings_spared1
  simp! only [insV_fz, vFldS]
  refine ⟨_, _, rfl, 3, rfl, _, rfl, _, ix_vers hk, ver_fz, _, ver_ix hx, rfl, ?_⟩
  simp! only [ints_fzL, ints_len, mks_frz]
  by_cases m : 1 < r.length
  · refine ite_yes (by omega) (mks_mem R ?_)
    cases e : μ x (rowAt V.A k x : Int) with
    | some w =>
      rw [if_neg (by simp)]
      exact same (fun r' hr' m' e' => by rw [e] at e'; cases e') _ _ _ _
    | none =>
      rw [if_pos (by simp)]
      have hsr : ∀ s ∈ r, s = -1 ∨ (0 ≤ s ∧ s.toNat < V.B.length) := fun s hs => by
        rcases (P.so.row k r hr).1 s hs with h | h
        · exact .inl h
        · exact .inr ⟨h.1, by rw [P.lb]; omega⟩
      have rl := (P.so.row k r hr).2.1
      have sf := P.so.few
      refine for_some R I.dec hx r [] u8 hsr (by simp; omega) fun u => ?_
      simp! only [vLcK]
      have wl := ddK_len (r.map fun s => rootM μ x (verF V s x)) (acc := ([] : List Nat))
      rw [List.length_nil, List.length_map] at wl
      refine ⟨true, _, _, rfl, ?_⟩
      refine lc_oth (ddK [] (r.map fun s => rootM μ x (verF V s x))) [] (by simp; omega) ?_
      have eo : [] ++ (ddK [] (r.map fun s => rootM μ x (verF V s x))).filter (fun v => decide (v ≠ rowAt V.A k x)) = othersAt μ V r x (rowAt V.A k x) := rfl
      rw [eo]
      obtain ⟨w, hw, hlt⟩ := others_pos P I.dec hr m x
      generalize hO : othersAt μ V r x (rowAt V.A k x) = O at hw
      simp! only [natsD_fz, natsD_frz]
      by_cases one : O.length = 1
      · have eO : O = [w] := by
          cases O with
          | nil => cases hw
          | cons a t =>
            cases t with
            | nil => rw [List.mem_singleton.mp hw]
            | cons b t => simp at one
        subst eO
        refine ite_yes (by simp [natsD]) ?_
        simp! only [natsD]
        have op := open_lt hkS hx e w
        have fw := I.few
        obtain ⟨ks', js', e1, R', l'⟩ := mks_put R (c := x) (i := (rowAt V.A k x : Int)) (v := w) (by omega)
        refine ⟨_, e1, ?_⟩
        refine q _ ks' js' true R' ⟨I.dec.put (by omega), fun y i v h => ?_, (fun z => nomatch z), fun _ => ?_, by omega, I.hist.put hx hr m e hO⟩ _ _ _ _
        · by_cases z : y = x ∧ i = (rowAt V.A k x : Int)
          · obtain ⟨rfl, rfl⟩ := z
            exact ⟨hx, k, ⟨r, hr, m⟩, rfl⟩
          · rw [Mks.put_ne z] at h
            exact I.key y i v h
        · cases c with
          | true => have := I.yes rfl; omega
          | false => rw [(I.no rfl).1] at op ⊢; exact op
      · refine ite_no (by omega) ?_
        refine same (fun r' hr' m' e' => ?_) _ _ _ _
        rw [hr] at hr'
        cases hr'
        rw [hO]
        have := List.length_pos_of_mem hw
        omega
  · refine ite_no (by omega) ?_
    exact same (fun r' hr' m' => by rw [hr] at hr'; cases hr'; exact absurd m' m) _ _ _ _
theorem for_owns {nm : List Cs} {S : List (List Int)} {V : Vst} (P : VerP nm S V) {μ0 : Mks} {k : Nat} {r : List Int} (hr : S[k]? = some r) {N : VEnds} : ∀ (xs : List Cs) (μ : Mks) (ks : List (List Kc)) (js : List Nat) (c : Bool) (Done : List (Nat × Cs)) (u5 u6 u7 u8 u9 : Option D), RepM μ ks js → PassI nm S V μ0 μ js c Done → (∀ x ∈ xs, x ∈ nm) →
    (∀ μ' ks' js' c', RepM μ' ks' js' → PassI nm S V μ0 μ' js' c' (Done ++ xs.map fun x => (k, x)) → ∀ u5 u6 u7 u8 u9, N.nx [some (insV false nm S V), some (mksD true ks' js'), some (.bl c'), some (.int (k : Int)), some (.lst false (intsD r)), u5, u6, u7, u8, u9, none]) →
    vForL (vName 5) lb_joinings_spared1 (strsD xs) N [some (insV false nm S V), some (mksD true ks js), some (.bl c), some (.int (k : Int)), some (.lst false (intsD r)), u5, u6, u7, u8, u9, none]
  | [], μ, ks, js, c, Done, u5, u6, u7, u8, u9, R, I, _, q => by
    rw [List.map_nil, List.append_nil] at q
    exact q μ ks js c R I _ _ _ _ _
  | x :: xs, μ, ks, js, c, Done, u5, u6, u7, u8, u9, R, I, hx, q => by
    show vName 5 (.str x) _ fun ε1 => lb_joinings_spared1 _ ε1
    simp! only []
    refine step_own P R I hr (hx x List.mem_cons_self) (u5 := u5) fun μ' ks' js' c' R' I' u6 u7 u8 u9 => ?_
    refine for_owns P hr xs μ' ks' js' c' (Done ++ [(k, x)]) _ u6 u7 u8 u9 R' I' (fun y hy => hx y (List.mem_cons_of_mem _ hy)) fun μ' ks' js' c' R' I' => ?_
    rw [List.append_assoc] at I'
    exact q μ' ks' js' c' R' I'
theorem for_nodes {nm : List Cs} {S : List (List Int)} {V : Vst} (P : VerP nm S V) {μ0 : Mks} {N : VEnds} : ∀ (m k : Nat) (μ : Mks) (ks : List (List Kc)) (js : List Nat) (c : Bool) (Done : List (Nat × Cs)) (u3 u4 u5 u6 u7 u8 u9 : Option D), k + m = S.length → RepM μ ks js → PassI nm S V μ0 μ js c Done → (∀ j, j < k → ∀ x ∈ nm, (j, x) ∈ Done) →
    (∀ μ' ks' js' c' Done', RepM μ' ks' js' → PassI nm S V μ0 μ' js' c' Done' → (∀ j, j < S.length → ∀ x ∈ nm, (j, x) ∈ Done') → ∀ u3 u4 u5 u6 u7 u8 u9, N.nx [some (insV false nm S V), some (mksD true ks' js'), some (.bl c'), u3, u4, u5, u6, u7, u8, u9, none]) →
    vForL (vNames [3, 4]) lb_joinings_spared2 ((enumD (srcsD S)).drop k) N [some (insV false nm S V), some (mksD true ks js), some (.bl c), u3, u4, u5, u6, u7, u8, u9, none]
  | 0, k, μ, ks, js, c, Done, u3, u4, u5, u6, u7, u8, u9, hk, R, I, hd, q => by
    have : k = S.length := by omega
    subst this
    rw [List.drop_eq_nil_of_le (by unfold enumD srcsD; simp)]
    exact q μ ks js c Done R I hd _ _ _ _ _ _ _
  | m + 1, k, μ, ks, js, c, Done, u3, u4, u5, u6, u7, u8, u9, hk, R, I, hd, q => by
    have lt : k < (enumD (srcsD S)).length := by unfold enumD srcsD; simp; omega
    have hr : S[k]? = some S[k] := List.getElem?_eq_getElem (by omega)
    have h2 : (enumD (srcsD S))[k]? = some (.tup [.int (k : Int), .lst false (intsD S[k])]) := by
      unfold enumD
      rw [List.getElem?_map, List.getElem?_zipIdx, srcs_at hr]
      simp
    have e := (List.getElem?_eq_some_iff.mp h2).2
    rw [List.drop_eq_getElem_cons lt, e, e_forU lb_joinings_spared2.eq_1]
    simp! only [ints_fzL, vFldS]
    refine ⟨_, _, rfl, 0, rfl, _, rfl, _, rfl, ?_⟩
    refine for_owns P hr nm μ ks js c Done _ _ _ _ _ R I (fun x hx => hx) fun μ' ks' js' c' R' I' u5 u6 u7 u8 u9 => ?_
    refine for_nodes P m (k + 1) μ' ks' js' c' _ _ _ _ _ _ _ _ (by omega) R' I' (fun j hj x hx => ?_) q
    rcases Nat.lt_or_ge j k with lt | ge
    · exact List.mem_append_left _ (hd j lt x hx)
    · have : j = k := by omega
      subst this
      exact List.mem_append_right _ (List.mem_map.mpr ⟨x, hx, rfl⟩)
theorem open_le (nm : List Cs) (S : List (List Int)) (V : Vst) (μ : Mks) : openN nm S V μ ≤ S.length * nm.length := by
  unfold openN
  refine Nat.le_trans List.countP_le_length ?_
  rw [List.length_flatMap]
  have : ((List.range S.length).map fun k => (nm.map fun x => (k, x)).length) = List.replicate S.length nm.length := by
    rw [List.eq_replicate_iff]
    refine ⟨by simp, fun b hb => ?_⟩
    obtain ⟨k, _, rfl⟩ := List.mem_map.mp hb
    simp
  rw [this]
  simp
theorem rd_joinings_spared : Rd 1 [true] 11 sp_joinings_spared t_joinings_spared := by
  rintro ds Q Ex - ⟨⟨nm, S, V⟩, rfl, P, q⟩
  have P : VerP nm S V := P
  have q : ∀ μ ks js, RepM μ ks js → SameP nm S V μ → Q (mksD true ks js) [insV false nm S V] := fun μ ks js h1 h2 => q _ ⟨μ, ks, js, rfl, h1, h2⟩
  have o62 : S.length * nm.length ≤ 62 * 60 := Nat.mul_le_mul P.so.few (by have := P.fewN; omega)
  unfold t_joinings_spared
  simp! only [VrA.f, insV_fz]
  refine ⟨fun m ε => ∃ (μ : Mks) (ks : List (List Kc)) (js : List Nat) (c : Bool) (u3 u4 u5 u6 u7 u8 u9 : Option D), ε = [some (insV false nm S V), some (mksD true ks js), some (.bl c), u3, u4, u5, u6, u7, u8, u9, none] ∧ RepM μ ks js ∧ DecM μ ∧ (∀ y i v, μ y i = some v → y ∈ nm ∧ ∃ k, manyS S k ∧ i = (rowAt V.A k y : Int)) ∧ js.length + openN nm S V μ ≤ 10000 ∧ HistM nm S V μ ∧ ((c = true ∧ m = openN nm S V μ + 1) ∨ (c = false ∧ m = 0 ∧ SameP nm S V μ)),
    ⟨openN nm S V (fun _ _ => none) + 1, fun _ _ => none, [], [], true, none, none, none, none, none, none, none, rfl, RepM.nil, (fun _ _ _ h => nomatch h), (fun _ _ _ h => nomatch h), by have := open_le nm S V fun _ _ => none; simp; omega, .nil, .inl ⟨rfl, rfl⟩⟩, ?_⟩
  rintro m ε ⟨μ, ks, js, c, u3, u4, u5, u6, u7, u8, u9, rfl, R, d, key, fw, hs, h⟩
  simp! only []
  cases c with
  | false =>
    rcases h with ⟨h, _⟩ | ⟨_, _, h⟩
    · cases h
    refine ite_no (by decide) ?_
    exact q μ ks js R h
  | true =>
    rcases h with ⟨_, h⟩ | ⟨h, _⟩
    · refine ite_yes rfl ?_
      unfold lb_joinings_spared3
      simp! only [vFldS]
      subst h
      refine ⟨_, _, rfl, 1, rfl, _, rfl, _, rfl, ?_⟩
      refine for_nodes P S.length 0 μ ks js false [] _ _ _ _ _ _ _ (by omega) R ⟨d, key, fun _ => ⟨rfl, (fun p hp => nomatch hp)⟩, (fun z => nomatch z), fw, hs⟩ (fun j hj => absurd hj (Nat.not_lt_zero _)) fun μ' ks' js' c' Done' R' I' all u3 u4 u5 u6 u7 u8 u9 => ?_
      cases c' with
      | true =>
        have lt := I'.yes rfl
        exact ⟨openN nm S V μ' + 1, by omega, μ', ks', js', true, _, _, _, _, _, _, _, rfl, R', I'.dec, I'.key, I'.few, I'.hist, .inl ⟨rfl, rfl⟩⟩
      | false =>
        obtain ⟨e, fx⟩ := I'.no rfl
        refine ⟨0, by omega, μ', ks', js', false, _, _, _, _, _, _, _, rfl, R', I'.dec, I'.key, I'.few, I'.hist, .inr ⟨rfl, rfl, I'.dec, I'.key, fun k x hx => ?_, I'.hist⟩⟩
        rw [e]
        intro r hr
        exact fx (k, x) (all k (List.getElem?_eq_some_iff.mp hr).1 x hx) r hr
    · cases h
def jpair (μ : Mks) (V : Vst) (x : Cs) (s : Int) : D := .tup [.int s, .int (rootM μ x (verF V s x) : Int)]
theorem for_rows {nm : List Cs} {S : List (List Int)} {V : Vst} {μ : Mks} {ks : List (List Kc)} {js : List Nat} (R : RepM μ ks js) (d : DecM μ) {x : Cs} (hx : x ∈ nm) {N : VEnds} {k f c w : Option D} : ∀ (r : List Int) (acc : List D) (u : Option D), (∀ s ∈ r, s = -1 ∨ (0 ≤ s ∧ s.toNat < V.B.length)) → acc.length + r.length < 1000000 →
    (∀ u, N.nx [some (insV false nm S V), some (mksD false ks js), k, f, c, some (.str x), w, some (.lst true (acc ++ r.map (jpair μ V x))), u]) →
    vForL (vName 8) lb_joinings_of0 (intsD r) N [some (insV false nm S V), some (mksD false ks js), k, f, c, some (.str x), w, some (.lst true acc), u]
  | [], acc, u, _, _, q => by
    have q := q u
    rw [List.map_nil, List.append_nil] at q
    exact q
  | s :: r, acc, u, hs, hl, q => by
    show vForL (vName 8) lb_joinings_of0 (D.int s :: intsD r) N _
    rw [e_forU lb_joinings_of0.eq_1]
    rw [List.length_cons] at hl
    simp! only [insV_fz, mks_fz, wMet, insV_frz]
    refine ⟨⟨_, _, rfl, rfl⟩, c_Versions_version_from ⟨hs s List.mem_cons_self, hx⟩ ⟨rfl, c_found_same ⟨R, d⟩ ⟨rfl, ?_⟩⟩⟩
    simp! only [insV_fz, mks_fz]
    refine ⟨by omega, for_rows R d hx r _ _ (fun s hs' => hs s (List.mem_cons_of_mem _ hs')) (by rw [List.length_append]; simp; omega) fun u => ?_⟩
    rw [List.append_assoc]
    exact q u
theorem for_jns {nm : List Cs} {S : List (List Int)} {V : Vst} (P : VerP nm S V) {μ : Mks} {ks : List (List Kc)} {js : List Nat} (R : RepM μ ks js) (d : DecM μ) {k : Nat} {r : List Int} (hr : S[k]? = some r) {N : VEnds} : ∀ (xs : List Cs) (acc : List D) (u v w z : Option D), (∀ x ∈ xs, x ∈ nm) → acc.length + xs.length < 1000000 →
    (∀ u v w z, N.nx [some (insV false nm S V), some (mksD false ks js), some (.int (k : Int)), some (.lst true (acc ++ jnsD true μ V r k xs)), some (.lst false (intsD r)), u, v, w, z]) →
    vForL (vName 5) lb_joinings_of1 (strsD xs) N [some (insV false nm S V), some (mksD false ks js), some (.int (k : Int)), some (.lst true acc), some (.lst false (intsD r)), u, v, w, z]
  | [], acc, u, v, w, z, _, _, q => by
    have q := q u v w z
    have e : jnsD true μ V r k [] = [] := rfl
    rw [e, List.append_nil] at q
    exact q
  | x :: xs, acc, u, v, w, z, hx, hl, q => by
    show vForL (vName 5) lb_joinings_of1 (D.str x :: strsD xs) N _
    rw [e_forU lb_joinings_of1.eq_1]
    rw [List.length_cons] at hl
    have hk : k < V.A.length := by rw [P.la]; exact (List.getElem?_eq_some_iff.mp hr).1
    have hm := hx x List.mem_cons_self
    simp! only [insV_fz, mks_fz, vFldS]
    refine ⟨_, _, rfl, 3, rfl, _, rfl, _, ix_vers hk, ver_fz, _, ver_ix hm, rfl, ?_⟩
    simp! only [insV_fz, mks_fz, ints_fzL, ints_len]
    have cons : jnsD true μ V r k (x :: xs) = if (decide (1 < r.length) && (μ x (rowAt V.A k x : Int)).isNone) = true then jnD true μ V r k x :: jnsD true μ V r k xs else jnsD true μ V r k xs := by
      unfold jnsD leftL
      rw [List.filter_cons]
      split <;> rfl
    have hsr : ∀ s ∈ r, s = -1 ∨ (0 ≤ s ∧ s.toNat < V.B.length) := fun s hs => by
      rcases (P.so.row k r hr).1 s hs with h | h
      · exact .inl h
      · exact .inr ⟨h.1, by rw [P.lb]; omega⟩
    have skip : (decide (1 < r.length) && (μ x (rowAt V.A k x : Int)).isNone) = false → ∀ u v w z, vForL (vName 5) lb_joinings_of1 (strsD xs) N [some (insV false nm S V), some (mksD false ks js), some (.int (k : Int)), some (.lst true acc), some (.lst false (intsD r)), u, v, w, z] := fun e u v w z => by
      refine for_jns P R d hr xs acc u v w z (fun y hy => hx y (List.mem_cons_of_mem _ hy)) (by omega) fun u v w z => ?_
      have q := q u v w z
      rw [cons, e] at q
      exact q
    by_cases m : 1 < r.length
    · refine ite_yes (by omega) ?_
      refine mks_mem R ?_
      cases e : μ x (rowAt V.A k x : Int) with
      | some w' =>
        rw [if_neg (by simp)]
        exact skip (by rw [e]; simp) _ _ _ _
      | none =>
        rw [if_pos (by simp)]
        have rl := (P.so.row k r hr).2.1
        refine for_rows R d hm r [] z hsr (by have := P.so.few; simp; omega) fun u => ?_
        simp! only []
        refine ⟨by omega, for_jns P R d hr xs _ _ _ _ _ (fun y hy => hx y (List.mem_cons_of_mem _ hy)) (by rw [List.length_append]; simp; omega) fun u v w z => ?_⟩
        have q := q u v w z
        rw [cons, e, if_pos (by simp [m])] at q
        rw [List.append_assoc]
        exact q
    · refine ite_no (by omega) ?_
      exact skip (by simp [m]) _ _ _ _
theorem rd_joinings_of : Rd 3 [true, true, true] 9 sp_joinings_of t_joinings_of := by
  rintro ds Q Ex - ⟨⟨⟨nm, S, V⟩, μ, ks, js, k, r⟩, rfl, ⟨P, R, d, hr⟩, q⟩
  have P : VerP nm S V := P
  have R : RepM μ ks js := R
  have d : DecM μ := d
  have hr : S[k]? = some r := hr
  have q : Q (.lst true (jnsD true μ V r k nm)) [insV false nm S V, mksD false ks js, .int (k : Int)] := q
  unfold t_joinings_of
  simp! only [VrA.f, insV_fz, mks_fz, vFldS]
  refine ⟨_, _, rfl, 1, rfl, _, rfl, _, ix_srcs hr, ints_fzD r, _, _, rfl, 0, rfl, _, rfl, _, rfl, ?_⟩
  refine for_jns P R d hr nm [] none none none none (fun x hx => hx) (by have := P.fewN; simp; omega) fun u v w z => ?_
  simp! only [insV_fz, mks_fz]
  exact q
theorem rd_operand_told : Rd 4 [true, true, true, true] 4 sp_operand_told t_operand_told := by
  rintro ds Q Ex - ⟨⟨⟨nm, S, V⟩, μ, ks, js, k, a⟩, rfl, ⟨R, d, hk, ha⟩, q⟩
  have R : RepM μ ks js := R
  have d : DecM μ := d
  have hk : k < V.A.length := hk
  have ha : ∀ t ∈ txtsO a, t ∈ nm := ha
  have q : Q (opTold μ V k a) [insV false nm S V, mksD false ks js, .int (k : Int), opD a] := q
  unfold t_operand_told
  cases a with
  | inl i =>
    simp! only [VrA.f, insV_fz, mks_fz, opD]
    exact q
  | inr t =>
    have ht := ha t List.mem_cons_self
    simp! only [VrA.f, insV_fz, mks_fz, opD, vFldS]
    refine ⟨_, _, rfl, 3, rfl, _, rfl, _, ix_vers hk, ver_fz, _, ver_ix ht, rfl, c_found_same ⟨R, d⟩ ⟨rfl, ?_⟩⟩
    simp! only [insV_fz, mks_fz]
    exact q
theorem rd_node_told : Rd 4 [true, true, true, true] 6 sp_node_told t_node_told := by
  rintro ds Q Ex - ⟨⟨⟨nm, S, V⟩, μ, ks, js, k, x⟩, rfl, ⟨R, d, hk, hk2, ht⟩, q⟩
  have R : RepM μ ks js := R
  have d : DecM μ := d
  have hk : k < V.A.length := hk
  have hk2 : k < V.B.length := hk2
  have ht : ∀ t ∈ txtsN x, t ∈ nm := ht
  have q : Q (ndTold μ V k x) [insV false nm S V, mksD false ks js, .int (k : Int), ndD x] := q
  unfold t_node_told
  cases x with
  | sum y a s b to =>
    have hy := ht y List.mem_cons_self
    have ha : ∀ t ∈ txtsO a, t ∈ nm := fun t h => ht t (List.mem_cons_of_mem _ (List.mem_append_left _ h))
    have hb : ∀ t ∈ txtsO b, t ∈ nm := fun t h => ht t (List.mem_cons_of_mem _ (List.mem_append_right _ h))
    simp! only [VrA.f, ndD, ndL, opD_fz, insV_fz, mks_fz]
    refine c_operand_told ⟨R, d, hk, ha⟩ ⟨rfl, ?_⟩
    simp! only [opD_fz, insV_fz, mks_fz, opTold_fz]
    refine c_operand_told ⟨R, d, hk, hb⟩ ⟨rfl, ?_⟩
    simp! only [opD_fz, insV_fz, mks_fz, opTold_fz, vFldS]
    refine ⟨_, _, rfl, 4, rfl, _, rfl, _, ix_vers hk2, ver_fz, _, ver_ix hy, rfl, ?_⟩
    exact q
  | test a s b y n =>
    have ha : ∀ t ∈ txtsO a, t ∈ nm := fun t h => ht t (List.mem_append_left _ h)
    have hb : ∀ t ∈ txtsO b, t ∈ nm := fun t h => ht t (List.mem_append_right _ h)
    simp! only [VrA.f, ndD, ndL, opD_fz, insV_fz, mks_fz]
    refine c_operand_told ⟨R, d, hk, ha⟩ ⟨rfl, ?_⟩
    simp! only [opD_fz, insV_fz, mks_fz, opTold_fz]
    refine c_operand_told ⟨R, d, hk, hb⟩ ⟨rfl, ?_⟩
    simp! only [opD_fz, insV_fz, mks_fz, opTold_fz]
    exact q
  | fin =>
    simp! only [VrA.f, ndD, ndL, insV_fz, mks_fz]
    exact q
  | spin =>
    simp! only [VrA.f, ndD, ndL, insV_fz, mks_fz]
    exact q
theorem for_once {nm : List Cs} {S : List (List Int)} {V : Vst} (P : VerP nm S V) {μ : Mks} {ks : List (List Kc)} {js : List Nat} (R : RepM μ ks js) (d : DecM μ) {G : List D} (hG : isFzL G = true) {N : VEnds} : ∀ (xs : List Nd) (k : Nat) (acc : List D) (u v : Option D), k + xs.length = S.length → acc.length + xs.length < 1000000 → (∀ x ∈ xs, ∀ t ∈ txtsN x, t ∈ nm) →
    (∀ u v, N.nx [some (.lst false G), some (insV false nm S V), some (mksD false ks js), some (.lst true (acc ++ xs.mapIdx fun i x => .tup [.lst true (jnsD true μ V ((S[k + i]?).getD []) (k + i) nm), ndTold μ V (k + i) x])), u, v]) →
    vForL (vNames [4, 5]) lb_once0 (xs.mapIdx fun i x => .tup [.int ((k + i : Nat) : Int), ndD x]) N [some (.lst false G), some (insV false nm S V), some (mksD false ks js), some (.lst true acc), u, v]
  | [], k, acc, u, v, _, _, _, q => by
    have q := q u v
    rw [List.mapIdx_nil, List.append_nil] at q
    exact q
  | x :: xs, k, acc, u, v, hk, hl, ht, q => by
    rw [List.mapIdx_cons, Nat.add_zero, e_forU lb_once0.eq_1]
    rw [List.length_cons] at hk hl
    have hr : S[k]? = some ((S[k]?).getD []) := by rw [List.getElem?_eq_getElem (show k < S.length by omega)]; rfl
    simp! only [isFz_nd, insV_fz, mks_fz]
    refine c_joinings_of ⟨P, R, d, hr⟩ ⟨rfl, ?_⟩
    simp! only [isFz_nd, insV_fz, mks_fz]
    refine c_node_told ⟨R, d, by rw [P.la]; omega, by rw [P.lb]; omega, ht x List.mem_cons_self⟩ ⟨rfl, ?_⟩
    simp! only [isFz_nd, insV_fz, mks_fz]
    have e : ∀ f : Nat → Nd → D, (xs.mapIdx fun i x => f (k + (i + 1)) x) = xs.mapIdx fun i x => f ((k + 1) + i) x := fun f => by
      congr 1
      funext i x
      rw [Nat.add_assoc, Nat.add_comm 1 i]
    rw [e fun j x => .tup [.int (j : Int), ndD x]]
    refine ⟨by omega, for_once P R d hG xs (k + 1) _ _ _ (by omega) (by rw [List.length_append]; simp; omega) (fun y hy => ht y (List.mem_cons_of_mem _ hy)) fun u v => ?_⟩
    have q := q u v
    rw [List.mapIdx_cons, Nat.add_zero, e fun j x => .tup [.lst true (jnsD true μ V ((S[j]?).getD []) j nm), ndTold μ V j x]] at q
    rw [List.append_assoc]
    exact q
theorem rd_once : Rd 1 [true] 6 sp_once t_once := by
  rintro ds Q Ex - ⟨⟨g, M⟩, rfl, ⟨hg, few, hM⟩, q⟩
  have hg : GOk g := hg
  have few : g.length ≤ 62 := few
  have hM : NmG g M := hM
  have q : ∀ μ, SameP (namesG g) (srcG g) (verG (srcG g) g) μ → Q (.lst true (tellD true μ (verG (srcG g) g) (srcG g) (namesG g) g)) [.lst false (g.map ndD)] := fun μ h => q _ ⟨μ, rfl, h⟩
  have so := src_ok hg few
  have sl := so.len
  have fw := hM.len
  have fw2 := hM.few
  have P : VerP (namesG g) (srcG g) (verG (srcG g) g) := verP_of so (namesG_nodup g) (by omega)
  unfold t_once
  simp! only [isFzL_nds, vNew]
  refine c_Versions_init ⟨hg, few, hM⟩ ⟨rfl, _, _, rfl, rfl, ?_⟩
  simp! only [isFzL_nds, insV_frz, insV_fz]
  refine c_joinings_spared P fun μ ks js R h => ⟨rfl, ?_⟩
  simp! only [isFzL_nds, insV_fz, mks_frz]
  rw [enum_idx]
  refine for_once P R h.dec (isFzL_nds g) g 0 [] none none (by rw [sl]; omega) (by simp; omega) (fun x hx t ht => namesG_mem.mpr ⟨x, hx, ht⟩) fun u v => ?_
  simp! only [isFzL_nds, insV_fz, mks_fz]
  have q := q μ h
  unfold tellD at q
  simpa using q
theorem rd_Lcell : Rd 2 [true, true] 2 sp_Lcell t_Lcell := by
  rintro ds Q Ex hl ⟨⟨ns, k⟩, rfl, h0, q⟩
  have q : Q (.int (cellI ns k)) [scriptD ns, .int k] := q
  have h0 : 0 ≤ k := h0
  unfold t_Lcell
  simp! only [script_fz, script_len]
  unfold cellI at q
  by_cases h : k < ns.length
  · rw [if_pos h]
    unfold scriptD
    simp! only [List.length_map]
    have hk : k.toNat < ns.length := by omega
    rw [ixN_pos h0 h]
    refine ⟨.int ns[k.toNat], by simp [hk], rfl, ?_⟩
    rw [List.getElem?_eq_getElem hk] at q
    exact q
  · rw [if_neg h]
    rw [List.getElem?_eq_none (by omega)] at q
    exact q
theorem rd_Lmixed : Rd 2 [true, true] 3 sp_Lmixed t_Lmixed := by
  rintro ds Q Ex hl ⟨⟨c, k⟩, rfl, hk, q⟩
  unfold t_Lmixed
  simp! only []
  have hk : k.natAbs < 1125899906842624 := hk
  refine ⟨.inl (.inr (by omega)), ?_, q⟩
  have h1 := Int.emod_nonneg (c % 2147483647 * 48271 + 7919 * k * k + 104729) (show (2147483647 : Int) ≠ 0 by decide)
  have h2 := Int.emod_lt_of_pos (c % 2147483647 * 48271 + 7919 * k * k + 104729) (show (0 : Int) < 2147483647 by decide)
  exact .inl (.inl (by omega))
theorem rd_Lgreat : Rd 1 [true] 1 sp_Lgreat t_Lgreat := by
  rintro ds Q Ex hl ⟨n, rfl, hn, q⟩
  unfold t_Lgreat
  simp! only []
  exact ⟨big_mul hn (by decide), q⟩
theorem rd_Lfar : Rd 4 [true, true, true, true] 5 sp_Lfar t_Lfar := by
  rintro ds Q Ex hl ⟨⟨n, k, m, z⟩, rfl, ⟨h0, h1, h2⟩, q⟩
  have h0 : 0 ≤ k := h0
  have h1 : k < m := h1
  have h2 : m < 1000000 := h2
  have q : ∀ i : Int, 0 ≤ i → i < m → Q (.int i) [.int n, .int k, .int m, .int z] := fun i i0 i1 => by
    obtain ⟨to, rfl⟩ := Int.eq_ofNat_of_zero_le i0
    exact q _ ⟨to, rfl, i1⟩
  unfold t_Lfar
  simp! only []
  have hm : m - k ≠ 0 := by omega
  have md : ∀ i j : Int, 0 < j → 0 ≤ i % j ∧ i % j < j := fun i j h => ⟨Int.emod_nonneg i (by omega), Int.emod_lt_of_pos i h⟩
  split
  · rw [pmod_pos (by omega)]
    refine ⟨hm, ?_⟩
    have h3 := md (n / 32768) (m - k) (by omega)
    split
    · exact q _ (by omega) (by assumption)
    · have h4 := md (n / 64) 2 (by decide)
      have : n / 64 % 2 = 0 ∨ n / 64 % 2 = 1 := by omega
      rcases this with e | e <;> rw [e]
      · exact ⟨_, rfl, rfl, q 0 (by omega) (by omega)⟩
      · exact ⟨_, rfl, rfl, q k h0 h1⟩
  · have mn : Q (D.int (min (k + 1 + n / 128 % 3) (m - 1))) [.int n, .int k, .int m, .int z] := q _ (by have := md (n / 128) 3 (by decide); omega) (by omega)
    have last : Q (D.int (n / 32768 % m)) [.int n, .int k, .int m, .int z] := q _ (md _ _ (by omega)).1 (md _ _ (by omega)).2
    have four : ∀ P : D → Prop, (∀ j : Int, j = 1 ∨ j = 2 ∨ j = 4 ∨ j = 8 → P (.int j)) → ∃ d, ((ixN 4 (n / 128 % 4)).bind fun j => [D.int 1, D.int 2, D.int 4, D.int 8][j]?) = some d ∧ isFz d = true ∧ P d := fun P hP => by
      have := md (n / 128) 4 (by decide)
      have : n / 128 % 4 = 0 ∨ n / 128 % 4 = 1 ∨ n / 128 % 4 = 2 ∨ n / 128 % 4 = 3 := by omega
      rcases this with e | e | e | e <;> rw [e]
      · exact ⟨_, rfl, rfl, hP 1 (by simp)⟩
      · exact ⟨_, rfl, rfl, hP 2 (by simp)⟩
      · exact ⟨_, rfl, rfl, hP 4 (by simp)⟩
      · exact ⟨_, rfl, rfl, hP 8 (by simp)⟩
    rw [pmod_pos (show 0 < m by omega)]
    have hm0 : m ≠ 0 := by omega
    repeat' split
    all_goals first | exact mn | exact ⟨hm0, last⟩ | skip
    all_goals
      refine four _ fun j hj => ?_
      rcases hj with rfl | rfl | rfl | rfl <;> (simp! only []; exact q _ (by omega) (by omega))
theorem four_of : ∀ d ∈ [D.str [120], D.str [121], D.str [122, 49], D.str [122]], ∃ t : Cs, t ∈ four ∧ d = .str t := by
  intro d hd
  simp at hd
  rcases hd with rfl | rfl | rfl | rfl <;> exact ⟨_, by decide, rfl⟩
theorem opd_four {s : D} {i : Int} (h : ∃ t : Cs, t ∈ four ∧ s = .str t) : ∀ d ∈ [s, .int i], ∃ a : Opd, (a.good = true ∧ ∀ t ∈ txtsO a, t ∈ four) ∧ d = opD a := by
  obtain ⟨t, ht, rfl⟩ := h
  intro d hd
  simp at hd
  rcases hd with rfl | rfl
  · refine ⟨.inr t, ⟨?_, fun u hu => by rw [List.mem_singleton.mp hu]; exact ht⟩, rfl⟩
    show Cs.good t = true
    simp [four] at ht
    rcases ht with rfl | rfl | rfl | rfl <;> decide
  · exact ⟨.inl i, ⟨rfl, (fun u hu => nomatch hu)⟩, rfl⟩
theorem four_good {t : Cs} (ht : t ∈ four) : Cs.good t = true := by
  simp [four] at ht
  rcases ht with rfl | rfl | rfl | rfl <;> decide
theorem in_sum {x s : Cs} {a b : Opd} {to : Nat} (hx : x ∈ four) (ha : ∀ t ∈ txtsO a, t ∈ four) (hb : ∀ t ∈ txtsO b, t ∈ four) (hs : s ∈ signs8) : NdIn four (.sum x a s b to) := ⟨fun t ht => by
  rcases List.mem_cons.mp ht with rfl | ht
  · exact hx
  · rcases List.mem_append.mp ht with ht | ht
    · exact ha t ht
    · exact hb t ht, fun u hu => by cases hu; exact hs⟩
theorem in_test {s : Cs} {a b : Opd} {y n : Nat} (ha : ∀ t ∈ txtsO a, t ∈ four) (hb : ∀ t ∈ txtsO b, t ∈ four) (hs : s ∈ signs8) : NdIn four (.test a s b y n) := ⟨fun t ht => by
  rcases List.mem_append.mp ht with ht | ht
  · exact ha t ht
  · exact hb t ht, fun u hu => by cases hu; exact hs⟩
theorem rd_Lnode : Rd 4 [true, true, true, true] 12 sp_Lnode t_Lnode := by
  rintro ds Q Ex hl ⟨⟨c, k, m, z⟩, rfl, ⟨hb, h0, h1, h2⟩, q⟩
  have hb : Builtin.Int.intBits c ≤ 1048576 := hb
  have h0 : 0 ≤ k := h0
  have h1 : k < m := h1
  have h2 : m < 1000000 := h2
  obtain ⟨M, rfl⟩ := Int.eq_ofNat_of_zero_le (show 0 ≤ m by omega)
  have q : ∀ x : Nd, x.ok M → x.good = true → NdIn four x → Q (ndD x) [.int c, .int k, .int (M : Int), .int z] := fun x a b c => q _ ⟨x, rfl, by simpa using a, b, c⟩
  obtain ⟨m0, m1⟩ := mixed_lt c k
  have bc : Builtin.Int.intBits (c + mixed c k) ≤ 1048600 := Nat.le_trans (bits_add hb (by omega) (by decide)) (by decide)
  obtain ⟨near, hnear⟩ := Int.eq_ofNat_of_zero_le (show 0 ≤ min (k + 1) ((M : Int) - 1) by omega)
  have near1 : near < M := by omega
  unfold t_Lnode
  simp! only [c_Lmixed]
  refine ⟨by omega, ix_ex (by omega) (by first | omega | (simp only [List.length_cons, List.length_nil]; omega)) fun d1 hd1 => ?_⟩
  obtain ⟨t1, g1, rfl⟩ := four_of d1 hd1
  refine ⟨rfl, ?_⟩
  try simp! only []
  refine ix_ex (by omega) (by first | omega | (simp only [List.length_cons, List.length_nil]; omega)) fun d2 hd2 => ?_
  obtain ⟨a, ga, rfl⟩ := opd_four ⟨t1, g1, rfl⟩ d2 hd2
  refine ⟨opD_fz a, ?_⟩
  refine ix_ex (by omega) (by first | omega | (simp only [List.length_cons, List.length_nil]; omega)) fun d3 hd3 => ?_
  obtain ⟨t3, g3, rfl⟩ := four_of d3 hd3
  refine ⟨rfl, ?_⟩
  simp! only [c_Lgreat]
  refine ⟨bc, ix_ex (by omega) (by first | omega | (simp only [List.length_cons, List.length_nil]; omega)) fun d4 hd4 => ?_⟩
  obtain ⟨b, gb, rfl⟩ := opd_four ⟨t3, g3, rfl⟩ d4 hd4
  refine ⟨opD_fz b, ?_⟩
  simp! only [c_Lfar]
  refine ⟨⟨h0, h1, h2⟩, fun to hto => ?_⟩
  have hto : to < M := by omega
  rw [hnear]
  try simp! only []
  split
  · refine ix_ex (by omega) (by first | omega | (simp only [List.length_cons, List.length_nil]; omega)) fun d5 hd5 => ?_
    have : ∃ t : Cs, t ∈ signs8 ∧ d5 = .str t := by
      simp at hd5
      rcases hd5 with rfl | rfl | rfl | rfl | rfl | rfl <;> exact ⟨_, by decide, rfl⟩
    obtain ⟨t5, g5, rfl⟩ := this
    refine ⟨rfl, ?_⟩
    try simp! only []
    refine ix_ex (by omega) (by first | omega | (simp only [List.length_cons, List.length_nil]; omega)) fun d6 hd6 => ?_
    obtain ⟨t6, g6, rfl⟩ := four_of d6 hd6
    refine ⟨rfl, ?_⟩
    try simp! only [opD_fz]
    refine ix_ex (by omega) (by first | omega | (simp only [List.length_cons, List.length_nil]; omega)) fun d7 hd7 => ?_
    obtain ⟨to2, hto2, rfl⟩ := near4 near1 hto d7 hd7
    refine ⟨rfl, ?_⟩
    try simp! only []
    exact q (.sum t6 a t5 b to2) (fun g hg => by simp [goals] at hg; subst hg; exact hto2) (by simp [Nd.good, four_good g6, ga.1, sgn_good g5, gb.1]) (in_sum g6 ga.2 gb.2 g5)
  · split
    · simp! only [c_Lfar]
      refine ⟨⟨h0, h1, h2⟩, fun to2 hto2 => ?_⟩
      have hto2 : to2 < M := by omega
      refine ix_ex (by omega) (by first | omega | (simp only [List.length_cons, List.length_nil]; omega)) fun d7 hd7 => ?_
      obtain ⟨no, hno, rfl⟩ := near4 near1 hto2 d7 hd7
      refine ⟨rfl, ?_⟩
      try simp! only [opD_fz]
      refine ix_ex (by omega) (by first | omega | (simp only [List.length_cons, List.length_nil]; omega)) fun d5 hd5 => ?_
      have : ∃ t : Cs, t ∈ signs8 ∧ d5 = .str t := by
        simp at hd5
        rcases hd5 with rfl | rfl <;> exact ⟨_, by decide, rfl⟩
      obtain ⟨t5, g5, rfl⟩ := this
      refine ⟨rfl, ?_⟩
      try simp! only [opD_fz]
      exact q (.test a t5 b to no) (fun g hg => by simp [goals] at hg; rcases hg with rfl | rfl; exact hno; exact hto) (by simp [Nd.good, ga.1, sgn_good g5, gb.1]) (in_test ga.2 gb.2 g5)
    · simp! only []
      refine ix_ex (by omega) (by first | omega | (simp only [List.length_cons, List.length_nil]; omega)) fun d5 hd5 => ?_
      simp at hd5
      rcases hd5 with rfl | rfl
      · exact ⟨rfl, by (try simp! only []); exact q .fin (fun g hg => by simp [goals] at hg) rfl ⟨(fun t ht => nomatch ht), (fun u hu => nomatch hu)⟩⟩
      · exact ⟨rfl, by (try simp! only []); exact q .spin (fun g hg => by simp [goals] at hg) rfl ⟨(fun t ht => nomatch ht), (fun u hu => nomatch hu)⟩⟩
theorem rd_Lgoals : Rd 1 [true] 1 sp_Lgoals t_Lgoals := by
  rintro ds Q Ex hl ⟨x, rfl, _, q⟩
  have q : Q (.lst true (natsD (goals x))) [ndD x] := q
  unfold t_Lgoals
  cases x <;> (unfold ndD ndL at q ⊢; simp! only [opD_fz]; exact q)
def trD (p : Nat × Nat) : D := .tup [.int (p.1 : Int), .int (p.2 : Int)]
theorem trD_fz (t : List (Nat × Nat)) : isFzL (t.map trD) = true := by rw [isFzL_all]; simp [trD, isFz, isFzL]
theorem trD_frz (t : List (Nat × Nat)) : frzL (t.map trD) = t.map trD := frzL_id (trD_fz t)
theorem trD_ok (t : List (Nat × Nat)) : okD 64 (.lst false (t.map trD)) = true := by
  show okDL 63 (t.map trD) = true
  rw [okDL_all, List.all_map]
  simp [trD, okD, okDL]
theorem deqL_nil (t : List (Nat × Nat)) : deqL (t.map trD) [] = t.isEmpty := by cases t <;> rfl
theorem deq_lst {m n : Bool} {xs ys : List D} : deq (.lst m xs) (.lst n ys) = deqL xs ys := rfl
def jOrd (raw : List Nd) (m : Nat) (ε : Ep) : Prop := ∃ (s : Wst) (x y z : Option D), WInvS (glOf raw) raw.length 0 s ∧ wmu (glOf raw) raw.length s ≤ m ∧ (wrun (glOf raw) m s).done.reverse = orderOf (glOf raw) raw.length ∧
    ε = [some (.lst false (raw.map ndD)), some (.lst true (natsD s.begun)), some (.lst true (s.trail.reverse.map trD)), some (.lst true (natsD s.done)), x, y, z]
theorem rd_Lorder : Rd 1 [true] 7 sp_Lorder t_Lorder := by
  rintro ds Q Ex hl ⟨raw, rfl, R, q⟩
  have q : Q (.lst true (natsD (orderOf (glOf raw) raw.length))) [.lst false (raw.map ndD)] := q
  have gl_lt : ∀ x < raw.length, ∀ g ∈ glOf raw x, g < raw.length := fun x hx g hgx => by
    unfold glOf at hgx
    rw [List.getElem?_eq_getElem hx] at hgx
    exact R.ok _ (List.getElem_mem hx) g hgx
  unfold t_Lorder
  simp! only []
  refine ⟨jOrd raw, ⟨wfuel (glOf raw) raw.length, ⟨[0], [(0, 0)], []⟩, none, none, none, WInvS.start R.pos, wmu_start R.pos, rfl, rfl⟩, ?_⟩
  rintro m ε ⟨s, x, y, z, I, hm, hf, rfl⟩
  obtain ⟨b, t, d⟩ := s
  simp! only [trD_frz, deq_lst, deqL_nil]
  refine ⟨.inr ⟨trD_ok _, rfl⟩, ?_⟩
  cases t with
  | nil =>
    have hd : (wrun (glOf raw) m ⟨b, [], d⟩).done = d := by cases m <;> rfl
    rw [hd] at hf
    rw [if_neg (by simp)]
    simp! only [natsD_fz, natsD_rev]
    rw [hf]
    exact q
  | cons p t =>
    obtain ⟨h, k⟩ := p
    rw [if_pos (by simp)]
    obtain ⟨m, rfl⟩ : ∃ m', m = m' + 1 := ⟨m - 1, by
      have := wmu_step gl_lt I (by simp)
      omega⟩
    have st := wmu_step gl_lt I (by simp)
    have In := I.step gl_lt
    have hr : wrun (glOf raw) (m + 1) ⟨b, (h, k) :: t, d⟩ = wrun (glOf raw) m (wstep (glOf raw) ⟨b, (h, k) :: t, d⟩) := rfl
    rw [hr] at hf
    have hh : h < raw.length := I.rng h ((I.mem h).mpr (by simp))
    obtain ⟨x, hx⟩ : ∃ x, raw[h]? = some x := ⟨_, List.getElem?_eq_getElem hh⟩
    have gx : glOf raw h = goals x := by unfold glOf; rw [hx]
    have kle : k ≤ (goals x).length := by rw [← gx]; exact I.le (h, k) (by simp)
    have all := nodup_len I.nd (fun y hy => I.rng y ((I.mem y).mpr hy))
    simp only [List.length_append, List.length_map, List.length_cons] at all
    have few := R.few
    have done : ∀ (s' : Wst) (x y z : Option D), s' = wstep (glOf raw) ⟨b, (h, k) :: t, d⟩ → ∃ m', m' < m + 1 ∧ jOrd raw m' [some (.lst false (raw.map ndD)), some (.lst true (natsD s'.begun)), some (.lst true (s'.trail.reverse.map trD)), some (.lst true (natsD s'.done)), x, y, z] := fun s' x y z e => by
      subst e
      exact ⟨m, by omega, _, x, y, z, In, by omega, hf, rfl⟩
    have et : ((h, k) :: t).reverse.map trD = t.reverse.map trD ++ [.tup [.int (h : Int), .int (k : Int)]] := by
      rw [List.reverse_cons, List.map_append]
      rfl
    rw [et]
    unfold lb_Lorder0
    simp! only [ix_nds hx, c_Lgoals, natsD_frz, natsD_len, natsD_app]
    cases e : (goals x)[k]? with
    | none =>
      have hk : k = (goals x).length := by
        have := List.getElem?_eq_none_iff.mp e
        omega
      subst hk
      rw [if_pos rfl]
      refine ⟨by omega, ?_⟩
      exact done ⟨b, t, d ++ [h]⟩ _ _ _ (wstep_none (by rw [gx]; exact e)).symm
    | some g =>
      have kl := (List.getElem?_eq_some_iff.mp e).1
      rw [if_neg (by omega)]
      have ws := wstep_some (gl := glOf raw) (b := b) (h := h) (t := t) (d := d) (k := k) (g := g) (by rw [gx]; exact e)
      simp! only [ix_nats e, vmem_nats, decide_eq_false_iff_not]
      refine ⟨by first | omega | (simp <;> omega), ?_⟩
      have e1 : (k : Int) + 1 = ((k + 1 : Nat) : Int) := by omega
      have el : ∀ (a b : Nat) (ys : List (Nat × Nat)), ys.map trD ++ [.tup [.int (a : Int), .int (b : Int)]] = (ys ++ [(a, b)]).map trD := fun a b ys => by rw [List.map_append]; rfl
      have bl : b.length ≤ raw.length := nodup_len I.nb I.rng
      rw [e1, el, ← List.reverse_cons]
      split
      · rename_i hg
        rw [if_neg (by simpa using hg)] at ws
        refine ⟨by omega, by first | omega | (simp <;> omega), ?_⟩
        rw [natsD_app]
        have := el g 0 ((h, k + 1) :: t).reverse
        rw [show ((0 : Nat) : Int) = 0 from rfl] at this
        rw [this, ← List.reverse_cons]
        exact done ⟨b ++ [g], (g, 0) :: (h, k + 1) :: t, d⟩ _ _ _ ws.symm
      · rename_i hg
        rw [if_pos (by simpa using hg)] at ws
        exact done ⟨b, (h, k + 1) :: t, d⟩ _ _ _ ws.symm
theorem idx_nats {os : List Nat} {y : Nat} (h : y ∈ os) : (natsD os).findIdx? (fun z => deq z (.int (y : Int))) = some (os.idxOf y) := by
  induction os with
  | nil => cases h
  | cons a os ih =>
    show (D.int (a : Int) :: natsD os).findIdx? _ = _
    rw [List.findIdx?_cons, deq_i, List.idxOf_cons]
    by_cases e : a = y
    · subst e
      simp
    · have h2 : ((a : Int) = (y : Int)) = False := by
        apply eq_false
        omega
      have h3 : (a == y) = false := by rw [beq_eq_false_iff_ne]; exact e
      rw [h3]
      simp only [h2, decide_false, cond_false]
      rw [ih (by rcases List.mem_cons.mp h with h | h; exact absurd h.symm e; exact h)]
      rfl
theorem idxAt_nats {os : List Nat} {y : Nat} (h : y ∈ os) : idxAt (natsD os) (.int (y : Int)) = some (os.idxOf y) := idx_nats h
theorem idxOk_nats {os : List Nat} {y : Nat} {m : Bool} : idxOk m (natsD os) (.int (y : Int)) ↔ True := ⟨fun _ => trivial, fun _ => .inl (by rw [natsD_flat]; rfl)⟩
theorem loop_Lgraph {raw : List Nd} (R : RawOk raw) {os : List Nat} {st : Nat} (O : OrdOk (glOf raw) raw.length st os) {N : VEnds} : ∀ (xs : List Nat) (acc : List Nd) (a b : Option D), (∀ x ∈ xs, x ∈ os) → acc.length + xs.length ≤ 100000 →
    (∀ a b, N.nx [some (.lst false (raw.map ndD)), some (.lst false (natsD os)), some (.lst true ((acc ++ xs.map fun o => ((raw[o]?).getD .fin).ren fun x => os.idxOf x).map ndD)), a, b]) →
    vForL (vName 3) lb_Lgraph0 (natsD xs) N [some (.lst false (raw.map ndD)), some (.lst false (natsD os)), some (.lst true (acc.map ndD)), a, b]
  | [], acc, a, b, _, _, k => by
    have := k a b
    rw [List.map_nil, List.append_nil] at this
    exact this
  | o :: xs, acc, a, b, hx, hl, k => by
    show vForL (vName 3) lb_Lgraph0 (D.int (o : Int) :: natsD xs) N _
    rw [e_forU lb_Lgraph0.eq_1]
    have ho := hx o List.mem_cons_self
    obtain ⟨nd, hnd⟩ : ∃ x, raw[o]? = some x := ⟨_, List.getElem?_eq_getElem (O.rng o ho)⟩
    have gx : glOf raw o = goals nd := by unfold glOf; rw [hnd]
    have hg : ∀ g ∈ goals nd, g ∈ os := fun g hg => O.closed o ho g (by rw [gx]; exact hg)
    have hl : acc.length + (xs.length + 1) ≤ 100000 := hl
    have rest := fun (x : Nd) (e : x = nd.ren fun x => os.idxOf x) a b => loop_Lgraph R O (N := N) xs (acc ++ [x]) a b (fun y hy => hx y (List.mem_cons_of_mem _ hy)) (by first | omega | (simp <;> omega)) (fun a b => by
      subst e
      have := k a b
      rw [List.map_cons, hnd] at this
      rw [List.append_assoc]
      exact this)
    have ea : ∀ x : Nd, acc.map ndD ++ [ndD x] = (acc ++ [x]).map ndD := fun x => by rw [List.map_append]; rfl
    simp! only [ix_nds hnd]
    cases nd with
    | sum x p s q to =>
      unfold ndD ndL
      simp! only [idxOk_nats, idxAt_nats (hg to (by simp [goals]))]
      refine ⟨by first | omega | (simp <;> omega), ?_⟩
      exact ea (.sum x p s q (os.idxOf to)) ▸ rest (.sum x p s q (os.idxOf to)) rfl _ _
    | test p s q y n =>
      unfold ndD ndL
      simp! only [idxOk_nats, idxAt_nats (hg y (by simp [goals])), idxAt_nats (hg n (by simp [goals]))]
      refine ⟨by first | omega | (simp <;> omega), ?_⟩
      exact ea (.test p s q (os.idxOf y) (os.idxOf n)) ▸ rest (.test p s q (os.idxOf y) (os.idxOf n)) rfl _ _
    | fin =>
      unfold ndD ndL
      simp! only []
      refine ⟨by first | omega | (simp <;> omega), ?_⟩
      exact ea .fin ▸ rest .fin rfl _ _
    | spin =>
      unfold ndD ndL
      simp! only []
      refine ⟨by first | omega | (simp <;> omega), ?_⟩
      exact ea .spin ▸ rest .spin rfl _ _
theorem raw_gl {raw : List Nd} (R : RawOk raw) : ∀ x < raw.length, ∀ g ∈ glOf raw x, g < raw.length := fun x hx g hgx => by
  unfold glOf at hgx
  rw [List.getElem?_eq_getElem hx] at hgx
  exact R.ok _ (List.getElem_mem hx) g hgx
theorem rd_Lgraph : Rd 1 [true] 5 sp_Lgraph t_Lgraph := by
  rintro ds Q Ex hl ⟨raw, rfl, R, q⟩
  have q : Q (.lst true ((graphOf raw).map ndD)) [.lst false (raw.map ndD)] := q
  have O := order_ok (gl := glOf raw) R.pos (raw_gl R)
  unfold t_Lgraph
  simp! only [c_Lorder]
  refine ⟨R, ?_⟩
  refine loop_Lgraph R O _ [] _ _ (fun _ h => h) (by have h1 : (orderOf (glOf raw) raw.length).length ≤ raw.length := nodup_len O.nd O.rng; have := R.few; simp; omega) fun a b => ?_
  simp! only []
  exact q
theorem rd_Lmenu : Rd 1 [true] 2 sp_Lmenu t_Lmenu := by
  rintro ds Q Ex - ⟨n, rfl, _, q⟩
  have q : ∀ M, MenuOk M → Q (.lst false (strsD M)) [.int n] := fun M h => q _ ⟨M, rfl, h⟩
  have menu : ∀ M : List Cs, M.length = 4 → (M.all fun t => decide (t ∉ signs8) && Cs.good t) = true → MenuOk M := fun M h1 h2 => ⟨h1, fun t ht => by
    have := List.all_eq_true.mp h2 t ht
    rw [Bool.and_eq_true] at this
    exact of_decide_eq_true this.1, fun t ht => by
    have := List.all_eq_true.mp h2 t ht
    rw [Bool.and_eq_true] at this
    exact this.2⟩
  unfold t_Lmenu
  simp! only []
  refine ⟨_, _, ⟨rfl, rfl⟩, rfl, by simp, rfl, ?_⟩
  refine ix_ex (by omega) (by simp [frzL, frz]; omega) fun d hd => ?_
  simp [frzL, frz] at hd
  rcases hd with rfl | rfl | rfl | rfl | rfl
  · exact ⟨rfl, q [[120], [121], [122, 49], [122]] (menu _ rfl (by decide))⟩
  · exact ⟨rfl, q [[115, 117, 109], [116, 101, 115, 116], [115, 112, 105, 110], [119, 97, 121, 48, 48]] (menu _ rfl (by decide))⟩
  · exact ⟨rfl, q [[119, 97, 121, 48], [121], [119, 97, 121, 50], [119, 97, 121]] (menu _ rfl (by decide))⟩
  · exact ⟨rfl, q [[119, 97, 121, 49], [99, 104, 111, 105, 99, 101], [119], [119, 97, 121, 51]] (menu _ rfl (by decide))⟩
  · exact ⟨rfl, q [[99, 111, 117, 110, 116, 101, 114, 49], [99, 111, 117, 110, 116, 101, 114, 50], [98, 111, 117, 110, 116, 101, 114, 49], [99, 111, 117, 110, 116, 101, 114]] (menu _ rfl (by decide))⟩
theorem rd_Lword : Rd 2 [true, true] 2 sp_Lword t_Lword := by
  rintro ds Q Ex - ⟨⟨a, M⟩, rfl, ⟨hM, ha⟩, q⟩
  have hM : MenuOk M := hM
  have ha : ∀ t ∈ txtsO a, t ∈ four := ha
  have q : Q (opD (callO M a)) [opD a, .lst false (strsD M)] := q
  unfold t_Lword
  cases a with
  | inl i =>
    simp! only [strs_fz, opD]
    exact q
  | inr t =>
    have ht : t ∈ four := ha t List.mem_cons_self
    obtain ⟨l4, _, _⟩ := hM
    match M, l4 with
    | [m0, m1, m2, m3], _ =>
    simp! only [strs_fz, opD]
    simp [four] at ht
    rcases ht with rfl | rfl | rfl | rfl <;> exact ⟨.inl rfl, _, rfl, _, rfl, rfl, q⟩
theorem for_Lcalled {M : List Cs} (hM : MenuOk M) {a : Option D} {N : VEnds} : ∀ (g : List Nd) (acc : List Nd) (u v w : Option D), (∀ x ∈ g, NdIn four x) → acc.length + g.length ≤ 1000 →
    (∀ u v w, N.nx [a, some (.lst false (strsD M)), some (.lst true ((acc ++ g.map (callN M)).map ndD)), u, v, w]) →
    vForL (vName 3) lb_Lcalled0 (g.map ndD) N [a, some (.lst false (strsD M)), some (.lst true (acc.map ndD)), u, v, w]
  | [], acc, u, v, w, _, _, q => by
    have q := q u v w
    rw [List.map_nil, List.append_nil] at q
    exact q
  | x :: g, acc, u, v, w, hg, hl, q => by
    rw [List.map_cons, e_forU lb_Lcalled0.eq_1]
    have hx := hg x List.mem_cons_self
    rw [List.length_cons] at hl
    have go : ∀ u v w, vForL (vName 3) lb_Lcalled0 (g.map ndD) N [a, some (.lst false (strsD M)), some (.lst true (acc.map ndD ++ [ndD (callN M x)])), u, v, w] := fun u v w => by
      have e : acc.map ndD ++ [ndD (callN M x)] = (acc ++ [callN M x]).map ndD := by rw [List.map_append]; rfl
      rw [e]
      refine for_Lcalled hM g (acc ++ [callN M x]) u v w (fun y hy => hg y (List.mem_cons_of_mem _ hy)) (by rw [List.length_append]; simp; omega) fun u v w => ?_
      rw [List.append_assoc]
      exact q u v w
    cases x with
    | sum y i s j to =>
      have h0 := hx.1 y List.mem_cons_self
      have h1 : ∀ t ∈ txtsO i, t ∈ four := fun t ht => hx.1 t (List.mem_cons_of_mem _ (List.mem_append_left _ ht))
      have h2 : ∀ t ∈ txtsO j, t ∈ four := fun t ht => hx.1 t (List.mem_cons_of_mem _ (List.mem_append_right _ ht))
      have h3 : ∀ t ∈ txtsO (.inr y : Opd), t ∈ four := fun t ht => by rw [List.mem_singleton.mp ht]; exact h0
      simp! only [ndD, ndL, opD_fz, strs_fz]
      refine c_Lword hM h1 ⟨rfl, ?_⟩
      simp! only [opD_fz, strs_fz]
      refine c_Lword hM h2 ⟨rfl, ?_⟩
      simp! only [opD_fz, strs_fz]
      refine c_Lword (a := .inr y) hM h3 ⟨rfl, ?_⟩
      simp! only [opD_fz, strs_fz]
      exact ⟨by omega, go _ _ _⟩
    | test i s j y n =>
      have h1 : ∀ t ∈ txtsO i, t ∈ four := fun t ht => hx.1 t (List.mem_append_left _ ht)
      have h2 : ∀ t ∈ txtsO j, t ∈ four := fun t ht => hx.1 t (List.mem_append_right _ ht)
      simp! only [ndD, ndL, opD_fz, strs_fz]
      refine c_Lword hM h1 ⟨rfl, ?_⟩
      simp! only [opD_fz, strs_fz]
      refine c_Lword hM h2 ⟨rfl, ?_⟩
      simp! only [opD_fz, strs_fz]
      exact ⟨by omega, go _ _ _⟩
    | fin =>
      simp! only [ndD, ndL]
      exact ⟨by omega, go _ _ _⟩
    | spin =>
      simp! only [ndD, ndL]
      exact ⟨by omega, go _ _ _⟩
theorem rd_Lcalled : Rd 2 [true, true] 6 sp_Lcalled t_Lcalled := by
  rintro ds Q Ex - ⟨⟨g, M⟩, rfl, ⟨hM, hg, few⟩, q⟩
  have hM : MenuOk M := hM
  have hg : ∀ x ∈ g, NdIn four x := hg
  have few : g.length ≤ 1000 := few
  have q : Q (.lst true ((g.map (callN M)).map ndD)) [.lst false (g.map ndD), .lst false (strsD M)] := q
  unfold t_Lcalled
  simp! only [strs_fz, isFzL_nds]
  refine for_Lcalled hM g [] none none none hg (by simpa using few) fun u v w => ?_
  simp! only [strs_fz, isFzL_nds]
  exact q
theorem lc_Ldrawn {ns : List Int} (hb : ∀ z ∈ ns, Builtin.Int.intBits z ≤ 1048576) {hd : Int} (hd0 : 0 ≤ hd) {M : Nat} (hM : M < 1000) {z : Option D} {Q : List D → Ep → Prop} : ∀ (ks : List Nat) (acc : List Nd), (∀ k ∈ ks, k < M) → acc.length + ks.length ≤ 1000 →
    (∀ xs : List Nd, xs.length = ks.length → (∀ x ∈ xs, x.ok M ∧ x.good = true ∧ NdIn four x) → Q ((acc ++ xs).map ndD) [some (scriptD ns), some (.int hd), some (.int (M : Int)), z, none]) →
    vLcL [4] (vName 4) vYes le_Ldrawn0 (natsD ks) (acc.map ndD) [some (scriptD ns), some (.int hd), some (.int (M : Int)), z, none] Q
  | [], acc, _, _, q => by
    have := q [] rfl (fun _ h => nomatch h)
    rw [List.append_nil] at this
    exact this
  | k :: ks, acc, hk, hl, q => by
    show vLcL [4] (vName 4) vYes le_Ldrawn0 (D.int (k : Int) :: natsD ks) _ _ _
    rw [e_lcU le_Ldrawn0.eq_1]
    have hl : acc.length + (ks.length + 1) ≤ 1000 := hl
    have := hk k List.mem_cons_self
    simp! only [script_fz, c_Lcell, c_Lnode]
    refine ⟨by omega, ⟨cellI_bits hb _, by omega, by omega, by omega⟩, fun x h1 h2 h3 => ⟨by first | omega | (simp <;> omega), ?_⟩⟩
    have e : acc.map ndD ++ [ndD x] = (acc ++ [x]).map ndD := by rw [List.map_append]; rfl
    rw [e]
    refine lc_Ldrawn hb hd0 hM ks (acc ++ [x]) (fun y hy => hk y (List.mem_cons_of_mem _ hy)) (by first | omega | (simp <;> omega)) fun xs hx ha => ?_
    rw [List.append_assoc]
    exact q (x :: xs) (by simp [hx]) fun y hy => by
      rcases List.mem_cons.mp hy with rfl | hy
      · exact ⟨by simpa using h1, h2, h3⟩
      · exact ha y hy
theorem rd_Ldrawn : Rd 1 [true] 5 sp_Ldrawn t_Ldrawn := by
  rintro ds Q Ex hl ⟨ns, rfl, ⟨hn, hb⟩, q⟩
  have hn : ns.length ≤ 63 := hn
  have q : ∀ (g : List Nd) (M : List Cs), GOk g → g.length ≤ 40 → NmG g M → Q (.lst true (g.map ndD)) [scriptD ns] := fun g M h1 h2 h3 => q _ ⟨g, M, rfl, h1, h2, h3⟩
  obtain ⟨m0, m1⟩ := mixed_lt (cellI ns 0) 77
  unfold t_Ldrawn
  simp! only [script_fz, script_len, c_Lcell, c_Lmixed]
  obtain ⟨M, hM⟩ := Int.eq_ofNat_of_zero_le (show 0 ≤ max (1 + mixed (cellI ns 0) 77 / 6 % 12) (min ((ns.length : Int) - 1) 14) by omega)
  have hM0 : 0 < M := by omega
  have hM1 : M ≤ 14 := by omega
  rw [hM]
  refine ⟨by decide, by omega, by omega, ?_⟩
  rw [Int.toNat_natCast, rngN]
  refine lc_Ldrawn hb m0 (by omega) (List.range M) [] (fun k hk => List.mem_range.mp hk) (by first | omega | (simp <;> omega)) fun xs hx ha => ?_
  rw [List.length_range] at hx
  simp! only [List.nil_append, c_Lgraph]
  have R : RawOk xs := ⟨by omega, by omega, fun x h => by rw [hx]; exact (ha x h).1, fun x h => (ha x h).2.1⟩
  obtain ⟨h1, h2⟩ := graph_ok R.pos R.ok R.good
  have h3 := graph_in fun x h => (ha x h).2.2
  refine ⟨R, ?_⟩
  refine c_Lmenu fun Y hY => ⟨rfl, ?_⟩
  simp! only [frzL_nds, isFzL_nds, strs_fz, strs_frz]
  refine c_Lcalled ⟨hY, h3, by omega⟩ ⟨rfl, ?_⟩
  obtain ⟨h4, h5⟩ := call_gok hY h1 h3
  simp! only [script_fz]
  exact q _ Y h4 (by rw [List.length_map]; omega) h5
theorem for_wo {o : Nat} {a : Option D} {N : VEnds} : ∀ (ws L T : List Nat) (u4 u5 : Option D), L.length + ws.length < 100000 → T.length + ws.length < 100000 →
    (∀ (Y : List Nat) u4 u5, (∀ k ∈ Y, k ∈ ws ∧ k ≠ o ∧ k ∉ L) → Y.Nodup → (∀ k ∈ ws, k ≠ o → k ∈ L ++ Y) → Y.length ≤ ws.length → N.nx [a, some (.int (o : Int)), some (.lst true (natsD (L ++ Y))), some (.lst true (natsD (T ++ Y))), u4, u5]) →
    vForL (vName 5) lb_Lwithout0 (natsD ws) N [a, some (.int (o : Int)), some (.lst true (natsD L)), some (.lst true (natsD T)), u4, u5]
  | [], L, T, u4, u5, _, _, q => by
    have q := q [] u4 u5 (fun k hk => nomatch hk) List.nodup_nil (fun k hk => nomatch hk) (Nat.le_refl _)
    rw [List.append_nil, List.append_nil] at q
    exact q
  | t :: ws, L, T, u4, u5, h1, h2, q => by
    show vForL (vName 5) lb_Lwithout0 (D.int (t : Int) :: natsD ws) N _
    rw [e_forU lb_Lwithout0.eq_1]
    rw [List.length_cons] at h1 h2
    have e1 : natsD L ++ [D.int (t : Int)] = natsD (L ++ [t]) := by unfold natsD; rw [List.map_append]; rfl
    have e2 : natsD T ++ [D.int (t : Int)] = natsD (T ++ [t]) := by unfold natsD; rw [List.map_append]; rfl
    have skip : (t = o ∨ t ∈ L) → ∀ u4 u5, vForL (vName 5) lb_Lwithout0 (natsD ws) N [a, some (.int (o : Int)), some (.lst true (natsD L)), some (.lst true (natsD T)), u4, u5] := fun h u4 u5 => by
      refine for_wo ws L T u4 u5 (by omega) (by omega) fun Y u4 u5 hY nd all l => ?_
      refine q Y u4 u5 (fun k hk => ⟨List.mem_cons_of_mem _ (hY k hk).1, (hY k hk).2⟩) nd (fun k hk ne => ?_) (by rw [List.length_cons]; omega)
      rcases List.mem_cons.mp hk with rfl | hk
      · rcases h with h | h
        · exact absurd h ne
        · exact List.mem_append_left _ h
      · exact all k hk ne
    simp! only [natsD_frz, mem_nats]
    by_cases z : t = o
    · rw [if_neg (by simp [z])]
      exact skip (.inl z) _ _
    · rw [if_pos (by simp; omega)]
      by_cases y : t ∈ L
      · rw [if_neg (by simp [y])]
        exact skip (.inr y) _ _
      · rw [if_pos (by simp [y])]
        rw [e1, e2]
        refine ⟨by omega, by omega, ?_⟩
        refine for_wo ws (L ++ [t]) (T ++ [t]) u4 _ (by rw [List.length_append]; simp; omega) (by rw [List.length_append]; simp; omega) fun Y u4 u5 hY nd all l => ?_
        rw [List.append_assoc, List.append_assoc]
        refine q (t :: Y) u4 u5 (fun k hk => ?_) (List.nodup_cons.mpr ⟨fun hk => (hY t hk).2.2 (by simp), nd⟩) (fun k hk ne => ?_) (by rw [List.length_cons, List.length_cons]; omega)
        · rcases List.mem_cons.mp hk with rfl | hk
          · exact ⟨List.mem_cons_self, z, y⟩
          · obtain ⟨a1, a2, a3⟩ := hY k hk
            exact ⟨List.mem_cons_of_mem _ a1, a2, fun w => a3 (List.mem_append_left _ w)⟩
        · rcases List.mem_cons.mp hk with rfl | hk
          · simp
          · have := all k hk ne
            rw [List.append_assoc] at this
            exact this
structure WoI (g : List Nd) (o : Nat) (L T : List Nat) : Prop where
  nL : L.Nodup
  nT : T.Nodup
  sub : ∀ k ∈ T, k ∈ L
  rch : ∀ k ∈ L, k < g.length ∧ Rch (glOf g) o k
  zero : o ≠ 0 → 0 ∈ L
  clo : ∀ k ∈ L, k ∉ T → ∀ t ∈ glOf g k, t ≠ o → t ∈ L
theorem wh_wo {g : List Nd} (hg : GOk g) (few : g.length < 10000) {o : Nat} {N : VEnds} {L T : List Nat} (I : WoI g o L T)
    (q : ∀ L u4 u5, WoI g o L [] → N.nx [some (.lst false (g.map ndD)), some (.int (o : Int)), some (.lst true (natsD L)), some (.lst true []), u4, u5]) :
    vWhile (vViewT (wOp sNe (wCons (wName 3) (wCons (wLst wNil) wNil)))) lb_Lwithout1 N [some (.lst false (g.map ndD)), some (.int (o : Int)), some (.lst true (natsD L)), some (.lst true (natsD T)), none, none] := by
  have few2 : ∀ L : List Nat, L.Nodup → (∀ k ∈ L, k < g.length) → L.length ≤ g.length := fun L nd h => by
    have := int_nodup_len (L.map fun k : Nat => (k : Int)) ((List.range g.length).map fun k : Nat => (k : Int)) (List.pairwise_map.mpr (List.Pairwise.imp (fun {a b} ne z => ne (by omega)) nd)) fun z hz => by
      obtain ⟨k, hk, rfl⟩ := List.mem_map.mp hz
      exact List.mem_map.mpr ⟨k, List.mem_range.mpr (h k hk), rfl⟩
    simpa using this
  refine ⟨fun m ε => ∃ L T u4 u5, ε = [some (.lst false (g.map ndD)), some (.int (o : Int)), some (.lst true (natsD L)), some (.lst true (natsD T)), u4, u5] ∧ WoI g o L T ∧ m = 2 * (g.length - L.length) + T.length, ⟨_, L, T, none, none, rfl, I, rfl⟩, ?_⟩
  rintro m ε ⟨L, T, u4, u5, rfl, I, rfl⟩
  simp! only [natsD_frz]
  by_cases z : T = []
  · subst z
    rw [if_neg (by simp)]
    exact q L u4 u5 I
  · rw [if_pos (by simp [z])]
    obtain ⟨T, h, rfl⟩ : ∃ T' h, T = T' ++ [h] := ⟨T.dropLast, T.getLast z, (List.dropLast_concat_getLast z).symm⟩
    have hL : h ∈ L := I.sub h (by simp)
    have hr := I.rch h hL
    have lL := few2 L I.nL fun k hk => (I.rch k hk).1
    have nT := List.nodup_append.mp I.nT
    have lT := few2 (T ++ [h]) I.nT fun k hk => (I.rch k (I.sub k hk)).1
    rw [List.length_append, List.length_singleton] at lT
    have e1 : (g.map ndD)[h]? = some (ndD g[h]) := by rw [List.getElem?_map, List.getElem?_eq_getElem hr.1]; rfl
    have ix0 : ixN g.length (h : Int) = some h := ixN_nat hr.1
    have gl : glOf g h = goals g[h] := by unfold glOf; rw [List.getElem?_eq_getElem hr.1]
    have g2 := goals_len g[h]
    unfold lb_Lwithout1
    simp! only [natsD_frz]
    have ea : natsD (T ++ [h]) = natsD T ++ [D.int (h : Int)] := by unfold natsD; rw [List.map_append]; rfl
    have ixg : ixD (.lst false (g.map ndD)) (.int (h : Int)) = some (ndD g[h]) := by
      show (ixN (g.map ndD).length (h : Int)).bind _ = _
      rw [List.length_map, ix0]
      exact e1
    rw [ea, e_pop]
    refine ⟨rfl, _, ixg, isFz_nd _, ?_⟩
    rw [c_Lgoals]
    refine ⟨rfl, _, (by show D.lst false (frzL (natsD _)) = _; rw [natsD_frz]), ?_⟩
    refine for_wo (goals g[h]) L T _ _ (by omega) (by omega) fun Y u4 u5 hY nd all l => ?_
    have nTh : h ∉ T := fun hk => nT.2.2 h hk h List.mem_cons_self rfl
    have I' : WoI g o (L ++ Y) (T ++ Y) := by
      refine ⟨List.nodup_append.mpr ⟨I.nL, nd, fun a ha b hb e => (hY b hb).2.2 (e ▸ ha)⟩, List.nodup_append.mpr ⟨nT.1, nd, fun a ha b hb e => (hY b hb).2.2 (e ▸ I.sub a (List.mem_append_left _ ha))⟩, fun k hk => ?_, fun k hk => ?_, fun h0 => List.mem_append_left _ (I.zero h0), fun k hk nk t ht ne => ?_⟩
      · rcases List.mem_append.mp hk with hk | hk
        · exact List.mem_append_left _ (I.sub k (List.mem_append_left _ hk))
        · exact List.mem_append_right _ hk
      · rcases List.mem_append.mp hk with hk | hk
        · exact I.rch k hk
        · obtain ⟨a1, a2, _⟩ := hY k hk
          exact ⟨hg.ok _ (List.getElem_mem hr.1) k a1, .step hr.2 (by rw [gl]; exact a1) a2⟩
      · rcases List.mem_append.mp hk with hk | hk
        · by_cases e : k = h
          · subst e
            rw [gl] at ht
            exact all t ht ne
          · refine List.mem_append_left _ (I.clo k hk (fun w => ?_) t ht ne)
            rcases List.mem_append.mp w with w | w
            · exact nk (List.mem_append_left _ w)
            · exact e (List.mem_singleton.mp w)
        · exact absurd (List.mem_append_right _ hk) nk
    have lY := few2 (L ++ Y) I'.nL fun k hk => (I'.rch k hk).1
    rw [List.length_append] at lY
    exact ⟨2 * (g.length - (L ++ Y).length) + (T ++ Y).length, by simp only [List.length_append, List.length_singleton]; omega, L ++ Y, T ++ Y, u4, u5, rfl, I', rfl⟩
theorem rd_Lwithout : Rd 2 [true, true] 6 sp_Lwithout t_Lwithout := by
  rintro ds Q Ex - ⟨⟨g, o⟩, rfl, ⟨hg, few⟩, q⟩
  have hg : GOk g := hg
  have few : g.length < 10000 := few
  have q : ∀ xs : List Nat, xs.length < 100000 → (∀ k, k ∈ xs ↔ Rch (glOf g) o k) → Q (.lst true (natsD xs)) [.lst false (g.map ndD), .int (o : Int)] := fun xs h1 h2 => q _ ⟨xs, rfl, h1, h2⟩
  unfold t_Lwithout
  simp! only [isFzL_nds]
  have fin : ∀ L, WoI g o L [] → Q (.lst true (natsD L)) [.lst false (g.map ndD), .int (o : Int)] := fun L I => by
    refine q L ?_ fun k => ⟨fun h => (I.rch k h).2, fun h => ?_⟩
    · have := int_nodup_len (L.map fun k : Nat => (k : Int)) ((List.range g.length).map fun k : Nat => (k : Int)) (List.pairwise_map.mpr (List.Pairwise.imp (fun {a b} ne z => ne (by omega)) I.nL)) fun z hz => by
        obtain ⟨k, hk, rfl⟩ := List.mem_map.mp hz
        exact List.mem_map.mpr ⟨k, List.mem_range.mpr (I.rch k hk).1, rfl⟩
      simp at this
      omega
    · induction h with
      | zero h => exact I.zero h
      | step _ ha ne ih => exact I.clo _ ih (fun z => nomatch z) _ ha ne
  by_cases z : (o : Int) = 0
  · refine ite_yes z ?_
    have z : o = 0 := by omega
    refine wh_wo hg few (L := []) (T := []) ⟨List.nodup_nil, List.nodup_nil, (fun _ h => nomatch h), (fun _ h => nomatch h), (fun h => absurd z h), (fun _ h => nomatch h)⟩ fun L u4 u5 I => ?_
    simp! only [isFzL_nds]
    exact fin L I
  · refine ite_no z ?_
    refine wh_wo hg few (L := [0]) (T := [0]) ⟨List.nodup_cons.mpr ⟨(fun h => nomatch h), List.nodup_nil⟩, List.nodup_cons.mpr ⟨(fun h => nomatch h), List.nodup_nil⟩, (fun _ h => h), fun k h => ?_, fun _ => List.mem_cons_self, fun k h nh => absurd h nh⟩ fun L u4 u5 I => ?_
    · rw [List.mem_singleton.mp h]; exact ⟨hg.pos, .zero (by omega)⟩
    · simp! only [isFzL_nds]
      exact fin L I
structure GiI (nm : List Cs) (S : List (List Int)) (g : List Nd) (V : Vst) (μ J Z : Mks) (j1 j2 : List Nat) (i : Nat) : Prop where
  sJ : ∀ c n j, J c n = some j → c ∈ nm ∧ manyS S j ∧ n = (rowAt V.A j c : Int)
  cJ : ∀ c j, j < i → c ∈ nm → manyS S j → μ c (rowAt V.A j c : Int) = none → (J c (rowAt V.A j c : Int)).isSome = true
  sZ : ∀ c n j, Z c n = some j → (∃ x, g[j]? = some x ∧ sumN x = some c) ∧ n = (rowAt V.B j c : Int)
  cZ : ∀ c j x, j < i → g[j]? = some x → sumN x = some c → (Z c (rowAt V.B j c : Int)).isSome = true
  l1 : j1.length ≤ i * 60
  l2 : j2.length ≤ i
theorem put_some {M : Mks} {c c' : Cs} {i i' : Int} {v : Nat} (h : (M c' i').isSome = true) : ((M.put c i v) c' i').isSome = true := by
  by_cases z : c' = c ∧ i' = i
  · obtain ⟨rfl, rfl⟩ := z
    rw [Mks.put_self]; rfl
  · rw [Mks.put_ne z]; exact h
theorem for_joins {nm : List Cs} {S : List (List Int)} {V : Vst} {μ : Mks} {k : Nat} {r : List Int} (m : manyS S k) {a z c4 c5 : Option D} {N : VEnds} : ∀ (xs : List Cs) (J : Mks) (k1 : List (List Kc)) (j1 : List Nat) (u : Option D), RepM J k1 j1 → j1.length + xs.length < 1000000 → (∀ x ∈ xs, x ∈ nm) →
    (∀ J' k1' j1' u, RepM J' k1' j1' → j1'.length ≤ j1.length + xs.length → (∀ c n j, J' c n = some j → J c n = some j ∨ (c ∈ nm ∧ j = k ∧ n = (rowAt V.A k c : Int))) → (∀ c n, (J c n).isSome = true → (J' c n).isSome = true) → (∀ x ∈ xs, (J' x (rowAt V.A k x : Int)).isSome = true) → N.nx [a, some (mksD true k1' j1'), z, some (.int (k : Int)), c4, c5, u]) →
    vForL (vName 6) lb_Lgivers0 (xs.map (jnD false μ V r k)) N [a, some (mksD true k1 j1), z, some (.int (k : Int)), c4, c5, u]
  | [], J, k1, j1, u, R, _, _, q => q J k1 j1 u R (Nat.le_add_right _ _) (fun _ _ _ h => .inl h) (fun _ _ h => h) (fun _ h => nomatch h)
  | x :: xs, J, k1, j1, u, R, hl, hx, q => by
    rw [List.map_cons, e_forU lb_Lgivers0.eq_1]
    rw [List.length_cons] at hl
    have ej : jnD false μ V r k x = .tup [.str x, .int (rowAt V.A k x : Int), .lst false (r.map fun s => .tup [.int s, .int (rootM μ x (verF V s x) : Int)])] := rfl
    have pz : isFzL (r.map fun s => D.tup [.int s, .int (rootM μ x (verF V s x) : Int)]) = true := by rw [isFzL_all]; simp [isFz, isFzL]
    obtain ⟨k1', j1', e1, R', l'⟩ := mks_put R (c := x) (i := (rowAt V.A k x : Int)) (v := k) (by omega)
    rw [ej]
    simp! only [vSlQ, pz]
    refine ⟨_, e1, ?_⟩
    refine for_joins m xs (J.put x (rowAt V.A k x : Int) k) k1' j1' _ R' (by omega) (fun y hy => hx y (List.mem_cons_of_mem _ hy)) fun J' k1' j1' u R' l s1 s2 s3 => ?_
    refine q J' k1' j1' u R' (by rw [List.length_cons]; omega) (fun c n j h => ?_) (fun c n h => s2 c n (put_some h)) fun y hy => ?_
    · rcases s1 c n j h with h | h
      · by_cases w : c = x ∧ n = (rowAt V.A k x : Int)
        · obtain ⟨rfl, rfl⟩ := w
          rw [Mks.put_self] at h
          cases h
          exact .inr ⟨hx c List.mem_cons_self, rfl, rfl⟩
        · rw [Mks.put_ne w] at h
          exact .inl h
      · exact .inr h
    · rcases List.mem_cons.mp hy with rfl | hy
      · exact s2 y _ (by rw [Mks.put_self]; rfl)
      · exact s3 y hy
theorem for_givers {nm : List Cs} {S : List (List Int)} {V : Vst} {μ : Mks} {g : List Nd} (P : VerP nm S V) (hg : g.length = S.length) {N : VEnds} : ∀ (m k : Nat) (J Z : Mks) (k1 : List (List Kc)) (j1 : List Nat) (k2 : List (List Kc)) (j2 : List Nat) (u3 u4 u5 u6 : Option D), k + m = g.length → RepM J k1 j1 → RepM Z k2 j2 → GiI nm S g V μ J Z j1 j2 k →
    (∀ J Z k1 j1 k2 j2 u3 u4 u5 u6, RepM J k1 j1 → RepM Z k2 j2 → GiI nm S g V μ J Z j1 j2 g.length → N.nx [some (.lst false (tellD false μ V S nm g)), some (mksD true k1 j1), some (mksD true k2 j2), u3, u4, u5, u6]) →
    vForL (vName 3) lb_Lgivers1 (natsD (List.range' k m)) N [some (.lst false (tellD false μ V S nm g)), some (mksD true k1 j1), some (mksD true k2 j2), u3, u4, u5, u6]
  | 0, k, J, Z, k1, j1, k2, j2, u3, u4, u5, u6, hk, R1, R2, I, q => by
    have : k = g.length := by omega
    subst this
    exact q J Z k1 j1 k2 j2 _ _ _ _ R1 R2 I
  | m + 1, k, J, Z, k1, j1, k2, j2, u3, u4, u5, u6, hk, R1, R2, I, q => by
    show vForL (vName 3) lb_Lgivers1 (D.int (k : Int) :: natsD (List.range' (k + 1) m)) N _
    rw [e_forU lb_Lgivers1.eq_1]
    have hx : g[k]? = some g[k] := List.getElem?_eq_getElem (by omega)
    have sf := P.so.few
    have fN := P.fewN
    have l1 := I.l1
    have l2 := I.l2
    have hr : S[k]? = some ((S[k]?).getD []) := by rw [List.getElem?_eq_getElem (show k < S.length by omega)]; rfl
    have tx := tell_ix (μ := μ) (V := V) (S := S) (nm := nm) hx
    generalize hre : (S[k]?).getD [] = r at tx hr
    have lz : isFz (D.tup [.lst false (jnsD false μ V r k nm), ndTold μ V k g[k]]) = true := by simp [isFz, isFzL, jns_fz, ndTold_fz]
    simp! only [tell_fz]
    refine ⟨_, tx, lz, ?_⟩
    simp! only [jns_fz, ndTold_fz]
    -- behind the joinings
    have rest : ∀ (J' : Mks) k1' j1' u, RepM J' k1' j1' → j1'.length ≤ (k + 1) * 60 → (∀ c n j, J' c n = some j → c ∈ nm ∧ manyS S j ∧ n = (rowAt V.A j c : Int)) → (∀ c j, j < k + 1 → c ∈ nm → manyS S j → μ c (rowAt V.A j c : Int) = none → (J' c (rowAt V.A j c : Int)).isSome = true) →
        vIfS (vB (vOp sEq [none, none] (vaCons (vOp sIx [none, none] (vaCons (vVar 5) (vaCons (vC (D.int 0)) vaNil))) (vaCons (vC (D.str [115, 117, 109])) vaNil)))) (vSet 2 (vVar 3) (vpName 2) (vOpQ sIx (vaCons (vVar 5) (vaCons (vC (D.int 1)) vaNil)))) vSkip
          { nx := fun ε' => vForL (vName 3) lb_Lgivers1 (natsD (List.range' (k + 1) m)) N ε', rt := N.rt, bk := N.nx, ct := fun ε' => vForL (vName 3) lb_Lgivers1 (natsD (List.range' (k + 1) m)) N ε', rx := N.rx }
          [some (.lst false (tellD false μ V S nm g)), some (mksD true k1' j1'), some (mksD true k2 j2), some (.int (k : Int)), some (.lst false (jnsD false μ V r k nm)), some (ndTold μ V k g[k]), u] := fun J' k1' j1' u R' l' s1 c1 => by
      have plain : sumN g[k] = none → ∀ u4 u5 u6, vForL (vName 3) lb_Lgivers1 (natsD (List.range' (k + 1) m)) N [some (.lst false (tellD false μ V S nm g)), some (mksD true k1' j1'), some (mksD true k2 j2), some (.int (k : Int)), u4, u5, u6] := fun e u4 u5 u6 =>
        for_givers P hg m (k + 1) J' Z k1' j1' k2 j2 _ _ _ _ (by omega) R' R2 ⟨s1, c1, I.sZ, (fun c j x hj e1 e2 => by
          rcases Nat.lt_or_ge j k with lt | ge
          · exact I.cZ c j x lt e1 e2
          · have : j = k := by omega
            subst this
            rw [hx] at e1
            cases e1
            rw [e] at e2
            cases e2), l', (by omega)⟩ q
      cases eg : g[k] with
      | sum y a s b to =>
        obtain ⟨k2', j2', ep, R2', l2'⟩ := mks_put R2 (c := y) (i := (rowAt V.B k y : Int)) (v := k) (by omega)
        have gy : g[k]? = some (.sum y a s b to) := by rw [hx, eg]
        simp! only [ndTold, opTold_fz]
        refine ⟨_, ep, ?_⟩
        refine for_givers P hg m (k + 1) J' _ k1' j1' k2' j2' _ _ _ _ (by omega) R' R2' ⟨s1, c1, fun c n j h => ?_, fun c j x hj e1 e2 => ?_, l', by omega⟩ q
        · by_cases w : c = y ∧ n = (rowAt V.B k y : Int)
          · obtain ⟨rfl, rfl⟩ := w
            rw [Mks.put_self] at h
            cases h
            exact ⟨⟨_, gy, rfl⟩, rfl⟩
          · rw [Mks.put_ne w] at h
            exact I.sZ c n j h
        · rcases Nat.lt_or_ge j k with lt | ge
          · exact put_some (I.cZ c j x lt e1 e2)
          · have : j = k := by omega
            subst this
            rw [gy] at e1
            cases e1
            cases e2
            rw [Mks.put_self]; rfl
      | test a s b y n =>
        simp! only [ndTold, opTold_fz]
        exact plain (by rw [eg]; rfl) _ _ _
      | fin =>
        simp! only [ndTold, ndD, ndL]
        exact plain (by rw [eg]; rfl) _ _ _
      | spin =>
        simp! only [ndTold, ndD, ndL]
        exact plain (by rw [eg]; rfl) _ _ _
    by_cases mk : manyS S k
    · obtain ⟨r', e', m'⟩ := id mk
      rw [hr] at e'
      cases e'
      have ll : (leftL μ V r k nm).length ≤ nm.length := List.length_filter_le _ _
      refine for_joins mk (leftL μ V r k nm) J k1 j1 _ R1 (by omega) (fun x hx => (List.mem_filter.mp hx).1) fun J' k1' j1' u R' l s1 s2 s3 => ?_
      refine rest J' k1' j1' _ R' (by omega) (fun c n j h => ?_) fun c j hj hc m3 h3 => ?_
      · rcases s1 c n j h with h | ⟨h1, h2, h3⟩
        · exact I.sJ c n j h
        · subst h2; exact ⟨h1, mk, h3⟩
      · rcases Nat.lt_or_ge j k with lt | ge
        · exact s2 _ _ (I.cJ c j lt hc m3 h3)
        · have : j = k := by omega
          subst this
          refine s3 c (List.mem_filter.mpr ⟨hc, ?_⟩)
          rw [h3]
          simpa using m'
    · have e0 : jnsD false μ V r k nm = [] := by
        have : leftL μ V r k nm = [] := by
          unfold leftL
          refine List.filter_eq_nil_iff.mpr fun x _ => ?_
          have : ¬1 < r.length := fun w => mk ⟨r, hr, w⟩
          simp [this]
        unfold jnsD
        rw [this]; rfl
      have rs := rest J k1 j1 u6 R1 (by omega) I.sJ fun c j hj hc m3 h3 => by
        rcases Nat.lt_or_ge j k with lt | ge
        · exact I.cJ c j lt hc m3 h3
        · have : j = k := by omega
          subst this
          exact absurd m3 mk
      rw [e0] at rs ⊢
      exact rs
theorem rd_Lgivers : Rd 1 [true] 7 sp_Lgivers t_Lgivers := by
  rintro ds Q Ex - ⟨⟨nm, S, V, μ, g⟩, rfl, ⟨P, hg⟩, q⟩
  have P : VerP nm S V := P
  have hg : g.length = S.length := hg
  have q : ∀ (J Z : Mks) (k1 : List (List Kc)) (j1 : List Nat) (k2 : List (List Kc)) (j2 : List Nat), RepM J k1 j1 → RepM Z k2 j2 → GvM nm S g V μ J Z → Q (.lst true [mksD true k1 j1, mksD true k2 j2]) [.lst false (tellD false μ V S nm g)] := fun J Z k1 j1 k2 j2 h1 h2 h3 => q _ ⟨J, Z, k1, j1, k2, j2, rfl, h1, h2, h3⟩
  unfold t_Lgivers
  simp! only []
  have gf : g.length ≤ 62 := by rw [hg]; exact P.so.few
  refine ⟨tell_fz μ V S nm g, by rw [tell_len]; omega, by rw [tell_len]; omega, ?_⟩
  rw [tell_len, Int.toNat_natCast, rngN, List.range_eq_range']
  have I0 : GiI nm S g V μ (fun _ _ => none) (fun _ _ => none) [] [] 0 := ⟨(fun _ _ _ h => nomatch h), (fun _ _ h => absurd h (Nat.not_lt_zero _)), (fun _ _ _ h => nomatch h), (fun _ _ _ h => absurd h (Nat.not_lt_zero _)), Nat.zero_le _, Nat.zero_le _⟩
  refine for_givers P hg g.length 0 _ _ [] [] [] [] none none none none (by omega) RepM.nil RepM.nil I0 fun J Z k1 j1 k2 j2 u3 u4 u5 u6 R1 R2 I => ?_
  simp! only [tell_fz]
  refine q J Z k1 j1 k2 j2 R1 R2 ⟨I.sJ, fun c j hc m h => I.cJ c j ?_ hc m h, I.sZ, fun c j x e1 e2 => I.cZ c j x (List.getElem?_eq_some_iff.mp e1).1 e1 e2⟩
  rw [hg]
  exact many_lt m
theorem rnd_fz (W : List (List Nat)) : isFz (rndD W) = true := by
  show (!false && isFzL (W.map fun w => D.lst false (natsD w))) = true
  rw [isFzL_all]; simp [isFz, natsD_fz]
theorem two_fz (k1 k2 : List (List Kc)) (j1 j2 : List Nat) : isFz (.lst false [mksD false k1 j1, mksD false k2 j2]) = true := by
  show (!false && (isFz (mksD false k1 j1) && (isFz (mksD false k2 j2) && true))) = true
  rw [mks_fz, mks_fz]; rfl
theorem rnd_ix {g : List Nd} {W : List (List Nat)} (h : RndOk g W) {o : Nat} (ho : o < g.length) : ∃ w : List Nat, ixD (rndD W) (.int (o : Int)) = some (.lst false (natsD w)) ∧ ∀ k, k ∈ w ↔ Rch (glOf g) o k := by
  obtain ⟨h1, h2⟩ := h
  have hl : o < W.length := by omega
  obtain ⟨_, h3⟩ := h2 o W[o] (List.getElem?_eq_getElem hl)
  refine ⟨W[o], ?_, h3⟩
  show (ixN (W.map fun w => D.lst false (natsD w)).length (o : Int)).bind _ = _
  rw [ixN_nat (by rw [List.length_map]; exact hl)]
  show (W.map fun w => D.lst false (natsD w))[o]? = _
  rw [List.getElem?_map, List.getElem?_eq_getElem hl]
  rfl
theorem nats_fzD (w : List Nat) : isFz (.lst false (natsD w)) = true := by show (!false && isFzL (natsD w)) = true; rw [natsD_fz]; rfl
theorem rd_Lgood_operand : Rd 4 [true, true, true, true] 4 sp_Lgood_operand t_Lgood_operand := by
  rintro ds Q Ex - ⟨⟨⟨g, J, Z, k1, j1, k2, j2, W, k⟩, d⟩, rfl, ⟨⟨R1, R2, hW⟩, h⟩, q⟩
  have R1 : RepM J k1 j1 := R1
  have R2 : RepM Z k2 j2 := R2
  have hW : RndOk g W := hW
  have q : Q (.bl true) [d, .int (k : Int), .lst false [mksD false k1 j1, mksD false k2 j2], rndD W] := q
  unfold t_Lgood_operand
  rcases h with ⟨i, e⟩ | ⟨s, e⟩ | ⟨t, v, e, h⟩
  · have e : d = .int i := e
    subst e
    simp! only [GoA.two, rnd_fz, two_fz]
    exact q
  · have e : d = .str s := e
    subst e
    simp! only [GoA.two, rnd_fz, two_fz]
    exact q
  · have e : d = .tup [.str t, .int (v : Int)] := e
    subst e
    have h : OpGood g J Z t v k := h
    simp! only [GoA.two, rnd_fz, two_fz]
    have tz : (isFz (mksD false k1 j1) && (isFz (mksD false k2 j2) && true)) = true := by rw [mks_fz, mks_fz]; rfl
    have dq : ∀ j : Nat, deq (.int (j : Int)) (.int (k : Int)) = decide (j = k) := fun j => by
      rw [deq]
      exact Bool.eq_iff_iff.mpr (by simp; omega)
    by_cases z : v = 0
    · exact ite_yes (by omega) q
    refine ite_no (by omega) ⟨tz, mks_fz, ?_⟩
    rcases h with h | ⟨j, hj, e, h⟩ | ⟨e0, j, hj, e, h1, h2⟩
    · exact absurd h z
    · obtain ⟨w, hw, hm⟩ := rnd_ix hW hj
      refine mks_mem (μ := J) R1 ?_
      rw [e, if_pos (by rfl)]
      refine ⟨tz, mks_fz, mks_ix (μ := J) R1 e ⟨.inl rfl, ?_⟩⟩
      rw [dq]
      by_cases y : j = k
      · exact ite_yes (by simpa using y) q
      · refine ite_no (by simpa using y) ⟨tz, mks_fz, mks_ix (μ := J) R1 e ⟨_, hw, nats_fzD w, _, mem_nats, ?_⟩⟩
        have nr : k ∉ w := fun hk => (h.resolve_left y) ((hm k).mp hk)
        rw [decide_eq_false nr]
        exact q
    · obtain ⟨w, hw, hm⟩ := rnd_ix hW hj
      refine mks_mem (μ := J) R1 ?_
      rw [e0, if_neg (by simp)]
      refine ⟨tz, mks_fz, mks_mem (μ := Z) R2 ?_⟩
      rw [e, if_pos (by rfl)]
      refine ⟨tz, mks_fz, mks_ix (μ := Z) R2 e ⟨.inl rfl, ?_⟩⟩
      rw [dq]
      refine ite_yes (by simpa using h1) ⟨tz, mks_fz, mks_ix (μ := Z) R2 e ⟨_, hw, nats_fzD w, _, mem_nats, ?_⟩⟩
      have nr : k ∉ w := fun hk => h2 ((hm k).mp hk)
      rw [decide_eq_false nr]
      exact q
/-- asked of the dict that has it -/
theorem src_has {g : List Nd} {M : Mks} {ks : List (List Kc)} {js : List Nat} (R : RepM M ks js) {W : List (List Nat)} (hW : RndOk g W) {t : Cs} {v k j : Nat} (hj : j < g.length) (e : M t (v : Int) = some j) (h : j = k ∨ Dm (glOf g) j k) {tw : D} {N : VEnds} {u6 : Option D}
    (q : ∀ u5 u6, N.rt (.bl true) [some (.str t), some (.int (k : Int)), some (.int (v : Int)), some tw, some (rndD W), u5, u6]) : lb_Lgood_source0 N [some (.str t), some (.int (k : Int)), some (.int (v : Int)), some tw, some (rndD W), some (mksD false ks js), u6] := by
  obtain ⟨w, hw, hm⟩ := rnd_ix hW hj
  unfold lb_Lgood_source0
  simp! only [mks_fz, rnd_fz]
  refine mks_mem R ?_
  rw [e, if_pos (by rfl)]
  refine mks_ix R e ?_
  simp! only [rnd_fz]
  by_cases z : (j : Int) = (k : Int)
  · exact ite_yes z (q _ _)
  · refine ite_no z ⟨_, hw, nats_fzD w, _, mem_nats, ?_⟩
    have nr : k ∉ w := fun hk => (h.resolve_left fun e => z (by rw [e])) ((hm k).mp hk)
    rw [decide_eq_false nr]
    exact q _ _
theorem src_not {M : Mks} {ks : List (List Kc)} {js : List Nat} (R : RepM M ks js) {W : List (List Nat)} {t : Cs} {v k : Nat} (e : M t (v : Int) = none) {tw : D} {N : VEnds} {u6 : Option D}
    (q : N.nx [some (.str t), some (.int (k : Int)), some (.int (v : Int)), some tw, some (rndD W), some (mksD false ks js), u6]) : lb_Lgood_source0 N [some (.str t), some (.int (k : Int)), some (.int (v : Int)), some tw, some (rndD W), some (mksD false ks js), u6] := by
  unfold lb_Lgood_source0
  simp! only [mks_fz, rnd_fz]
  refine mks_mem R ?_
  rw [e, if_neg (by simp)]
  exact q
theorem rd_Lgood_source : Rd 5 [true, true, true, true, true] 7 sp_Lgood_source t_Lgood_source := by
  rintro ds Q Ex - ⟨⟨⟨g, J, Z, k1, j1, k2, j2, W, k⟩, t, s, v⟩, rfl, ⟨⟨R1, R2, hW⟩, h⟩, q⟩
  have R1 : RepM J k1 j1 := R1
  have R2 : RepM Z k2 j2 := R2
  have hW : RndOk g W := hW
  have h : (s = -1 ∧ v = 0) ∨ (s = (k : Int) ∧ SrGood g J Z t v k) := h
  have q : Q (.bl true) [.str t, .int s, .int (v : Int), .lst false [mksD false k1 j1, mksD false k2 j2], rndD W] := q
  unfold t_Lgood_source
  simp! only [GoA.two, rnd_fz, two_fz]
  have zero : v = 0 → Q (.bl (decide ((v : Int) = 0))) [.str t, .int s, .int (v : Int), .lst false [mksD false k1 j1, mksD false k2 j2], rndD W] := fun z => by
    subst z
    exact q
  rcases h with ⟨rfl, hv⟩ | ⟨rfl, hs⟩
  · exact ite_yes rfl (zero hv)
  · refine ite_no (by omega) ?_
    by_cases z : v = 0
    · exact ite_yes (by omega) (zero z)
    · refine ite_no (by omega) ⟨by rw [mks_fz, mks_fz]; rfl, ?_⟩
      rcases hs with h | ⟨j, hj, e, h⟩ | ⟨e0, j, hj, e, h⟩
      · exact absurd h z
      · rw [e_forU rfl]
        simp! only []
        refine src_has R1 hW hj e h fun u5 u6 => ?_
        simp! only [rnd_fz, two_fz]
        exact q
      · rw [e_forU rfl]
        simp! only []
        refine src_not R1 e0 ?_
        show vForL (vName 5) lb_Lgood_source0 [mksD false k2 j2] _ _
        rw [e_forU rfl]
        simp! only []
        refine src_has R2 hW hj e h fun u5 u6 => ?_
        simp! only [rnd_fz, two_fz]
        exact q
theorem lc_rnd {g : List Nd} (hg : GOk g) (few : g.length ≤ 62) {a c z : Option D} {u5 u6 u7 u8 u9 u10 u11 u12 u13 u14 u15 : Option D} {Q : List D → Ep → Prop} : ∀ (m o : Nat) (acc : List (List Nat)), o + m = g.length → acc.length = o → (∀ (i : Nat) w, acc[i]? = some w → w.length < 100000 ∧ ∀ k, k ∈ w ↔ Rch (glOf g) i k) →
    (∀ W, RndOk g W → Q (W.map fun w => .lst true (natsD w)) [a, some (.lst false (g.map ndD)), c, z, none, u5, u6, u7, u8, u9, u10, u11, u12, u13, u14, u15]) →
    vLcL [4] (vName 4) vYes le_law0 (natsD (List.range' o m)) (acc.map fun w => .lst true (natsD w)) [a, some (.lst false (g.map ndD)), c, z, none, u5, u6, u7, u8, u9, u10, u11, u12, u13, u14, u15] Q
  | 0, o, acc, hm, hl, ha, q => q acc ⟨by omega, ha⟩
  | m + 1, o, acc, hm, hl, ha, q => by
    show vLcL [4] (vName 4) vYes le_law0 (D.int (o : Int) :: natsD (List.range' (o + 1) m)) _ _ Q
    rw [e_lcU le_law0.eq_1]
    simp! only [isFzL_nds]
    refine c_Lwithout ⟨hg, by omega⟩ fun xs h1 h2 => ⟨rfl, ?_⟩
    simp! only [isFzL_nds]
    refine ⟨by omega, ?_⟩
    have e : (acc.map fun w => D.lst true (natsD w)) ++ [D.lst true (natsD xs)] = (acc ++ [xs]).map fun w => D.lst true (natsD w) := by rw [List.map_append]; rfl
    rw [e]
    refine lc_rnd hg few m (o + 1) (acc ++ [xs]) (by omega) (by simp [hl]) (fun i w hi => ?_) q
    by_cases z : i < acc.length
    · rw [List.getElem?_append_left z] at hi
      exact ha i w hi
    · have : i = acc.length := by
        have := (List.getElem?_eq_some_iff.mp hi).1
        simp at this
        omega
      subst this
      rw [List.getElem?_concat_length] at hi
      cases hi
      rw [hl]
      exact ⟨h1, h2⟩
theorem two_frz (k1 k2 : List (List Kc)) (j1 j2 : List Nat) : frz (.lst true [mksD true k1 j1, mksD true k2 j2]) = .lst false [mksD false k1 j1, mksD false k2 j2] := by
  show D.lst false (frzL _) = _
  rw [frzL, frzL, frzL, mks_frz, mks_frz]
theorem rnd_frz (W : List (List Nat)) : frzL (W.map fun w => .lst true (natsD w)) = W.map fun w => .lst false (natsD w) := by
  rw [frzL_map, List.map_map]
  exact List.map_congr_left fun w _ => by show D.lst false (frzL (natsD w)) = _; rw [natsD_frz]
theorem for_parts {g : List Nd} {J Z : Mks} {k1 : List (List Kc)} {j1 : List Nat} {k2 : List (List Kc)} {j2 : List Nat} {W : List (List Nat)} {k : Nat} (R1 : RepM J k1 j1) (R2 : RepM Z k2 j2) (hW : RndOk g W) {a b c u7 u8 u9 u11 u12 u13 u14 u15 : Option D} {N : VEnds} : ∀ (ds : List D) (u10 : Option D), (∀ d ∈ ds, PrtOk ⟨g, J, Z, k1, j1, k2, j2, W, k⟩ d ∧ isFz d = true) →
    (∀ u10, N.nx [a, b, c, some (rndD W), none, some (.lst false [mksD false k1 j1, mksD false k2 j2]), some (.int (k : Int)), u7, u8, u9, u10, u11, u12, u13, u14, u15]) →
    vForL (vName 10) lb_law0 ds N [a, b, c, some (rndD W), none, some (.lst false [mksD false k1 j1, mksD false k2 j2]), some (.int (k : Int)), u7, u8, u9, u10, u11, u12, u13, u14, u15]
  | [], u10, _, q => q u10
  | d :: ds, u10, h, q => by
    rw [e_forU lb_law0.eq_1]
    obtain ⟨h1, h2⟩ := h d List.mem_cons_self
    simp! only [h2, rnd_fz, two_fz]
    refine ⟨by rw [mks_fz, mks_fz]; rfl, c_Lgood_operand ⟨R1, R2, hW⟩ h1 ⟨rfl, ?_⟩⟩
    simp! only [h2, rnd_fz, two_fz]
    exact for_parts R1 R2 hW ds _ (fun e he => h e (List.mem_cons_of_mem _ he)) q
theorem for_pairs {g : List Nd} {J Z : Mks} {k1 : List (List Kc)} {j1 : List Nat} {k2 : List (List Kc)} {j2 : List Nat} {W : List (List Nat)} (R1 : RepM J k1 j1) (R2 : RepM Z k2 j2) (hW : RndOk g W) {μ : Mks} {V : Vst} {x : Cs} {a b c u6 u7 u8 u9 u10 u12 u13 : Option D} {N : VEnds} : ∀ (r : List Int) (u14 u15 : Option D), (∀ s ∈ r, (s = -1 ∧ rootM μ x (verF V s x) = 0) ∨ ∃ k : Nat, s = (k : Int) ∧ SrGood g J Z x (rootM μ x (verF V s x)) k) →
    (∀ u14 u15, N.nx [a, b, c, some (rndD W), none, some (.lst false [mksD false k1 j1, mksD false k2 j2]), u6, u7, u8, u9, u10, some (.str x), u12, u13, u14, u15]) →
    vForL (vNames [14, 15]) lb_law1 (prs μ V x r) N [a, b, c, some (rndD W), none, some (.lst false [mksD false k1 j1, mksD false k2 j2]), u6, u7, u8, u9, u10, some (.str x), u12, u13, u14, u15]
  | [], u14, u15, _, q => q u14 u15
  | s :: r, u14, u15, h, q => by
    show vForL (vNames [14, 15]) lb_law1 (D.tup [.int s, .int (rootM μ x (verF V s x) : Int)] :: prs μ V x r) N _
    rw [e_forU lb_law1.eq_1]
    simp! only [rnd_fz, two_fz]
    refine ⟨by rw [mks_fz, mks_fz]; rfl, c_Lgood_source ⟨R1, R2, hW⟩ (h s List.mem_cons_self) ⟨rfl, ?_⟩⟩
    simp! only [rnd_fz, two_fz]
    exact for_pairs R1 R2 hW r _ _ (fun e he => h e (List.mem_cons_of_mem _ he)) q
theorem for_jns2 {g : List Nd} {J Z : Mks} {k1 : List (List Kc)} {j1 : List Nat} {k2 : List (List Kc)} {j2 : List Nat} {W : List (List Nat)} (R1 : RepM J k1 j1) (R2 : RepM Z k2 j2) (hW : RndOk g W) {μ : Mks} {V : Vst} {r : List Int} {k : Nat} {a b c u6 u7 u8 u9 u10 : Option D} {N : VEnds} : ∀ (xs : List Cs) (u11 u12 u13 u14 u15 : Option D), (∀ x ∈ xs, ∀ s ∈ r, (s = -1 ∧ rootM μ x (verF V s x) = 0) ∨ ∃ k : Nat, s = (k : Int) ∧ SrGood g J Z x (rootM μ x (verF V s x)) k) →
    (∀ u11 u12 u13 u14 u15, N.nx [a, b, c, some (rndD W), none, some (.lst false [mksD false k1 j1, mksD false k2 j2]), u6, u7, u8, u9, u10, u11, u12, u13, u14, u15]) →
    vForL (vNames [11, 12, 13]) lb_law2 (xs.map (jnD false μ V r k)) N [a, b, c, some (rndD W), none, some (.lst false [mksD false k1 j1, mksD false k2 j2]), u6, u7, u8, u9, u10, u11, u12, u13, u14, u15]
  | [], _, _, _, _, _, _, q => q _ _ _ _ _
  | x :: xs, u11, u12, u13, u14, u15, h, q => by
    rw [List.map_cons, e_forU lb_law2.eq_1]
    have ej : jnD false μ V r k x = .tup [.str x, .int (rowAt V.A k x : Int), .lst false (prs μ V x r)] := rfl
    rw [ej]
    simp! only [prs_fz]
    exact for_pairs R1 R2 hW r _ _ (h x List.mem_cons_self) fun u14 u15 => for_jns2 R1 R2 hW xs _ _ _ _ _ (fun y hy => h y (List.mem_cons_of_mem _ hy)) q
theorem isFzL_tail2 {a b : D} {s : Cs} {i : Int} (ha : isFz a = true) (hb : isFz b = true) : isFzL [a, .str s, b, .int i] = true := by simp [isFzL, isFz, ha, hb]
theorem isFzL_tail3 {a b : D} {s : Cs} {i j : Int} (ha : isFz a = true) (hb : isFz b = true) : isFzL [a, .str s, b, .int i, .int j] = true := by simp [isFzL, isFz, ha, hb]
theorem for_law3 {nm : List Cs} {S : List (List Int)} {V : Vst} (P : VerP nm S V) {g : List Nd} {μ : Mks} (h : SameP nm S V μ) (so : SrcOk g.length S) (N0 : NInv S g g.length V) (DI : DomI S g V μ) (nmt : ∀ x ∈ g, ∀ t ∈ txtsN x, t ∈ nm) {J Z : Mks} {k1 : List (List Kc)} {j1 : List Nat} {k2 : List (List Kc)} {j2 : List Nat} {W : List (List Nat)} (R1 : RepM J k1 j1) (R2 : RepM Z k2 j2) (hW : RndOk g W) (GV : GvM nm S g V μ J Z) {a b : Option D} {N : VEnds} : ∀ (m k : Nat) (u6 u7 u8 u9 u10 u11 u12 u13 u14 u15 : Option D), k + m = g.length →
    (∀ u6 u7 u8 u9 u10 u11 u12 u13 u14 u15, N.nx [a, b, some (.lst false (tellD false μ V S nm g)), some (rndD W), none, some (.lst false [mksD false k1 j1, mksD false k2 j2]), u6, u7, u8, u9, u10, u11, u12, u13, u14, u15]) →
    vForL (vName 6) lb_law3 (natsD (List.range' k m)) N [a, b, some (.lst false (tellD false μ V S nm g)), some (rndD W), none, some (.lst false [mksD false k1 j1, mksD false k2 j2]), u6, u7, u8, u9, u10, u11, u12, u13, u14, u15]
  | 0, k, _, _, _, _, _, _, _, _, _, _, _, q => q _ _ _ _ _ _ _ _ _ _
  | m + 1, k, u6, u7, u8, u9, u10, u11, u12, u13, u14, u15, hk, q => by
    show vForL (vName 6) lb_law3 (D.int (k : Int) :: natsD (List.range' (k + 1) m)) N _
    rw [e_forU lb_law3.eq_1]
    have lk : k < g.length := by omega
    have hx : g[k]? = some g[k] := List.getElem?_eq_getElem lk
    have gm : g[k] ∈ g := List.getElem_mem lk
    have hr : S[k]? = some ((S[k]?).getD []) := by rw [List.getElem?_eq_getElem (show k < S.length by rw [so.len]; exact lk)]; rfl
    have tx := tell_ix (μ := μ) (V := V) (S := S) (nm := nm) hx
    generalize hre : (S[k]?).getD [] = r at tx hr
    have lz : isFz (D.tup [.lst false (jnsD false μ V r k nm), ndTold μ V k g[k]]) = true := by simp [isFz, isFzL, jns_fz, ndTold_fz]
    have srcs : ∀ x ∈ leftL μ V r k nm, ∀ s ∈ r, (s = -1 ∧ rootM μ x (verF V s x) = 0) ∨ ∃ k : Nat, s = (k : Int) ∧ SrGood g J Z x (rootM μ x (verF V s x)) k := fun x hx s hs => by
      have hm := (List.mem_filter.mp hx).1
      rcases (so.row k r hr).1 s hs with rfl | ⟨h0, hl⟩
      · left
        have ev : verF V (-1) x = 0 := if_pos rfl
        have := (root_le h.dec 0 0 (Nat.le_refl _) (x := x)).1
        exact ⟨rfl, by rw [ev]; omega⟩
      · right
        obtain ⟨p, rfl⟩ := Int.eq_ofNat_of_zero_le h0
        have ev : verF V (p : Int) x = rowAt V.B p x := by unfold verF; rw [if_neg (by omega)]; rfl
        refine ⟨p, rfl, ?_⟩
        rw [ev]
        exact sr_good GV so N0 hm (root_le h.dec _ _ (Nat.le_refl _)).2 (DI p (by omega) x).2
    have opg : ∀ o : Opd, (∀ t ∈ txtsO o, t ∈ nm) → PrtOk ⟨g, J, Z, k1, j1, k2, j2, W, k⟩ (opTold μ V k o) := fun o ho => by
      cases o with
      | inl i => exact .inl ⟨i, rfl⟩
      | inr t => exact .inr (.inr ⟨t, _, rfl, op_good GV so N0 (ho t List.mem_cons_self) (root_le h.dec _ _ (Nat.le_refl _)).2 (DI k lk t).1⟩)
    have nt := nmt g[k] gm
    simp! only [tell_fz]
    refine ⟨_, tx, lz, ?_⟩
    simp! only [jns_fz, ndTold_fz]
    have go : ∀ u7 u8 u9 u10, vForL (vNames [11, 12, 13]) lb_law2 (jnsD false μ V r k nm) { nx := fun ε' => vForL (vName 6) lb_law3 (natsD (List.range' (k + 1) m)) N ε', rt := N.rt, bk := N.nx, ct := fun ε' => vForL (vName 6) lb_law3 (natsD (List.range' (k + 1) m)) N ε', rx := N.rx }
        [a, b, some (.lst false (tellD false μ V S nm g)), some (rndD W), none, some (.lst false [mksD false k1 j1, mksD false k2 j2]), some (.int (k : Int)), u7, u8, u9, u10, u11, u12, u13, u14, u15] := fun u7 u8 u9 u10 =>
      for_jns2 R1 R2 hW (leftL μ V r k nm) _ _ _ _ _ srcs fun _ _ _ _ _ => for_law3 P h so N0 DI nmt R1 R2 hW GV m (k + 1) _ _ _ _ _ _ _ _ _ _ (by omega) q
    have fin : ∀ (ds : List D) (u9 : Option D), (∀ d ∈ ds, PrtOk ⟨g, J, Z, k1, j1, k2, j2, W, k⟩ d ∧ isFz d = true) → vForL (vName 10) lb_law0 ds { nx := vFor (viLst (vVar 7)) (vNames [11, 12, 13]) lb_law2 { nx := fun ε' => vForL (vName 6) lb_law3 (natsD (List.range' (k + 1) m)) N ε', rt := N.rt, bk := N.nx, ct := fun ε' => vForL (vName 6) lb_law3 (natsD (List.range' (k + 1) m)) N ε', rx := N.rx }, rt := N.rt, bk := N.nx, ct := fun ε' => vForL (vName 6) lb_law3 (natsD (List.range' (k + 1) m)) N ε', rx := N.rx }
        [a, b, some (.lst false (tellD false μ V S nm g)), some (rndD W), none, some (.lst false [mksD false k1 j1, mksD false k2 j2]), some (.int (k : Int)), some (.lst false (jnsD false μ V r k nm)), some (ndTold μ V k g[k]), u9, u10, u11, u12, u13, u14, u15] := fun ds u9 hd => by
      refine for_parts R1 R2 hW ds _ hd fun u10 => ?_
      simp! only [jns_fz]
      exact go _ _ _ _
    have hh : ∀ x, g[k] = x → ndTold μ V k g[k] = ndTold μ V k x := fun x e => by rw [e]
    cases eg : g[k] with
    | sum y o1 s o2 to =>
      rw [eg] at nt fin
      have p1 := opg o1 fun t ht => nt t (List.mem_cons_of_mem _ (List.mem_append_left _ ht))
      have p2 := opg o2 fun t ht => nt t (List.mem_cons_of_mem _ (List.mem_append_right _ ht))
      have hd : ∀ d ∈ [opTold μ V k o1, .str s, opTold μ V k o2, .int (to : Int)], PrtOk ⟨g, J, Z, k1, j1, k2, j2, W, k⟩ d ∧ isFz d = true := fun d hd => by
        simp only [List.mem_cons, List.not_mem_nil, or_false] at hd
        rcases hd with rfl | rfl | rfl | rfl
        · exact ⟨p1, opTold_fz _ _ _ _⟩
        · exact ⟨.inr (.inl ⟨_, rfl⟩), rfl⟩
        · exact ⟨p2, opTold_fz _ _ _ _⟩
        · exact ⟨.inl ⟨_, rfl⟩, rfl⟩
      have f := fin _ (some (.int 2)) hd
      unfold ndTold at f ⊢
      simp! only [opTold_fz]
      refine e_intB.mpr (e_addI.mpr ⟨rfl, _, rfl, ?_, f⟩)
      exact isFzL_tail2 (opTold_fz _ _ _ _) (opTold_fz _ _ _ _)
    | test o1 s o2 y n =>
      rw [eg] at nt fin
      have p1 := opg o1 fun t ht => nt t (List.mem_append_left _ ht)
      have p2 := opg o2 fun t ht => nt t (List.mem_append_right _ ht)
      have hd : ∀ d ∈ [opTold μ V k o1, .str s, opTold μ V k o2, .int (y : Int), .int (n : Int)], PrtOk ⟨g, J, Z, k1, j1, k2, j2, W, k⟩ d ∧ isFz d = true := fun d hd => by
        simp only [List.mem_cons, List.not_mem_nil, or_false] at hd
        rcases hd with rfl | rfl | rfl | rfl | rfl
        · exact ⟨p1, opTold_fz _ _ _ _⟩
        · exact ⟨.inr (.inl ⟨_, rfl⟩), rfl⟩
        · exact ⟨p2, opTold_fz _ _ _ _⟩
        · exact ⟨.inl ⟨_, rfl⟩, rfl⟩
        · exact ⟨.inl ⟨_, rfl⟩, rfl⟩
      have f := fin _ (some (.int 1)) hd
      unfold ndTold at f ⊢
      simp! only [opTold_fz]
      refine e_intB.mpr (e_addI.mpr ⟨rfl, _, rfl, ?_, f⟩)
      exact isFzL_tail3 (opTold_fz _ _ _ _) (opTold_fz _ _ _ _)
    | fin =>
      rw [eg] at fin
      have f := fin [] (some (.int 1)) (fun d hd => nomatch hd)
      unfold ndTold ndD ndL at f ⊢
      simp! only []
      exact e_intB.mpr (e_addI.mpr ⟨rfl, _, rfl, rfl, f⟩)
    | spin =>
      rw [eg] at fin
      have f := fin [] (some (.int 1)) (fun d hd => nomatch hd)
      unfold ndTold ndD ndL at f ⊢
      simp! only []
      exact e_intB.mpr (e_addI.mpr ⟨rfl, _, rfl, rfl, f⟩)
theorem rd_law : Rd 1 [true] 16 sp_law t_law := by
  rintro ds Q Ex - ⟨ns, rfl, ⟨hn, hb⟩, q⟩
  have hn : ns.length ≤ 63 := hn
  have q : Q (.bl true) [scriptD ns] := q
  unfold t_law
  simp! only [script_fz]
  refine c_Ldrawn ⟨hn, hb⟩ fun g M hg few hM => ⟨rfl, ?_⟩
  simp! only [script_fz, frzL_nds, isFzL_nds]
  refine c_once ⟨hg, by omega, hM⟩ fun μ h => ⟨rfl, ?_⟩
  have so := src_ok hg (show g.length ≤ 62 by omega)
  have N := ver_num so
  have fw := hM.len
  have fw2 := hM.few
  have P : VerP (namesG g) (srcG g) (verG (srcG g) g) := verP_of so (namesG_nodup g) (by omega)
  have sl := so.len
  have DI := dom_hist P so (srcG_g g) hg N h.hist
  have nmt : ∀ x ∈ g, ∀ t ∈ txtsN x, t ∈ namesG g := fun x hx t ht => namesG_mem.mpr ⟨x, hx, ht⟩
  generalize srcG g = S at h P sl DI N so ⊢
  generalize verG S g = V at h P DI N ⊢
  generalize namesG g = nm at h P nmt ⊢
  simp! only [script_fz, frzL_nds, isFzL_nds, tell_frz, tell_fz, tell_len]
  refine ite_no (by simp) ⟨by omega, by omega, ?_⟩
  rw [Int.toNat_natCast, rngN, List.range_eq_range']
  refine lc_rnd hg (by omega) g.length 0 [] (by omega) rfl (fun i w hi => by simp at hi) fun W hW => ?_
  simp! only [tell_fz, rnd_frz]
  refine c_Lgivers ⟨P, by omega⟩ fun J Z k1 j1 k2 j2 R1 R2 GV => ⟨rfl, ?_⟩
  simp! only [isFzL_nds, two_frz, mks_frz]
  refine ⟨by omega, by omega, ?_⟩
  rw [Int.toNat_natCast, rngN, List.range_eq_range']
  refine for_law3 P h so N DI nmt R1 R2 hW GV g.length 0 _ _ _ _ _ _ _ _ _ _ (by omega) fun _ _ _ _ _ _ _ _ _ _ => ?_
  simp! only [script_fz]
  exact q
theorem law_true (ns : List Int) (hl : ns.length ≤ 63) (hb : ∀ z ∈ ns, Builtin.Int.intBits z ≤ 1048576) : sp_law [scriptD ns] (fun r _ => r = .bl true) (fun _ _ _ => False) := ⟨ns, rfl, ⟨hl, hb⟩, rfl⟩
end Pk82
namespace Pk82
open PySem PySem.Spec PyProof.Rows L2 VL
structure Hd (K : PySem.W.Frag) (mg : Str → Option Value) : Prop where
  f_Versions_version_from : ∃ fd, FunD K "version_from" "Versions.version_from" (defArgs s_Versions_version_from) (defBody s_Versions_version_from) (defScope s_Versions_version_from) [] [] (He.ma K (He.ga K "Versions") "version_from") fd
  f_Versions_pass_by : ∃ fd, FunD K "pass_by" "Versions.pass_by" (defArgs s_Versions_pass_by) (defBody s_Versions_pass_by) (defScope s_Versions_pass_by) [] [] (He.ma K (He.ga K "Versions") "pass_by") fd
  f_Versions_enter : ∃ fd, FunD K "enter" "Versions.enter" (defArgs s_Versions_enter) (defBody s_Versions_enter) (defScope s_Versions_enter) [] [] (He.ma K (He.ga K "Versions") "enter") fd
  f_Versions_new_one : ∃ fd, FunD K "new_one" "Versions.new_one" (defArgs s_Versions_new_one) (defBody s_Versions_new_one) (defScope s_Versions_new_one) [] [] (He.ma K (He.ga K "Versions") "new_one") fd
  f_Versions_init : ∃ fd, FunD K "__init__" "Versions.__init__" (defArgs s_Versions_init) (defBody s_Versions_init) (defScope s_Versions_init) [] [] (He.ma K (He.ga K "Versions") "__init__") fd
  f_ways : FnAt K mg "ways" s_ways
  f_comings : FnAt K mg "comings" s_comings
  f_names_of : FnAt K mg "names_of" s_names_of
  f_sources_of : FnAt K mg "sources_of" s_sources_of
  f_found_same : FnAt K mg "found_same" s_found_same
  f_joinings_spared : FnAt K mg "joinings_spared" s_joinings_spared
  f_joinings_of : FnAt K mg "joinings_of" s_joinings_of
  f_operand_told : FnAt K mg "operand_told" s_operand_told
  f_node_told : FnAt K mg "node_told" s_node_told
  f_once : FnAt K mg "once" s_once
  f_Lcell : FnAt K mg "_law_cell" s_Lcell
  f_Lmixed : FnAt K mg "_law_mixed" s_Lmixed
  f_Lgreat : FnAt K mg "_law_great" s_Lgreat
  f_Lfar : FnAt K mg "_law_far" s_Lfar
  f_Lnode : FnAt K mg "_law_node" s_Lnode
  f_Lgoals : FnAt K mg "_law_goals" s_Lgoals
  f_Lorder : FnAt K mg "_law_order" s_Lorder
  f_Lgraph : FnAt K mg "_law_graph" s_Lgraph
  f_Lmenu : FnAt K mg "_law_menu" s_Lmenu
  f_Lword : FnAt K mg "_law_word" s_Lword
  f_Lcalled : FnAt K mg "_law_called" s_Lcalled
  f_Ldrawn : FnAt K mg "_law_drawn" s_Ldrawn
  f_Lwithout : FnAt K mg "_law_without" s_Lwithout
  f_Lgivers : FnAt K mg "_law_givers" s_Lgivers
  f_Lgood_operand : FnAt K mg "_law_good_operand" s_Lgood_operand
  f_Lgood_source : FnAt K mg "_law_good_source" s_Lgood_source
  f_law : FnAt K mg "law" s_law
  kl_Versions : Cls K (cA K 3)
  mk_Versions : L2.Mk K (cA K 3) (He.ma K (He.ga K "Versions") "__init__")
  gc_Versions : mg "Versions" = some (.ref (cA K 3))
  na_Versions_behind : NoAttr K (cA K 3) "behind"
  na_Versions_ahead : NoAttr K (cA K 3) "ahead"
  na_Versions_sources : NoAttr K (cA K 3) "sources"
  na_Versions_names : NoAttr K (cA K 3) "names"
  na_Versions_given : NoAttr K (cA K 3) "given"
  me_Versions_new_one : Meth K (cA K 3) "new_one" (He.ma K (He.ga K "Versions") "new_one")
  me_Versions_enter : Meth K (cA K 3) "enter" (He.ma K (He.ga K "Versions") "enter")
  me_Versions_pass_by : Meth K (cA K 3) "pass_by" (He.ma K (He.ga K "Versions") "pass_by")
  me_Versions_version_from : Meth K (cA K 3) "version_from" (He.ma K (He.ga K "Versions") "version_from")
  b_dict : mg "dict" = none
  b_len : mg "len" = none
  b_enumerate : mg "enumerate" = none
  b_isinstance : mg "isinstance" = none
  b_str : mg "str" = none
  b_sorted : mg "sorted" = none
  b_set : mg "set" = none
  b_min : mg "min" = none
  b_max : mg "max" = none
  b_range : mg "range" = none
  b_list : mg "list" = none
  b_tuple : mg "tuple" = none
  b_int : mg "int" = none
theorem sc_Versions_version_from : FnScope ["self", "source", "name"] ["self", "source", "name"] (defScope s_Versions_version_from) := ⟨rfl, rfl, rfl, by decide +kernel, rfl, by decide +kernel, by decide +kernel⟩
theorem M_Versions_version_from {P : Program} {w : World} {K : PySem.W.Frag} {mg : Str → Option Value} {base : Heap} (c : Hd K mg) : Mv P w K mg base 3 "version_from" 1 3 sp_Versions_version_from :=
  Mv.make (κ := [true, true, true]) (t := t_Versions_version_from) c.f_Versions_version_from c.me_Versions_version_from sc_Versions_version_from (fun F => F.bindsN fun _ _ _ _ _ _ us hl => match us, hl with | [_, _, _], _ => rfl) rfl (by decide)
    (fun f cdv A outer s H E hr => let sc := sc_Versions_version_from; (vss_cons (vs_if (vt_cmp (opr_eq hr) opn_eq (vg_val (nv 1)) (vg_val (ve_un un_neg opn_neg (vg_val (ve_int)))) rfl) (vss_one (vs_ret (ve_int))) (vss_nil)) (vss_one (vs_ret (ve_view (wv_ix hr (wv_ix hr (wv_fld (wv_name 0) c.kl_Versions c.na_Versions_behind rfl) (wv_name 1) (fun _ _ => rfl)) (wv_name 2) (fun _ _ => rfl))))))) mono_Versions_version_from rd_Versions_version_from
theorem sc_Versions_new_one : FnScope ["self", "name"] ["self", "name"] (defScope s_Versions_new_one) := ⟨rfl, rfl, rfl, by decide +kernel, rfl, by decide +kernel, by decide +kernel⟩
theorem M_Versions_new_one {P : Program} {w : World} {K : PySem.W.Frag} {mg : Str → Option Value} {base : Heap} (c : Hd K mg) : Mv P w K mg base 3 "new_one" 1 2 sp_Versions_new_one :=
  Mv.make (κ := [true, true]) (t := t_Versions_new_one) c.f_Versions_new_one c.me_Versions_new_one sc_Versions_new_one (fun F => F.bindsN fun _ _ _ _ _ _ us hl => match us, hl with | [_, _], _ => rfl) rfl (by decide)
    (fun f cdv A outer s H E hr => let sc := sc_Versions_new_one; (vss_cons (vs_augP hr iop_add (vp_fd (np 0) c.kl_Versions c.na_Versions_given rfl) (nq 1) (vq_int)) (vss_one (vs_ret (ve_view (wv_ix hr (wv_fld (wv_name 0) c.kl_Versions c.na_Versions_given rfl) (wv_name 1) (fun _ _ => rfl))))))) mono_Versions_new_one rd_Versions_new_one
theorem sc_ways : FnScope ["node"] ["node"] (defScope s_ways) := ⟨rfl, rfl, rfl, by decide +kernel, rfl, by decide +kernel, by decide +kernel⟩
theorem F_ways {P : Program} {w : World} {K : PySem.W.Frag} {mg : Str → Option Value} {base : Heap} (c : Hd K mg) : Fv P w K mg base "ways" 1 1 sp_ways :=
  Fv.mk2 (κ := [true]) (t := t_ways) c.f_ways sc_ways (fun F => F.bindsN fun _ _ _ _ _ _ us hl => match us, hl with | [_], _ => rfl) rfl (by decide)
    (fun f cdv A outer s H E hr => let sc := sc_ways; (vss_cons (vs_if (vt_cmp (opr_eq hr) opn_eq (vg_val (ve_ix hr (vg_val (nv 0)) (vg_val (ve_int)) (fun _ _ => rfl))) (vg_val ((ve_str rfl))) rfl) (vss_one (vs_ret (ve_tup (va_cons (vg_val (ve_ix hr (vg_val (nv 0)) (vg_val (ve_int)) (fun _ _ => rfl))) (va_nil))))) (vss_nil)) (vss_cons (vs_if (vt_cmp (opr_eq hr) opn_eq (vg_val (ve_ix hr (vg_val (nv 0)) (vg_val (ve_int)) (fun _ _ => rfl))) (vg_val ((ve_str rfl))) rfl) (vss_one (vs_ret (ve_tup (va_cons (vg_val (ve_ix hr (vg_val (nv 0)) (vg_val (ve_int)) (fun _ _ => rfl))) (va_cons (vg_val (ve_ix hr (vg_val (nv 0)) (vg_val (ve_int)) (fun _ _ => rfl))) (va_nil)))))) (vss_nil)) (vss_one (vs_ret (ve_tup (va_nil))))))) mono_ways rd_ways
theorem sc_names_of : FnScope ["graph", "found", "node", "part"] ["graph"] (defScope s_names_of) := ⟨rfl, rfl, rfl, by decide +kernel, rfl, by decide +kernel, by decide +kernel⟩
theorem F_names_of {P : Program} {w : World} {K : PySem.W.Frag} {mg : Str → Option Value} {base : Heap} (c : Hd K mg) : Fv P w K mg base "names_of" 1 1 sp_names_of :=
  Fv.mk2 (κ := [true]) (t := t_names_of) c.f_names_of sc_names_of (fun F => F.bindsN fun _ _ _ _ _ _ us hl => match us, hl with | [_], _ => rfl) rfl (by decide)
    (fun f cdv A outer s H E hr => let sc := sc_names_of; (vss_cons (sa 1 sc.nd (ve_dK)) (vss_cons (vs_for (passes_of rfl) rfl (vi_lst (nv 0)) (tn 2 sc.nd) (vss_one (vs_for (passes_of rfl) rfl (vi_tup (ve_slice (vg_val (nv 2)) (vo_some (ve_int)) (vo_some (ve_int)))) (tn 3 sc.nd) (vss_one (vs_if (vt_w (vw_and (vt_val (ve_callB call_isi opn_isi rfl c.b_isinstance rfl (va_cons (vg_val (nv 3)) (va_cons (vg_val ((ve_ty rfl c.b_str rfl))) (va_nil))))) (vw_and1 (vt_cmp (opr_notIn hr) opn_in (vg_val (nv 3)) (vg_val (ve_tup (va_cons (vg_val ((ve_str rfl))) (va_cons (vg_val ((ve_str rfl))) (va_cons (vg_val ((ve_str rfl))) (va_cons (vg_val ((ve_str rfl))) (va_cons (vg_val ((ve_str rfl))) (va_cons (vg_val ((ve_str rfl))) (va_cons (vg_val ((ve_str rfl))) (va_cons (vg_val ((ve_str rfl))) (va_nil))))))))))) rfl)))) (vss_one (vs_set hr (ve_bl) (np 1) (nq 3))) (vss_nil)))))) (vss_one (vs_ret (ve_callB (call_sortedD rfl) opn_sortD rfl c.b_sorted rfl (al 1 (va_nil)))))))) mono_names_of rd_names_of
theorem sc_found_same : FnScope ["same", "name", "version"] ["same", "name", "version"] (defScope s_found_same) := ⟨rfl, rfl, rfl, by decide +kernel, rfl, by decide +kernel, by decide +kernel⟩
theorem F_found_same {P : Program} {w : World} {K : PySem.W.Frag} {mg : Str → Option Value} {base : Heap} (c : Hd K mg) : Fv P w K mg base "found_same" 1 3 sp_found_same :=
  Fv.mk2 (κ := [true, true, false]) (t := t_found_same) c.f_found_same sc_found_same (fun F => F.bindsN fun _ _ _ _ _ _ us hl => match us, hl with | [_, _, _], _ => rfl) rfl (by decide)
    (fun f cdv A outer s H E hr => let sc := sc_found_same; (vss_cons (vs_while (passes_of rfl) (vt_cmp (opr_in hr) opn_in (vg_val (ve_tup (va_cons (vg_val (nv 1)) (va_cons (vg_val (nv 2)) (va_nil))))) (vg_val (nv 0)) rfl) (vss_one (sa 2 sc.nd (ve_ix hr (vg_val (nv 0)) (vg_val (ve_tup (va_cons (vg_val (nv 1)) (va_cons (vg_val (nv 2)) (va_nil))))) (fun _ _ => rfl))))) (vss_one (vs_ret (nv 2))))) mono_found_same rd_found_same
theorem sc_Lcell : FnScope ["_law_script", "_law_k"] ["_law_script", "_law_k"] (defScope s_Lcell) := ⟨rfl, rfl, rfl, by decide +kernel, rfl, by decide +kernel, by decide +kernel⟩
theorem F_Lcell {P : Program} {w : World} {K : PySem.W.Frag} {mg : Str → Option Value} {base : Heap} (c : Hd K mg) : Fv P w K mg base "_law_cell" 1 2 sp_Lcell :=
  Fv.mk2 (κ := [true, true]) (t := t_Lcell) c.f_Lcell sc_Lcell (fun F => F.bindsN fun _ _ _ _ _ _ us hl => match us, hl with | [_, _], _ => rfl) rfl (by decide)
    (fun f cdv A outer s H E hr => let sc := sc_Lcell; (vss_cons (vs_if (vt_cmp op_lt opn_lt (vg_val (nv 1)) (vg_val (ve_callB call_lenA opn_len rfl c.b_len rfl (va_cons (vg_val (nv 0)) (va_nil)))) rfl) (vss_one (vs_ret (ve_ix hr (vg_val (nv 0)) (vg_val (nv 1)) (fun _ _ => rfl)))) (vss_nil)) (vss_one (vs_ret (ve_int))))) mono_Lcell rd_Lcell
theorem sc_Lmixed : FnScope ["_law_cell_here", "_law_k", "_law_number"] ["_law_cell_here", "_law_k"] (defScope s_Lmixed) := ⟨rfl, rfl, rfl, by decide +kernel, rfl, by decide +kernel, by decide +kernel⟩
theorem F_Lmixed {P : Program} {w : World} {K : PySem.W.Frag} {mg : Str → Option Value} {base : Heap} (c : Hd K mg) : Fv P w K mg base "_law_mixed" 1 2 sp_Lmixed :=
  Fv.mk2 (κ := [true, true]) (t := t_Lmixed) c.f_Lmixed sc_Lmixed (fun F => F.bindsN fun _ _ _ _ _ _ us hl => match us, hl with | [_, _], _ => rfl) rfl (by decide)
    (fun f cdv A outer s H E hr => let sc := sc_Lmixed; (vss_cons (sa 2 sc.nd (ve_bin op_modN opn_mod (vg_val (ve_bin opr_add opn_add (vg_val (ve_bin opr_add opn_add (vg_val (ve_bin opr_mulA opn_mul (vg_val (ve_bin op_modN opn_mod (vg_val (nv 0)) (vg_val (ve_int)))) (vg_val (ve_int)))) (vg_val (ve_bin opr_mulA opn_mul (vg_val (ve_bin opr_mulA opn_mul (vg_val (ve_int)) (vg_val (nv 1)))) (vg_val (nv 1)))))) (vg_val (ve_int)))) (vg_val (ve_int)))) (vss_one (vs_ret (ve_bin op_modN opn_mod (vg_val (ve_bin opr_mulA opn_mul (vg_val (nv 2)) (vg_val (nv 2)))) (vg_val (ve_int))))))) mono_Lmixed rd_Lmixed
theorem sc_Lgreat : FnScope ["_law_number"] ["_law_number"] (defScope s_Lgreat) := ⟨rfl, rfl, rfl, by decide +kernel, rfl, by decide +kernel, by decide +kernel⟩
theorem F_Lgreat {P : Program} {w : World} {K : PySem.W.Frag} {mg : Str → Option Value} {base : Heap} (c : Hd K mg) : Fv P w K mg base "_law_great" 1 1 sp_Lgreat :=
  Fv.mk2 (κ := [true]) (t := t_Lgreat) c.f_Lgreat sc_Lgreat (fun F => F.bindsN fun _ _ _ _ _ _ us hl => match us, hl with | [_], _ => rfl) rfl (by decide)
    (fun f cdv A outer s H E hr => let sc := sc_Lgreat; (vss_one (vs_ret (ve_bin op_sub opn_sub (vg_val (ve_bin op_modN opn_mod (vg_val (ve_bin opr_mulA opn_mul (vg_val (nv 0)) (vg_val (ve_bin op_pow opn_pow (vg_val (ve_int)) (vg_val (ve_int)))))) (vg_val (ve_bin opr_add opn_add (vg_val (ve_bin opr_mulA opn_mul (vg_val (ve_int)) (vg_val (ve_bin op_pow opn_pow (vg_val (ve_int)) (vg_val (ve_int)))))) (vg_val (ve_int)))))) (vg_val (ve_bin op_pow opn_pow (vg_val (ve_int)) (vg_val (ve_int)))))))) mono_Lgreat rd_Lgreat
theorem sc_Lfar : FnScope ["_law_number", "_law_k", "_law_many", "_law_mode", "_law_to"] ["_law_number", "_law_k", "_law_many", "_law_mode"] (defScope s_Lfar) := ⟨rfl, rfl, rfl, by decide +kernel, rfl, by decide +kernel, by decide +kernel⟩
theorem F_Lfar {P : Program} {w : World} {K : PySem.W.Frag} {mg : Str → Option Value} {base : Heap} (c : Hd K mg) : Fv P w K mg base "_law_far" 1 4 sp_Lfar :=
  Fv.mk2 (κ := [true, true, true, true]) (t := t_Lfar) c.f_Lfar sc_Lfar (fun F => F.bindsN fun _ _ _ _ _ _ us hl => match us, hl with | [_, _, _, _], _ => rfl) rfl (by decide)
    (fun f cdv A outer s H E hr => let sc := sc_Lfar; (vss_cons (vs_if (vt_cmp (opr_eq hr) opn_eq (vg_val (nv 3)) (vg_val (ve_int)) rfl) (vss_cons (sa 4 sc.nd (ve_bin opr_add opn_add (vg_val (ve_bin opr_add opn_add (vg_val (nv 1)) (vg_val (ve_int)))) (vg_val (ve_bin op_modN opn_mod (vg_val (ve_bin opr_div opn_div (vg_val (nv 0)) (vg_val (ve_int)))) (vg_val (ve_bin op_sub opn_sub (vg_val (nv 2)) (vg_val (nv 1)))))))) (vss_cons (vs_if (vt_cmp op_lt opn_lt (vg_val (nv 4)) (vg_val (nv 2)) rfl) (vss_one (vs_ret (nv 4))) (vss_nil)) (vss_one (vs_ret (ve_ix hr (vg_val (ve_lst (va_cons (vg_val (ve_int)) (va_cons (vg_val (nv 1)) (va_nil))))) (vg_val (ve_bin op_modN opn_mod (vg_val (ve_bin opr_div opn_div (vg_val (nv 0)) (vg_val (ve_int)))) (vg_val (ve_int)))) (fun _ _ => rfl)))))) (vss_nil)) (vss_cons (vs_if (vt_w (vw_and (vt_cmp (opr_eq hr) opn_eq (vg_val (nv 3)) (vg_val (ve_int)) rfl) (vw_and1 (vt_cmp (opr_eq hr) opn_eq (vg_val (ve_bin op_modN opn_mod (vg_val (ve_bin opr_div opn_div (vg_val (nv 0)) (vg_val (ve_int)))) (vg_val (ve_int)))) (vg_val (ve_int)) rfl)))) (vss_one (vs_ret (ve_callB (call_min2 rfl) opn_min rfl c.b_min rfl (va_cons (vg_val (ve_bin opr_add opn_add (vg_val (ve_bin opr_add opn_add (vg_val (nv 1)) (vg_val (ve_int)))) (vg_val (ve_bin op_modN opn_mod (vg_val (ve_bin opr_div opn_div (vg_val (nv 0)) (vg_val (ve_int)))) (vg_val (ve_int)))))) (va_cons (vg_val (ve_bin op_sub opn_sub (vg_val (nv 2)) (vg_val (ve_int)))) (va_nil)))))) (vss_nil)) (vss_cons (vs_if (vt_cmp (opr_eq hr) opn_eq (vg_val (nv 3)) (vg_val (ve_int)) rfl) (vss_one (vs_ret (ve_bin op_sub opn_sub (vg_val (nv 1)) (vg_val (ve_bin op_modN opn_mod (vg_val (nv 1)) (vg_val (ve_ix hr (vg_val (ve_lst (va_cons (vg_val (ve_int)) (va_cons (vg_val (ve_int)) (va_cons (vg_val (ve_int)) (va_cons (vg_val (ve_int)) (va_nil))))))) (vg_val (ve_bin op_modN opn_mod (vg_val (ve_bin opr_div opn_div (vg_val (nv 0)) (vg_val (ve_int)))) (vg_val (ve_int)))) (fun _ _ => rfl)))))))) (vss_nil)) (vss_one (vs_ret (ve_bin op_modN opn_mod (vg_val (ve_bin opr_div opn_div (vg_val (nv 0)) (vg_val (ve_int)))) (vg_val (nv 2))))))))) mono_Lfar rd_Lfar
theorem sc_Lgoals : FnScope ["_law_node_here"] ["_law_node_here"] (defScope s_Lgoals) := ⟨rfl, rfl, rfl, by decide +kernel, rfl, by decide +kernel, by decide +kernel⟩
theorem F_Lgoals {P : Program} {w : World} {K : PySem.W.Frag} {mg : Str → Option Value} {base : Heap} (c : Hd K mg) : Fv P w K mg base "_law_goals" 1 1 sp_Lgoals :=
  Fv.mk2 (κ := [true]) (t := t_Lgoals) c.f_Lgoals sc_Lgoals (fun F => F.bindsN fun _ _ _ _ _ _ us hl => match us, hl with | [_], _ => rfl) rfl (by decide)
    (fun f cdv A outer s H E hr => let sc := sc_Lgoals; (vss_cons (vs_if (vt_cmp (opr_eq hr) opn_eq (vg_val (ve_ix hr (vg_val (nv 0)) (vg_val (ve_int)) (fun _ _ => rfl))) (vg_val ((ve_str rfl))) rfl) (vss_one (vs_ret (ve_lst (va_cons (vg_val (ve_ix hr (vg_val (nv 0)) (vg_val (ve_int)) (fun _ _ => rfl))) (va_nil))))) (vss_nil)) (vss_cons (vs_if (vt_cmp (opr_eq hr) opn_eq (vg_val (ve_ix hr (vg_val (nv 0)) (vg_val (ve_int)) (fun _ _ => rfl))) (vg_val ((ve_str rfl))) rfl) (vss_one (vs_ret (ve_lst (va_cons (vg_val (ve_ix hr (vg_val (nv 0)) (vg_val (ve_int)) (fun _ _ => rfl))) (va_cons (vg_val (ve_ix hr (vg_val (nv 0)) (vg_val (ve_int)) (fun _ _ => rfl))) (va_nil)))))) (vss_nil)) (vss_one (vs_ret (ve_lst (va_nil))))))) mono_Lgoals rd_Lgoals
theorem sc_Lmenu : FnScope ["_law_cell_here", "_law_some"] ["_law_cell_here"] (defScope s_Lmenu) := ⟨rfl, rfl, rfl, by decide +kernel, rfl, by decide +kernel, by decide +kernel⟩
theorem F_Lmenu {P : Program} {w : World} {K : PySem.W.Frag} {mg : Str → Option Value} {base : Heap} (c : Hd K mg) : Fv P w K mg base "_law_menu" 1 1 sp_Lmenu :=
  Fv.mk2 (κ := [true]) (t := t_Lmenu) c.f_Lmenu sc_Lmenu (fun F => F.bindsN fun _ _ _ _ _ _ us hl => match us, hl with | [_], _ => rfl) rfl (by decide)
    (fun f cdv A outer s H E hr => let sc := sc_Lmenu; (vss_cons (sa 1 sc.nd (ve_still (ve_lst (va_cons (vg_val (ve_lst (va_cons (vg_val ((ve_str rfl))) (va_cons (vg_val ((ve_str rfl))) (va_cons (vg_val ((ve_str rfl))) (va_cons (vg_val ((ve_str rfl))) (va_nil))))))) (va_cons (vg_val (ve_lst (va_cons (vg_val ((ve_str rfl))) (va_cons (vg_val ((ve_str rfl))) (va_cons (vg_val ((ve_str rfl))) (va_cons (vg_val ((ve_str rfl))) (va_nil))))))) (va_cons (vg_val (ve_lst (va_cons (vg_val ((ve_str rfl))) (va_cons (vg_val ((ve_str rfl))) (va_cons (vg_val ((ve_str rfl))) (va_cons (vg_val ((ve_str rfl))) (va_nil))))))) (va_nil))))))) (vss_cons (sa 1 sc.nd (ve_still (ve_addL (nv 1) (ve_lst (va_cons (vg_val (ve_lst (va_cons (vg_val ((ve_str rfl))) (va_cons (vg_val ((ve_str rfl))) (va_cons (vg_val ((ve_str rfl))) (va_cons (vg_val ((ve_str rfl))) (va_nil))))))) (va_cons (vg_val (ve_lst (va_cons (vg_val ((ve_str rfl))) (va_cons (vg_val ((ve_str rfl))) (va_cons (vg_val ((ve_str rfl))) (va_cons (vg_val ((ve_str rfl))) (va_nil))))))) (va_nil))))))) (vss_one (vs_ret (ve_ix hr (vg_val (nv 1)) (vg_val (ve_bin op_modN opn_mod (vg_val (nv 0)) (vg_val (ve_int)))) (fun _ _ => rfl))))))) mono_Lmenu rd_Lmenu
theorem sc_Lword : FnScope ["_law_part", "_law_names"] ["_law_part", "_law_names"] (defScope s_Lword) := ⟨rfl, rfl, rfl, by decide +kernel, rfl, by decide +kernel, by decide +kernel⟩
theorem F_Lword {P : Program} {w : World} {K : PySem.W.Frag} {mg : Str → Option Value} {base : Heap} (c : Hd K mg) : Fv P w K mg base "_law_word" 1 2 sp_Lword :=
  Fv.mk2 (κ := [true, true]) (t := t_Lword) c.f_Lword sc_Lword (fun F => F.bindsN fun _ _ _ _ _ _ us hl => match us, hl with | [_, _], _ => rfl) rfl (by decide)
    (fun f cdv A outer s H E hr => let sc := sc_Lword; (vss_cons (vs_if (vt_val (ve_callB call_isi opn_isi rfl c.b_isinstance rfl (va_cons (vg_val (nv 0)) (va_cons (vg_val ((ve_ty rfl c.b_str rfl))) (va_nil))))) (vss_one (vs_ret (ve_ix hr (vg_val (nv 1)) (vg_val (ve_view (wv_meth PySem.F.plainAttrs_list PySem.F.slot_list_index PySem.F.type_list_index (mt_indexA hr) opn_index (wv_lst (wvs_cons ((wv_str rfl)) (wvs_cons ((wv_str rfl)) (wvs_cons ((wv_str rfl)) (wvs_cons ((wv_str rfl)) (wvs_nil)))))) (wvs_cons (wv_name 0) (wvs_nil))))) (fun _ _ => rfl)))) (vss_nil)) (vss_one (vs_ret (nv 0))))) mono_Lword rd_Lword
theorem sc_Lgivers : FnScope ["_law_found", "_law_by_joining", "_law_by_sum", "_law_k", "_law_joinings", "_law_node_here", "_law_joining"] ["_law_found"] (defScope s_Lgivers) := ⟨rfl, rfl, rfl, by decide +kernel, rfl, by decide +kernel, by decide +kernel⟩
theorem F_Lgivers {P : Program} {w : World} {K : PySem.W.Frag} {mg : Str → Option Value} {base : Heap} (c : Hd K mg) : Fv P w K mg base "_law_givers" 1 1 sp_Lgivers :=
  Fv.mk2 (κ := [true]) (t := t_Lgivers) c.f_Lgivers sc_Lgivers (fun F => F.bindsN fun _ _ _ _ _ _ us hl => match us, hl with | [_], _ => rfl) rfl (by decide)
    (fun f cdv A outer s H E hr => let sc := sc_Lgivers; (vss_cons (sa 1 sc.nd (ve_dT)) (vss_cons (sa 2 sc.nd (ve_dT)) (vss_cons (vs_for (passes_of rfl) rfl (vi_range1 rfl c.b_range (va_cons (vg_val (ve_callB call_lenA opn_len rfl c.b_len rfl (va_cons (vg_val (nv 0)) (va_nil)))) (va_nil))) (tn 3 sc.nd) (vss_cons (vs_asgT (ve_ix hr (vg_val (nv 0)) (vg_val (nv 3)) (fun _ _ => rfl)) (vt_names (n := 0) rfl (vns_cons (i := 4) sc.nd rfl (by first | exact Or.inl rfl | exact Or.inr rfl) (ne_of_beq_false rfl) (vns_cons (i := 5) sc.nd rfl (by first | exact Or.inl rfl | exact Or.inr rfl) (ne_of_beq_false rfl) (vns_nil))))) (vss_cons (vs_for (passes_of rfl) rfl (vi_lst (nv 4)) (tn 6 sc.nd) (vss_one (vs_set hr (nv 3) (np 1) (vq_slice (nq 6) voc_none voc_int)))) (vss_one (vs_if (vt_cmp (opr_eq hr) opn_eq (vg_val (ve_ix hr (vg_val (nv 5)) (vg_val (ve_int)) (fun _ _ => rfl))) (vg_val ((ve_str rfl))) rfl) (vss_one (vs_set hr (nv 3) (np 2) (vq_ix hr (nq 5) (vq_int) (fun _ _ => rfl)))) (vss_nil)))))) (vss_one (vs_ret (ve_lst (al 1 (al 2 (va_nil)))))))))) mono_Lgivers rd_Lgivers
theorem sc_Lgood_operand : FnScope ["_law_part", "_law_k", "_law_givers_here", "_law_round_about"] ["_law_part", "_law_k", "_law_givers_here", "_law_round_about"] (defScope s_Lgood_operand) := ⟨rfl, rfl, rfl, by decide +kernel, rfl, by decide +kernel, by decide +kernel⟩
theorem F_Lgood_operand {P : Program} {w : World} {K : PySem.W.Frag} {mg : Str → Option Value} {base : Heap} (c : Hd K mg) : Fv P w K mg base "_law_good_operand" 1 4 sp_Lgood_operand :=
  Fv.mk2 (κ := [true, true, true, true]) (t := t_Lgood_operand) c.f_Lgood_operand sc_Lgood_operand (fun F => F.bindsN fun _ _ _ _ _ _ us hl => match us, hl with | [_, _, _, _], _ => rfl) rfl (by decide)
    (fun f cdv A outer s H E hr => let sc := sc_Lgood_operand; (vss_cons (vs_if (vt_w (vw_or (vt_not (vt_val (ve_callB call_isi opn_isi rfl c.b_isinstance rfl (va_cons (vg_val (nv 0)) (va_cons (vg_val ((ve_ty rfl c.b_tuple rfl))) (va_nil)))))) (vw_or1 (vt_cmp (opr_eq hr) opn_eq (vg_val (ve_ix hr (vg_val (nv 0)) (vg_val (ve_int)) (fun _ _ => rfl))) (vg_val (ve_int)) rfl)))) (vss_one (vs_ret (ve_bl))) (vss_nil)) (vss_cons (vs_if (vt_cmp (opr_in hr) opn_in (vg_val (nv 0)) (vg_val (ve_ix hr (vg_val (nv 2)) (vg_val (ve_int)) (fun _ _ => rfl))) rfl) (vss_one (vs_ret (ve_or (ve_cmp (opr_eq hr) opn_eq (vg_val (ve_ix hr (vg_val (ve_ix hr (vg_val (nv 2)) (vg_val (ve_int)) (fun _ _ => rfl))) (vg_val (nv 0)) (fun _ _ => rfl))) (vg_val (nv 1)) rfl) (ve_one (ve_cmp (opr_notIn hr) opn_in (vg_val (nv 1)) (vg_val (ve_ix hr (vg_val (nv 3)) (vg_val (ve_ix hr (vg_val (ve_ix hr (vg_val (nv 2)) (vg_val (ve_int)) (fun _ _ => rfl))) (vg_val (nv 0)) (fun _ _ => rfl))) (fun _ _ => rfl))) rfl))))) (vss_nil)) (vss_one (vs_ret (ve_and (ve_cmp (opr_in hr) opn_in (vg_val (nv 0)) (vg_val (ve_ix hr (vg_val (nv 2)) (vg_val (ve_int)) (fun _ _ => rfl))) rfl) (ve_and (ve_cmp (opr_ne hr) opn_ne (vg_val (ve_ix hr (vg_val (ve_ix hr (vg_val (nv 2)) (vg_val (ve_int)) (fun _ _ => rfl))) (vg_val (nv 0)) (fun _ _ => rfl))) (vg_val (nv 1)) rfl) (ve_one (ve_cmp (opr_notIn hr) opn_in (vg_val (nv 1)) (vg_val (ve_ix hr (vg_val (nv 3)) (vg_val (ve_ix hr (vg_val (ve_ix hr (vg_val (nv 2)) (vg_val (ve_int)) (fun _ _ => rfl))) (vg_val (nv 0)) (fun _ _ => rfl))) (fun _ _ => rfl))) rfl))))))))) mono_Lgood_operand rd_Lgood_operand
theorem sc_Lgood_source : FnScope ["_law_name", "_law_source", "_law_there", "_law_givers_here", "_law_round_about", "_law_some", "_law_giver"] ["_law_name", "_law_source", "_law_there", "_law_givers_here", "_law_round_about"] (defScope s_Lgood_source) := ⟨rfl, rfl, rfl, by decide +kernel, rfl, by decide +kernel, by decide +kernel⟩
theorem F_Lgood_source {P : Program} {w : World} {K : PySem.W.Frag} {mg : Str → Option Value} {base : Heap} (c : Hd K mg) : Fv P w K mg base "_law_good_source" 1 5 sp_Lgood_source :=
  Fv.mk2 (κ := [true, true, true, true, true]) (t := t_Lgood_source) c.f_Lgood_source sc_Lgood_source (fun F => F.bindsN fun _ _ _ _ _ _ us hl => match us, hl with | [_, _, _, _, _], _ => rfl) rfl (by decide)
    (fun f cdv A outer s H E hr => let sc := sc_Lgood_source; (vss_cons (vs_if (vt_w (vw_or (vt_cmp (opr_eq hr) opn_eq (vg_val (nv 1)) (vg_val (ve_un un_neg opn_neg (vg_val (ve_int)))) rfl) (vw_or1 (vt_cmp (opr_eq hr) opn_eq (vg_val (nv 2)) (vg_val (ve_int)) rfl)))) (vss_one (vs_ret (ve_cmp (opr_eq hr) opn_eq (vg_val (nv 2)) (vg_val (ve_int)) rfl))) (vss_nil)) (vss_cons (vs_for (passes_of rfl) rfl (vi_lst (nv 3)) (tn 5 sc.nd) (vss_one (vs_if (vt_cmp (opr_in hr) opn_in (vg_val (ve_tup (va_cons (vg_val (nv 0)) (va_cons (vg_val (nv 2)) (va_nil))))) (vg_val (nv 5)) rfl) (vss_cons (sa 6 sc.nd (ve_ix hr (vg_val (nv 5)) (vg_val (ve_tup (va_cons (vg_val (nv 0)) (va_cons (vg_val (nv 2)) (va_nil))))) (fun _ _ => rfl))) (vss_one (vs_ret (ve_or (ve_cmp (opr_eq hr) opn_eq (vg_val (nv 6)) (vg_val (nv 1)) rfl) (ve_one (ve_cmp (opr_notIn hr) opn_in (vg_val (nv 1)) (vg_val (ve_ix hr (vg_val (nv 4)) (vg_val (nv 6)) (fun _ _ => rfl))) rfl)))))) (vss_nil)))) (vss_one (vs_ret (ve_bl)))))) mono_Lgood_source rd_Lgood_source
theorem sc_Versions_pass_by : FnScope ["self", "k", "node", "here"] ["self", "k", "node"] (defScope s_Versions_pass_by) := ⟨rfl, rfl, rfl, by decide +kernel, rfl, by decide +kernel, by decide +kernel⟩
theorem M_Versions_pass_by {P : Program} {w : World} {K : PySem.W.Frag} {mg : Str → Option Value} {base : Heap} (c : Hd K mg) : Mv P w K mg base 3 "pass_by" 2 3 sp_Versions_pass_by :=
  Mv.make (κ := [true, true, true]) (t := t_Versions_pass_by) c.f_Versions_pass_by c.me_Versions_pass_by sc_Versions_pass_by (fun F => F.bindsN fun _ _ _ _ _ _ us hl => match us, hl with | [_, _, _], _ => rfl) rfl (by decide)
    (fun f cdv A outer s H E hr => let sc := sc_Versions_pass_by; (vss_cons (sa 3 sc.nd (ve_callTy call_dictD opn_dict rfl c.b_dict rfl (va_cons (vg_val (ve_q (vq_at (vp_ix (vp_fd (np 0) c.kl_Versions c.na_Versions_ahead rfl) (nq 1) (fun _ _ => rfl))))) (va_nil)))) (vss_cons (vs_if (vt_cmp (opr_eq hr) opn_eq (vg_val (ve_ix hr (vg_val (nv 2)) (vg_val (ve_int)) (fun _ _ => rfl))) (vg_val ((ve_str rfl))) rfl) (vss_one (vs_set hr (ve_meth (i := 0) (M_Versions_new_one c) mono_Versions_new_one c.kl_Versions rfl (hr.mono (by omega)) rfl (by first | exact Or.inl rfl | exact Or.inr (Or.inl rfl) | exact Or.inr (Or.inr rfl)) rfl (va_cons (vg_val (ve_ix hr (vg_val (nv 2)) (vg_val (ve_int)) (fun _ _ => rfl))) (va_nil))) (np 3) (vq_ix hr (nq 2) (vq_int) (fun _ _ => rfl)))) (vss_nil)) (vss_one (vs_expr (mp_app (vp_fd (np 0) c.kl_Versions c.na_Versions_behind rfl) (vaq_cons (nfq 3) (vaq_nil)))))))) mono_Versions_pass_by rd_Versions_pass_by
theorem sc_Versions_enter : FnScope ["self", "k", "here", "name"] ["self", "k"] (defScope s_Versions_enter) := ⟨rfl, rfl, rfl, by decide +kernel, rfl, by decide +kernel, by decide +kernel⟩
theorem M_Versions_enter {P : Program} {w : World} {K : PySem.W.Frag} {mg : Str → Option Value} {base : Heap} (c : Hd K mg) : Mv P w K mg base 3 "enter" 2 2 sp_Versions_enter :=
  Mv.make (κ := [true, true]) (t := t_Versions_enter) c.f_Versions_enter c.me_Versions_enter sc_Versions_enter (fun F => F.bindsN fun _ _ _ _ _ _ us hl => match us, hl with | [_, _], _ => rfl) rfl (by decide)
    (fun f cdv A outer s H E hr => let sc := sc_Versions_enter; (vss_one (vs_if (vt_cmpW op_gt opn_gt (wv_callB call_lenA opn_len rfl c.b_len rfl (wvs_cons (wv_ix hr (wv_fld (wv_name 0) c.kl_Versions c.na_Versions_sources rfl) (wv_name 1) (fun _ _ => rfl)) (wvs_nil))) (wv_int) rfl) (vss_cons (sa 2 sc.nd (ve_dK)) (vss_cons (vs_for (passes_of rfl) rfl (vi_lst (ve_q (vq_at (vp_fd (np 0) c.kl_Versions c.na_Versions_names rfl)))) (tn 3 sc.nd) (vss_one (vs_set hr (ve_meth (i := 0) (M_Versions_new_one c) mono_Versions_new_one c.kl_Versions rfl (hr.mono (by omega)) rfl (by first | exact Or.inl rfl | exact Or.inr (Or.inl rfl) | exact Or.inr (Or.inr rfl)) rfl (va_cons (vg_val (nv 3)) (va_nil))) (np 2) (nq 3)))) (vss_one (vs_expr (mp_app (vp_fd (np 0) c.kl_Versions c.na_Versions_ahead rfl) (vaq_cons (nfq 2) (vaq_nil))))))) (vss_one (vs_if (vt_cmpW (opr_eq hr) opn_eq (wv_ix hr (wv_fld (wv_name 0) c.kl_Versions c.na_Versions_sources rfl) (wv_name 1) (fun _ _ => rfl)) (wv_lst (wvs_cons (wv_un un_neg opn_neg (wv_int)) (wvs_nil))) rfl) (vss_cons (sa 2 sc.nd (ve_dK)) (vss_cons (vs_for (passes_of rfl) rfl (vi_lst (ve_q (vq_at (vp_fd (np 0) c.kl_Versions c.na_Versions_names rfl)))) (tn 3 sc.nd) (vss_one (vs_set hr (ve_int) (np 2) (nq 3)))) (vss_one (vs_expr (mp_app (vp_fd (np 0) c.kl_Versions c.na_Versions_ahead rfl) (vaq_cons (nfq 2) (vaq_nil))))))) (vss_one (vs_expr (mp_app (vp_fd (np 0) c.kl_Versions c.na_Versions_ahead rfl) (vaq_cons (vq_still (vq_callTy call_dictD opn_dict rfl c.b_dict rfl (vaq_cons (vq_at (vp_ix (vp_fd (np 0) c.kl_Versions c.na_Versions_behind rfl) (vq_view (wv_ix hr (wv_ix hr (wv_fld (wv_name 0) c.kl_Versions c.na_Versions_sources rfl) (wv_name 1) (fun _ _ => rfl)) (wv_int) (fun _ _ => rfl))) (fun _ _ => rfl))) (vaq_nil)))) (vaq_nil)))))))))) mono_Versions_enter rd_Versions_enter
theorem sc_comings : FnScope ["graph", "found", "node", "k", "to"] ["graph"] (defScope s_comings) := ⟨rfl, rfl, rfl, by decide +kernel, rfl, by decide +kernel, by decide +kernel⟩
theorem F_comings {P : Program} {w : World} {K : PySem.W.Frag} {mg : Str → Option Value} {base : Heap} (c : Hd K mg) : Fv P w K mg base "comings" 2 1 sp_comings :=
  Fv.mk2 (κ := [true]) (t := t_comings) c.f_comings sc_comings (fun F => F.bindsN fun _ _ _ _ _ _ us hl => match us, hl with | [_], _ => rfl) rfl (by decide)
    (fun f cdv A outer s H E hr => let sc := sc_comings; (vss_cons (vs_setLc (own := [("node", 2)]) (i := 1) rfl sc.nd (blkOk_by (by first | rfl | decide +kernel)) (kap_of rfl) (vi_lst (nv 0)) (fun bi => vto_name (by decide) sc.nd rfl (by first | exact Or.inl rfl | exact Or.inr rfl) (ne_of_beq_false rfl)) (fun bi => vts_nil) (fun bi => ve_lst (va_nil)) rfl rfl (ne_of_beq_false rfl) (sw_true rfl rfl rfl (by decide +kernel))) (vss_cons (vs_for (passes_of rfl) rfl (vi_enum rfl c.b_enumerate (va_cons (vg_val (nv 0)) (va_nil))) (vt_names (n := 0) rfl (vns_cons (i := 3) sc.nd rfl (by first | exact Or.inl rfl | exact Or.inr rfl) (ne_of_beq_false rfl) (vns_cons (i := 2) sc.nd rfl (by first | exact Or.inl rfl | exact Or.inr rfl) (ne_of_beq_false rfl) (vns_nil)))) (vss_one (vs_for (passes_of rfl) rfl (vi_tup (ve_call (F_ways c) mono_ways (hr.mono (by omega)) rfl rfl (va_cons (vg_val (nv 2)) (va_nil)))) (tn 4 sc.nd) (vss_one (vs_expr (mp_app (vp_ix (np 1) (nq 4) (fun _ _ => rfl)) (vaq_cons (nq 3) (vaq_nil)))))))) (vss_one (vs_ret (nm 1)))))) mono_comings rd_comings
theorem sc_joinings_spared : FnScope ["versions", "same", "changed", "k", "sources", "name", "own", "some", "source", "others", "one"] ["versions"] (defScope s_joinings_spared) := ⟨rfl, rfl, rfl, by decide +kernel, rfl, by decide +kernel, by decide +kernel⟩
theorem F_joinings_spared {P : Program} {w : World} {K : PySem.W.Frag} {mg : Str → Option Value} {base : Heap} (c : Hd K mg) : Fv P w K mg base "joinings_spared" 2 1 sp_joinings_spared :=
  Fv.mk2 (κ := [true]) (t := t_joinings_spared) c.f_joinings_spared sc_joinings_spared (fun F => F.bindsN fun _ _ _ _ _ _ us hl => match us, hl with | [_], _ => rfl) rfl (by decide)
    (fun f cdv A outer s H E hr => let sc := sc_joinings_spared; (vss_cons (sa 1 sc.nd (ve_dT)) (vss_cons (sa 2 sc.nd (ve_bl)) (vss_cons (vs_while (passes_of rfl) (vt_val (nv 2)) (vss_cons (sa 2 sc.nd (ve_bl)) (vss_one (vs_for (passes_of rfl) rfl (vi_enum rfl c.b_enumerate (va_cons (vg_val (ve_q (vq_fldS (i := 0) rfl (by first | exact Or.inl rfl | exact Or.inr (Or.inl rfl) | exact Or.inr (Or.inr rfl)) c.kl_Versions c.na_Versions_sources rfl))) (va_nil))) (vt_names (n := 0) rfl (vns_cons (i := 3) sc.nd rfl (by first | exact Or.inl rfl | exact Or.inr rfl) (ne_of_beq_false rfl) (vns_cons (i := 4) sc.nd rfl (by first | exact Or.inl rfl | exact Or.inr rfl) (ne_of_beq_false rfl) (vns_nil)))) (vss_one (vs_for (passes_of rfl) rfl (vi_lst (ve_q (vq_fldS (i := 0) rfl (by first | exact Or.inl rfl | exact Or.inr (Or.inl rfl) | exact Or.inr (Or.inr rfl)) c.kl_Versions c.na_Versions_names rfl))) (tn 5 sc.nd) (vss_cons (sa 6 sc.nd (ve_ix hr (vg_val (ve_ix hr (vg_val (ve_q (vq_fldS (i := 0) rfl (by first | exact Or.inl rfl | exact Or.inr (Or.inl rfl) | exact Or.inr (Or.inr rfl)) c.kl_Versions c.na_Versions_ahead rfl))) (vg_val (nv 3)) (fun _ _ => rfl))) (vg_val (nv 5)) (fun _ _ => rfl))) (vss_one (vs_if (vt_w (vw_and (vt_cmp op_gt opn_gt (vg_val (ve_callB call_lenA opn_len rfl c.b_len rfl (va_cons (vg_val (nv 4)) (va_nil)))) (vg_val (ve_int)) rfl) (vw_and1 (vt_cmpW (opr_notIn hr) opn_in (wv_tup (wvs_cons (wv_name 5) (wvs_cons (wv_name 6) (wvs_nil)))) (wv_name 1) rfl)))) (vss_cons (sa 7 sc.nd (ve_dK)) (vss_cons (vs_for (passes_of rfl) rfl (vi_lst (nv 4)) (tn 8 sc.nd) (vss_one (vs_setN hr (ve_bl) (np 7) (ve_lend (F_found_same c) mono_found_same (hr.mono (by omega)) rfl rfl (wvs_cons (wv_name 1) (wvs_cons (wv_name 5) (wvs_cons (wv_met (M_Versions_version_from c) mono_Versions_version_from c.kl_Versions rfl (hr.mono (by omega)) (wv_name 0) rfl (wvs_cons (wv_name 8) (wvs_cons (wv_name 5) (wvs_nil)))) (wvs_nil)))))))) (vss_cons (vs_setLcK (k := 7) (own := [("one", 10)]) (i := 9) rfl sc.nd (blkOk_by (by first | rfl | decide +kernel)) (kap_of rfl) rfl (by first | exact Or.inl rfl | exact Or.inr (Or.inl rfl) | exact Or.inr (Or.inr rfl)) (fun bi => vto_name (by decide) sc.nd rfl (by first | exact Or.inl rfl | exact Or.inr rfl) (ne_of_beq_false rfl)) (fun bi => vts_one (vt_cmp (opr_ne hr) opn_ne (vg_val (nv 10)) (vg_val (nv 6)) rfl)) (fun bi => nv 10) rfl rfl (ne_of_beq_false rfl) (sw_true rfl rfl rfl (by decide +kernel))) (vss_one (vs_if (vt_cmp (opr_eq hr) opn_eq (vg_val (ve_callB call_lenA opn_len rfl c.b_len rfl (va_cons (vg_val (nv 9)) (va_nil)))) (vg_val (ve_int)) rfl) (vss_cons (vs_set hr (ve_ix hr (vg_val (nv 9)) (vg_val (ve_int)) (fun _ _ => rfl)) (np 1) (vq_tup (vaq_cons (nq 5) (vaq_cons (nq 6) (vaq_nil))))) (vss_one (sa 2 sc.nd (ve_bl)))) (vss_nil)))))) (vss_nil)))))))))) (vss_one (vs_ret (nm 1))))))) mono_joinings_spared rd_joinings_spared
theorem sc_joinings_of : FnScope ["versions", "same", "k", "found", "sources", "name", "own", "rows", "source"] ["versions", "same", "k"] (defScope s_joinings_of) := ⟨rfl, rfl, rfl, by decide +kernel, rfl, by decide +kernel, by decide +kernel⟩
theorem F_joinings_of {P : Program} {w : World} {K : PySem.W.Frag} {mg : Str → Option Value} {base : Heap} (c : Hd K mg) : Fv P w K mg base "joinings_of" 2 3 sp_joinings_of :=
  Fv.mk2 (κ := [true, true, true]) (t := t_joinings_of) c.f_joinings_of sc_joinings_of (fun F => F.bindsN fun _ _ _ _ _ _ us hl => match us, hl with | [_, _, _], _ => rfl) rfl (by decide)
    (fun f cdv A outer s H E hr => let sc := sc_joinings_of; (vss_cons (sa 3 sc.nd (ve_lst (va_nil))) (vss_cons (sa 4 sc.nd (ve_ix hr (vg_val (ve_q (vq_fldS (i := 0) rfl (by first | exact Or.inl rfl | exact Or.inr (Or.inl rfl) | exact Or.inr (Or.inr rfl)) c.kl_Versions c.na_Versions_sources rfl))) (vg_val (nv 2)) (fun _ _ => rfl))) (vss_cons (vs_for (passes_of rfl) rfl (vi_lst (ve_q (vq_fldS (i := 0) rfl (by first | exact Or.inl rfl | exact Or.inr (Or.inl rfl) | exact Or.inr (Or.inr rfl)) c.kl_Versions c.na_Versions_names rfl))) (tn 5 sc.nd) (vss_cons (sa 6 sc.nd (ve_ix hr (vg_val (ve_ix hr (vg_val (ve_q (vq_fldS (i := 0) rfl (by first | exact Or.inl rfl | exact Or.inr (Or.inl rfl) | exact Or.inr (Or.inr rfl)) c.kl_Versions c.na_Versions_ahead rfl))) (vg_val (nv 2)) (fun _ _ => rfl))) (vg_val (nv 5)) (fun _ _ => rfl))) (vss_one (vs_if (vt_w (vw_and (vt_cmp op_gt opn_gt (vg_val (ve_callB call_lenA opn_len rfl c.b_len rfl (va_cons (vg_val (nv 4)) (va_nil)))) (vg_val (ve_int)) rfl) (vw_and1 (vt_cmp (opr_notIn hr) opn_in (vg_val (ve_tup (va_cons (vg_val (nv 5)) (va_cons (vg_val (nv 6)) (va_nil))))) (vg_val (nv 1)) rfl)))) (vss_cons (sa 7 sc.nd (ve_lst (va_nil))) (vss_cons (vs_for (passes_of rfl) rfl (vi_lst (nv 4)) (tn 8 sc.nd) (vss_one (vs_expr (m_app 7 (va_cons (vg_val (ve_tup (va_cons (vg_val (nv 8)) (va_cons (vg_val (ve_call (F_found_same c) mono_found_same (hr.mono (by omega)) rfl rfl (va_cons (vg_val (nv 1)) (va_cons (vg_val (nv 5)) (va_cons (vg_val (ve_view (wv_met (M_Versions_version_from c) mono_Versions_version_from c.kl_Versions rfl (hr.mono (by omega)) (wv_name 0) rfl (wvs_cons (wv_name 8) (wvs_cons (wv_name 5) (wvs_nil)))))) (va_nil)))))) (va_nil))))) (va_nil)))))) (vss_one (vs_expr (m_app 3 (va_cons (vg_val (ve_tup (va_cons (vg_val (nv 5)) (va_cons (vg_val (nv 6)) (al 7 (va_nil)))))) (va_nil))))))) (vss_nil))))) (vss_one (vs_ret (nm 3))))))) mono_joinings_of rd_joinings_of
theorem sc_operand_told : FnScope ["versions", "same", "k", "operand"] ["versions", "same", "k", "operand"] (defScope s_operand_told) := ⟨rfl, rfl, rfl, by decide +kernel, rfl, by decide +kernel, by decide +kernel⟩
theorem F_operand_told {P : Program} {w : World} {K : PySem.W.Frag} {mg : Str → Option Value} {base : Heap} (c : Hd K mg) : Fv P w K mg base "operand_told" 2 4 sp_operand_told :=
  Fv.mk2 (κ := [true, true, true, true]) (t := t_operand_told) c.f_operand_told sc_operand_told (fun F => F.bindsN fun _ _ _ _ _ _ us hl => match us, hl with | [_, _, _, _], _ => rfl) rfl (by decide)
    (fun f cdv A outer s H E hr => let sc := sc_operand_told; (vss_cons (vs_if (vt_val (ve_callB call_isi opn_isi rfl c.b_isinstance rfl (va_cons (vg_val (nv 3)) (va_cons (vg_val ((ve_ty rfl c.b_str rfl))) (va_nil))))) (vss_one (vs_ret (ve_tup (va_cons (vg_val (nv 3)) (va_cons (vg_val (ve_call (F_found_same c) mono_found_same (hr.mono (by omega)) rfl rfl (va_cons (vg_val (nv 1)) (va_cons (vg_val (nv 3)) (va_cons (vg_val (ve_ix hr (vg_val (ve_ix hr (vg_val (ve_q (vq_fldS (i := 0) rfl (by first | exact Or.inl rfl | exact Or.inr (Or.inl rfl) | exact Or.inr (Or.inr rfl)) c.kl_Versions c.na_Versions_ahead rfl))) (vg_val (nv 2)) (fun _ _ => rfl))) (vg_val (nv 3)) (fun _ _ => rfl))) (va_nil)))))) (va_nil)))))) (vss_nil)) (vss_one (vs_ret (nv 3))))) mono_operand_told rd_operand_told
theorem sc_Lnode : FnScope ["_law_cell_here", "_law_k", "_law_many", "_law_mode", "_law_number", "_law_names", "_law_one", "_law_other", "_law_to", "_law_near", "_law_sign", "_law_no"] ["_law_cell_here", "_law_k", "_law_many", "_law_mode"] (defScope s_Lnode) := ⟨rfl, rfl, rfl, by decide +kernel, rfl, by decide +kernel, by decide +kernel⟩
theorem F_Lnode {P : Program} {w : World} {K : PySem.W.Frag} {mg : Str → Option Value} {base : Heap} (c : Hd K mg) : Fv P w K mg base "_law_node" 2 4 sp_Lnode :=
  Fv.mk2 (κ := [true, true, true, true]) (t := t_Lnode) c.f_Lnode sc_Lnode (fun F => F.bindsN fun _ _ _ _ _ _ us hl => match us, hl with | [_, _, _, _], _ => rfl) rfl (by decide)
    (fun f cdv A outer s H E hr => let sc := sc_Lnode; (vss_cons (sa 4 sc.nd (ve_call (F_Lmixed c) mono_Lmixed (hr.mono (by omega)) rfl rfl (va_cons (vg_val (nv 0)) (va_cons (vg_val (nv 1)) (va_nil))))) (vss_cons (sa 5 sc.nd (ve_still (ve_lst (va_cons (vg_val ((ve_str rfl))) (va_cons (vg_val ((ve_str rfl))) (va_cons (vg_val ((ve_str rfl))) (va_cons (vg_val ((ve_str rfl))) (va_nil)))))))) (vss_cons (sa 6 sc.nd (ve_ix hr (vg_val (ve_lst (va_cons (vg_val (ve_ix hr (vg_val (nv 5)) (vg_val (ve_bin op_modN opn_mod (vg_val (ve_bin opr_div opn_div (vg_val (nv 4)) (vg_val (ve_int)))) (vg_val (ve_int)))) (fun _ _ => rfl))) (va_cons (vg_val (ve_bin op_sub opn_sub (vg_val (ve_bin op_modN opn_mod (vg_val (ve_bin opr_div opn_div (vg_val (nv 4)) (vg_val (ve_int)))) (vg_val (ve_int)))) (vg_val (ve_int)))) (va_nil))))) (vg_val (ve_bin opr_div opn_div (vg_val (ve_bin op_modN opn_mod (vg_val (ve_bin opr_div opn_div (vg_val (nv 4)) (vg_val (ve_int)))) (vg_val (ve_int)))) (vg_val (ve_int)))) (fun _ _ => rfl))) (vss_cons (sa 7 sc.nd (ve_ix hr (vg_val (ve_lst (va_cons (vg_val (ve_ix hr (vg_val (nv 5)) (vg_val (ve_bin op_modN opn_mod (vg_val (ve_bin opr_div opn_div (vg_val (nv 4)) (vg_val (ve_int)))) (vg_val (ve_int)))) (fun _ _ => rfl))) (va_cons (vg_val (ve_call (F_Lgreat c) mono_Lgreat (hr.mono (by omega)) rfl rfl (va_cons (vg_val (ve_bin opr_add opn_add (vg_val (nv 0)) (vg_val (nv 4)))) (va_nil)))) (va_nil))))) (vg_val (ve_bin opr_div opn_div (vg_val (ve_bin op_modN opn_mod (vg_val (ve_bin opr_div opn_div (vg_val (nv 4)) (vg_val (ve_int)))) (vg_val (ve_int)))) (vg_val (ve_int)))) (fun _ _ => rfl))) (vss_cons (sa 8 sc.nd (ve_call (F_Lfar c) mono_Lfar (hr.mono (by omega)) rfl rfl (va_cons (vg_val (nv 4)) (va_cons (vg_val (nv 1)) (va_cons (vg_val (nv 2)) (va_cons (vg_val (nv 3)) (va_nil))))))) (vss_cons (sa 9 sc.nd (ve_callB (call_min2 rfl) opn_min rfl c.b_min rfl (va_cons (vg_val (ve_bin opr_add opn_add (vg_val (nv 1)) (vg_val (ve_int)))) (va_cons (vg_val (ve_bin op_sub opn_sub (vg_val (nv 2)) (vg_val (ve_int)))) (va_nil))))) (vss_cons (vs_if (vt_cmp op_lt opn_lt (vg_val (ve_bin op_modN opn_mod (vg_val (nv 4)) (vg_val (ve_int)))) (vg_val (ve_int)) rfl) (vss_cons (sa 10 sc.nd (ve_ix hr (vg_val (ve_lst (va_cons (vg_val ((ve_str rfl))) (va_cons (vg_val ((ve_str rfl))) (va_cons (vg_val ((ve_str rfl))) (va_cons (vg_val ((ve_str rfl))) (va_cons (vg_val ((ve_str rfl))) (va_cons (vg_val ((ve_str rfl))) (va_nil))))))))) (vg_val (ve_bin op_modN opn_mod (vg_val (ve_bin opr_div opn_div (vg_val (nv 4)) (vg_val (ve_int)))) (vg_val (ve_int)))) (fun _ _ => rfl))) (vss_one (vs_ret (ve_tup (va_cons (vg_val ((ve_str rfl))) (va_cons (vg_val (ve_ix hr (vg_val (nv 5)) (vg_val (ve_bin op_modN opn_mod (vg_val (ve_bin opr_div opn_div (vg_val (nv 4)) (vg_val (ve_int)))) (vg_val (ve_int)))) (fun _ _ => rfl))) (va_cons (vg_val (nv 6)) (va_cons (vg_val (nv 10)) (va_cons (vg_val (nv 7)) (va_cons (vg_val (ve_ix hr (vg_val (ve_lst (va_cons (vg_val (nv 9)) (va_cons (vg_val (nv 9)) (va_cons (vg_val (nv 9)) (va_cons (vg_val (nv 8)) (va_nil))))))) (vg_val (ve_bin op_modN opn_mod (vg_val (ve_bin opr_div opn_div (vg_val (nv 4)) (vg_val (ve_int)))) (vg_val (ve_int)))) (fun _ _ => rfl))) (va_nil))))))))))) (vss_nil)) (vss_cons (vs_if (vt_cmp op_lt opn_lt (vg_val (ve_bin op_modN opn_mod (vg_val (nv 4)) (vg_val (ve_int)))) (vg_val (ve_int)) rfl) (vss_cons (sa 11 sc.nd (ve_ix hr (vg_val (ve_lst (va_cons (vg_val (nv 9)) (va_cons (vg_val (nv 9)) (va_cons (vg_val (nv 9)) (va_cons (vg_val (ve_call (F_Lfar c) mono_Lfar (hr.mono (by omega)) rfl rfl (va_cons (vg_val (ve_bin op_modN opn_mod (vg_val (ve_bin opr_mulA opn_mul (vg_val (nv 4)) (vg_val (ve_int)))) (vg_val (ve_int)))) (va_cons (vg_val (nv 1)) (va_cons (vg_val (nv 2)) (va_cons (vg_val (nv 3)) (va_nil))))))) (va_nil))))))) (vg_val (ve_bin op_modN opn_mod (vg_val (ve_bin opr_div opn_div (vg_val (nv 4)) (vg_val (ve_int)))) (vg_val (ve_int)))) (fun _ _ => rfl))) (vss_one (vs_ret (ve_tup (va_cons (vg_val ((ve_str rfl))) (va_cons (vg_val (nv 6)) (va_cons (vg_val (ve_ix hr (vg_val (ve_lst (va_cons (vg_val ((ve_str rfl))) (va_cons (vg_val ((ve_str rfl))) (va_nil))))) (vg_val (ve_bin op_modN opn_mod (vg_val (ve_bin opr_div opn_div (vg_val (nv 4)) (vg_val (ve_int)))) (vg_val (ve_int)))) (fun _ _ => rfl))) (va_cons (vg_val (nv 7)) (va_cons (vg_val (nv 8)) (va_cons (vg_val (nv 11)) (va_nil))))))))))) (vss_nil)) (vss_one (vs_ret (ve_ix hr (vg_val (ve_lst (va_cons (vg_val (ve_tup (va_cons (vg_val ((ve_str rfl))) (va_nil)))) (va_cons (vg_val (ve_tup (va_cons (vg_val ((ve_str rfl))) (va_nil)))) (va_nil))))) (vg_val (ve_bin op_modN opn_mod (vg_val (nv 4)) (vg_val (ve_int)))) (fun _ _ => rfl))))))))))))) mono_Lnode rd_Lnode
theorem sc_Lorder : FnScope ["_law_raw", "_law_begun", "_law_trail", "_law_done", "_law_here", "_law_step", "_law_goals_here"] ["_law_raw"] (defScope s_Lorder) := ⟨rfl, rfl, rfl, by decide +kernel, rfl, by decide +kernel, by decide +kernel⟩
theorem F_Lorder {P : Program} {w : World} {K : PySem.W.Frag} {mg : Str → Option Value} {base : Heap} (c : Hd K mg) : Fv P w K mg base "_law_order" 2 1 sp_Lorder :=
  Fv.mk2 (κ := [true]) (t := t_Lorder) c.f_Lorder sc_Lorder (fun F => F.bindsN fun _ _ _ _ _ _ us hl => match us, hl with | [_], _ => rfl) rfl (by decide)
    (fun f cdv A outer s H E hr => let sc := sc_Lorder; (vss_cons (sa 1 sc.nd (ve_lst (va_cons (vg_val (ve_int)) (va_nil)))) (vss_cons (sa 2 sc.nd (ve_lst (va_cons (vg_val (ve_tup (va_cons (vg_val (ve_int)) (va_cons (vg_val (ve_int)) (va_nil))))) (va_nil)))) (vss_cons (sa 3 sc.nd (ve_lst (va_nil))) (vss_cons (vs_while (passes_of rfl) (vt_cmpW (opr_ne hr) opn_ne (wv_name 2) (wv_lst (wvs_nil)) rfl) (vss_cons (vs_asgT (mp_pop (np 2)) (vt_names (n := 0) rfl (vns_cons (i := 4) sc.nd rfl (by first | exact Or.inl rfl | exact Or.inr rfl) (ne_of_beq_false rfl) (vns_cons (i := 5) sc.nd rfl (by first | exact Or.inl rfl | exact Or.inr rfl) (ne_of_beq_false rfl) (vns_nil))))) (vss_cons (sa 6 sc.nd (ve_still (ve_call (F_Lgoals c) mono_Lgoals (hr.mono (by omega)) rfl rfl (va_cons (vg_val (ve_ix hr (vg_val (nv 0)) (vg_val (nv 4)) (fun _ _ => rfl))) (va_nil))))) (vss_one (vs_if (vt_cmp (opr_eq hr) opn_eq (vg_val (nv 5)) (vg_val (ve_callB call_lenA opn_len rfl c.b_len rfl (va_cons (vg_val (nv 6)) (va_nil)))) rfl) (vss_one (vs_expr (m_app 3 (va_cons (vg_val (nv 4)) (va_nil))))) (vss_cons (vs_expr (m_app 2 (va_cons (vg_val (ve_tup (va_cons (vg_val (nv 4)) (va_cons (vg_val (ve_bin opr_add opn_add (vg_val (nv 5)) (vg_val (ve_int)))) (va_nil))))) (va_nil)))) (vss_one (vs_if (vt_cmpW (opr_notIn hr) opn_in (wv_ix hr (wv_name 6) (wv_name 5) (fun _ _ => rfl)) (wv_name 1) rfl) (vss_cons (vs_expr (m_app 1 (va_cons (vg_val (ve_ix hr (vg_val (nv 6)) (vg_val (nv 5)) (fun _ _ => rfl))) (va_nil)))) (vss_one (vs_expr (m_app 2 (va_cons (vg_val (ve_tup (va_cons (vg_val (ve_ix hr (vg_val (nv 6)) (vg_val (nv 5)) (fun _ _ => rfl))) (va_cons (vg_val (ve_int)) (va_nil))))) (va_nil)))))) (vss_nil))))))))) (vss_one (vs_ret (ve_rev (ng 3))))))))) mono_Lorder rd_Lorder
theorem sc_Lcalled : FnScope ["_law_graph_here", "_law_names", "_law_found", "_law_node_here", "_law_one", "_law_other"] ["_law_graph_here", "_law_names"] (defScope s_Lcalled) := ⟨rfl, rfl, rfl, by decide +kernel, rfl, by decide +kernel, by decide +kernel⟩
theorem F_Lcalled {P : Program} {w : World} {K : PySem.W.Frag} {mg : Str → Option Value} {base : Heap} (c : Hd K mg) : Fv P w K mg base "_law_called" 2 2 sp_Lcalled :=
  Fv.mk2 (κ := [true, true]) (t := t_Lcalled) c.f_Lcalled sc_Lcalled (fun F => F.bindsN fun _ _ _ _ _ _ us hl => match us, hl with | [_, _], _ => rfl) rfl (by decide)
    (fun f cdv A outer s H E hr => let sc := sc_Lcalled; (vss_cons (sa 2 sc.nd (ve_lst (va_nil))) (vss_cons (vs_for (passes_of rfl) rfl (vi_lst (nv 0)) (tn 3 sc.nd) (vss_cons (vs_if (vt_cmp (opr_eq hr) opn_eq (vg_val (ve_ix hr (vg_val (nv 3)) (vg_val (ve_int)) (fun _ _ => rfl))) (vg_val ((ve_str rfl))) rfl) (vss_cons (sa 4 sc.nd (ve_call (F_Lword c) mono_Lword (hr.mono (by omega)) rfl rfl (va_cons (vg_val (ve_ix hr (vg_val (nv 3)) (vg_val (ve_int)) (fun _ _ => rfl))) (va_cons (vg_val (nv 1)) (va_nil))))) (vss_cons (sa 5 sc.nd (ve_call (F_Lword c) mono_Lword (hr.mono (by omega)) rfl rfl (va_cons (vg_val (ve_ix hr (vg_val (nv 3)) (vg_val (ve_int)) (fun _ _ => rfl))) (va_cons (vg_val (nv 1)) (va_nil))))) (vss_one (sa 3 sc.nd (ve_tup (va_cons (vg_val ((ve_str rfl))) (va_cons (vg_val (ve_call (F_Lword c) mono_Lword (hr.mono (by omega)) rfl rfl (va_cons (vg_val (ve_ix hr (vg_val (nv 3)) (vg_val (ve_int)) (fun _ _ => rfl))) (va_cons (vg_val (nv 1)) (va_nil))))) (va_cons (vg_val (nv 4)) (va_cons (vg_val (ve_ix hr (vg_val (nv 3)) (vg_val (ve_int)) (fun _ _ => rfl))) (va_cons (vg_val (nv 5)) (va_cons (vg_val (ve_ix hr (vg_val (nv 3)) (vg_val (ve_int)) (fun _ _ => rfl))) (va_nil)))))))))))) (vss_one (vs_if (vt_cmp (opr_eq hr) opn_eq (vg_val (ve_ix hr (vg_val (nv 3)) (vg_val (ve_int)) (fun _ _ => rfl))) (vg_val ((ve_str rfl))) rfl) (vss_one (sa 3 sc.nd (ve_tup (va_cons (vg_val ((ve_str rfl))) (va_cons (vg_val (ve_call (F_Lword c) mono_Lword (hr.mono (by omega)) rfl rfl (va_cons (vg_val (ve_ix hr (vg_val (nv 3)) (vg_val (ve_int)) (fun _ _ => rfl))) (va_cons (vg_val (nv 1)) (va_nil))))) (va_cons (vg_val (ve_ix hr (vg_val (nv 3)) (vg_val (ve_int)) (fun _ _ => rfl))) (va_cons (vg_val (ve_call (F_Lword c) mono_Lword (hr.mono (by omega)) rfl rfl (va_cons (vg_val (ve_ix hr (vg_val (nv 3)) (vg_val (ve_int)) (fun _ _ => rfl))) (va_cons (vg_val (nv 1)) (va_nil))))) (va_cons (vg_val (ve_ix hr (vg_val (nv 3)) (vg_val (ve_int)) (fun _ _ => rfl))) (va_cons (vg_val (ve_ix hr (vg_val (nv 3)) (vg_val (ve_int)) (fun _ _ => rfl))) (va_nil)))))))))) (vss_nil)))) (vss_one (vs_expr (m_app 2 (va_cons (vg_val (nv 3)) (va_nil))))))) (vss_one (vs_ret (nm 2)))))) mono_Lcalled rd_Lcalled
theorem sc_Lwithout : FnScope ["_law_graph_here", "_law_gone", "_law_begun", "_law_todo", "_law_here", "_law_goal"] ["_law_graph_here", "_law_gone"] (defScope s_Lwithout) := ⟨rfl, rfl, rfl, by decide +kernel, rfl, by decide +kernel, by decide +kernel⟩
theorem F_Lwithout {P : Program} {w : World} {K : PySem.W.Frag} {mg : Str → Option Value} {base : Heap} (c : Hd K mg) : Fv P w K mg base "_law_without" 2 2 sp_Lwithout :=
  Fv.mk2 (κ := [true, true]) (t := t_Lwithout) c.f_Lwithout sc_Lwithout (fun F => F.bindsN fun _ _ _ _ _ _ us hl => match us, hl with | [_, _], _ => rfl) rfl (by decide)
    (fun f cdv A outer s H E hr => let sc := sc_Lwithout; (vss_cons (sa 2 sc.nd (ve_lst (va_cons (vg_val (ve_int)) (va_nil)))) (vss_cons (vs_if (vt_cmp (opr_eq hr) opn_eq (vg_val (nv 1)) (vg_val (ve_int)) rfl) (vss_one (sa 2 sc.nd (ve_lst (va_nil)))) (vss_nil)) (vss_cons (sa 3 sc.nd (ve_callTy (call_listA rfl) opn_list rfl c.b_list rfl (al 2 (va_nil)))) (vss_cons (vs_while (passes_of rfl) (vt_cmpW (opr_ne hr) opn_ne (wv_name 3) (wv_lst (wvs_nil)) rfl) (vss_cons (sa 4 sc.nd (mp_pop (np 3))) (vss_one (vs_for (passes_of rfl) rfl (vi_lst (ve_still (ve_call (F_Lgoals c) mono_Lgoals (hr.mono (by omega)) rfl rfl (va_cons (vg_val (ve_ix hr (vg_val (nv 0)) (vg_val (nv 4)) (fun _ _ => rfl))) (va_nil))))) (tn 5 sc.nd) (vss_one (vs_if (vt_w (vw_and (vt_cmp (opr_ne hr) opn_ne (vg_val (nv 5)) (vg_val (nv 1)) rfl) (vw_and1 (vt_cmpW (opr_notIn hr) opn_in (wv_name 5) (wv_name 2) rfl)))) (vss_cons (vs_expr (m_app 2 (va_cons (vg_val (nv 5)) (va_nil)))) (vss_one (vs_expr (m_app 3 (va_cons (vg_val (nv 5)) (va_nil)))))) (vss_nil))))))) (vss_one (vs_ret (nm 2)))))))) mono_Lwithout rd_Lwithout
theorem sc_sources_of : FnScope ["graph", "found", "row"] ["graph"] (defScope s_sources_of) := ⟨rfl, rfl, rfl, by decide +kernel, rfl, by decide +kernel, by decide +kernel⟩
theorem F_sources_of {P : Program} {w : World} {K : PySem.W.Frag} {mg : Str → Option Value} {base : Heap} (c : Hd K mg) : Fv P w K mg base "sources_of" 3 1 sp_sources_of :=
  Fv.mk2 (κ := [true]) (t := t_sources_of) c.f_sources_of sc_sources_of (fun F => F.bindsN fun _ _ _ _ _ _ us hl => match us, hl with | [_], _ => rfl) rfl (by decide)
    (fun f cdv A outer s H E hr => let sc := sc_sources_of; (vss_cons (sa 1 sc.nd (ve_lst (va_nil))) (vss_cons (vs_for (passes_of rfl) rfl (vi_lst (ve_still (ve_call (F_comings c) mono_comings (hr.mono (by omega)) rfl rfl (va_cons (vg_val (nv 0)) (va_nil))))) (tn 2 sc.nd) (vss_one (vs_expr (m_app 1 (va_cons (vg_val (ve_still (ve_sortSetW rfl rfl c.b_sorted rfl c.b_set (vg_val (nv 2))))) (va_nil)))))) (vss_cons (vs_set hr (ve_still (ve_bin opr_add opn_add (vg_val (ve_lst (va_cons (vg_val (ve_un un_neg opn_neg (vg_val (ve_int)))) (va_nil)))) (vg_val (ve_q (vq_at (vp_ix (np 1) (vq_int) (fun _ _ => rfl))))))) (np 1) (vq_int)) (vss_one (vs_ret (nm 1))))))) mono_sources_of rd_sources_of
theorem sc_node_told : FnScope ["versions", "same", "k", "node", "one", "other"] ["versions", "same", "k", "node"] (defScope s_node_told) := ⟨rfl, rfl, rfl, by decide +kernel, rfl, by decide +kernel, by decide +kernel⟩
theorem F_node_told {P : Program} {w : World} {K : PySem.W.Frag} {mg : Str → Option Value} {base : Heap} (c : Hd K mg) : Fv P w K mg base "node_told" 3 4 sp_node_told :=
  Fv.mk2 (κ := [true, true, true, true]) (t := t_node_told) c.f_node_told sc_node_told (fun F => F.bindsN fun _ _ _ _ _ _ us hl => match us, hl with | [_, _, _, _], _ => rfl) rfl (by decide)
    (fun f cdv A outer s H E hr => let sc := sc_node_told; (vss_cons (vs_if (vt_cmp (opr_eq hr) opn_eq (vg_val (ve_ix hr (vg_val (nv 3)) (vg_val (ve_int)) (fun _ _ => rfl))) (vg_val ((ve_str rfl))) rfl) (vss_cons (sa 4 sc.nd (ve_call (F_operand_told c) mono_operand_told (hr.mono (by omega)) rfl rfl (va_cons (vg_val (nv 0)) (va_cons (vg_val (nv 1)) (va_cons (vg_val (nv 2)) (va_cons (vg_val (ve_ix hr (vg_val (nv 3)) (vg_val (ve_int)) (fun _ _ => rfl))) (va_nil))))))) (vss_cons (sa 5 sc.nd (ve_call (F_operand_told c) mono_operand_told (hr.mono (by omega)) rfl rfl (va_cons (vg_val (nv 0)) (va_cons (vg_val (nv 1)) (va_cons (vg_val (nv 2)) (va_cons (vg_val (ve_ix hr (vg_val (nv 3)) (vg_val (ve_int)) (fun _ _ => rfl))) (va_nil))))))) (vss_one (vs_ret (ve_tup (va_cons (vg_val ((ve_str rfl))) (va_cons (vg_val (ve_tup (va_cons (vg_val (ve_ix hr (vg_val (nv 3)) (vg_val (ve_int)) (fun _ _ => rfl))) (va_cons (vg_val (ve_ix hr (vg_val (ve_ix hr (vg_val (ve_q (vq_fldS (i := 0) rfl (by first | exact Or.inl rfl | exact Or.inr (Or.inl rfl) | exact Or.inr (Or.inr rfl)) c.kl_Versions c.na_Versions_behind rfl))) (vg_val (nv 2)) (fun _ _ => rfl))) (vg_val (ve_ix hr (vg_val (nv 3)) (vg_val (ve_int)) (fun _ _ => rfl))) (fun _ _ => rfl))) (va_nil))))) (va_cons (vg_val (nv 4)) (va_cons (vg_val (ve_ix hr (vg_val (nv 3)) (vg_val (ve_int)) (fun _ _ => rfl))) (va_cons (vg_val (nv 5)) (va_cons (vg_val (ve_ix hr (vg_val (nv 3)) (vg_val (ve_int)) (fun _ _ => rfl))) (va_nil)))))))))))) (vss_nil)) (vss_cons (vs_if (vt_cmp (opr_eq hr) opn_eq (vg_val (ve_ix hr (vg_val (nv 3)) (vg_val (ve_int)) (fun _ _ => rfl))) (vg_val ((ve_str rfl))) rfl) (vss_cons (sa 4 sc.nd (ve_call (F_operand_told c) mono_operand_told (hr.mono (by omega)) rfl rfl (va_cons (vg_val (nv 0)) (va_cons (vg_val (nv 1)) (va_cons (vg_val (nv 2)) (va_cons (vg_val (ve_ix hr (vg_val (nv 3)) (vg_val (ve_int)) (fun _ _ => rfl))) (va_nil))))))) (vss_one (vs_ret (ve_tup (va_cons (vg_val ((ve_str rfl))) (va_cons (vg_val (nv 4)) (va_cons (vg_val (ve_ix hr (vg_val (nv 3)) (vg_val (ve_int)) (fun _ _ => rfl))) (va_cons (vg_val (ve_call (F_operand_told c) mono_operand_told (hr.mono (by omega)) rfl rfl (va_cons (vg_val (nv 0)) (va_cons (vg_val (nv 1)) (va_cons (vg_val (nv 2)) (va_cons (vg_val (ve_ix hr (vg_val (nv 3)) (vg_val (ve_int)) (fun _ _ => rfl))) (va_nil))))))) (va_cons (vg_val (ve_ix hr (vg_val (nv 3)) (vg_val (ve_int)) (fun _ _ => rfl))) (va_cons (vg_val (ve_ix hr (vg_val (nv 3)) (vg_val (ve_int)) (fun _ _ => rfl))) (va_nil))))))))))) (vss_nil)) (vss_one (vs_ret (nv 3)))))) mono_node_told rd_node_told
theorem sc_Lgraph : FnScope ["_law_raw", "_law_order_here", "_law_graph_here", "_law_old", "_law_node_here"] ["_law_raw"] (defScope s_Lgraph) := ⟨rfl, rfl, rfl, by decide +kernel, rfl, by decide +kernel, by decide +kernel⟩
theorem F_Lgraph {P : Program} {w : World} {K : PySem.W.Frag} {mg : Str → Option Value} {base : Heap} (c : Hd K mg) : Fv P w K mg base "_law_graph" 3 1 sp_Lgraph :=
  Fv.mk2 (κ := [true]) (t := t_Lgraph) c.f_Lgraph sc_Lgraph (fun F => F.bindsN fun _ _ _ _ _ _ us hl => match us, hl with | [_], _ => rfl) rfl (by decide)
    (fun f cdv A outer s H E hr => let sc := sc_Lgraph; (vss_cons (sa 1 sc.nd (ve_still (ve_call (F_Lorder c) mono_Lorder (hr.mono (by omega)) rfl rfl (va_cons (vg_val (nv 0)) (va_nil))))) (vss_cons (sa 2 sc.nd (ve_lst (va_nil))) (vss_cons (vs_for (passes_of rfl) rfl (vi_lst (nv 1)) (tn 3 sc.nd) (vss_cons (sa 4 sc.nd (ve_ix hr (vg_val (nv 0)) (vg_val (nv 3)) (fun _ _ => rfl))) (vss_cons (vs_if (vt_cmp (opr_eq hr) opn_eq (vg_val (ve_ix hr (vg_val (nv 4)) (vg_val (ve_int)) (fun _ _ => rfl))) (vg_val ((ve_str rfl))) rfl) (vss_one (sa 4 sc.nd (ve_still (ve_bin opr_add opn_add (vg_val (ve_slice (vg_val (nv 4)) (vo_none) (vo_some (ve_int)))) (vg_val (ve_tup (va_cons (vg_val (ve_view (wv_meth PySem.F.plainAttrs_list PySem.F.slot_list_index PySem.F.type_list_index (mt_indexA hr) opn_index (wv_name 1) (wvs_cons (wv_ix hr (wv_name 4) (wv_int) (fun _ _ => rfl)) (wvs_nil))))) (va_nil)))))))) (vss_nil)) (vss_cons (vs_if (vt_cmp (opr_eq hr) opn_eq (vg_val (ve_ix hr (vg_val (nv 4)) (vg_val (ve_int)) (fun _ _ => rfl))) (vg_val ((ve_str rfl))) rfl) (vss_one (sa 4 sc.nd (ve_still (ve_bin opr_add opn_add (vg_val (ve_slice (vg_val (nv 4)) (vo_none) (vo_some (ve_int)))) (vg_val (ve_tup (va_cons (vg_val (ve_view (wv_meth PySem.F.plainAttrs_list PySem.F.slot_list_index PySem.F.type_list_index (mt_indexA hr) opn_index (wv_name 1) (wvs_cons (wv_ix hr (wv_name 4) (wv_int) (fun _ _ => rfl)) (wvs_nil))))) (va_cons (vg_val (ve_view (wv_meth PySem.F.plainAttrs_list PySem.F.slot_list_index PySem.F.type_list_index (mt_indexA hr) opn_index (wv_name 1) (wvs_cons (wv_ix hr (wv_name 4) (wv_int) (fun _ _ => rfl)) (wvs_nil))))) (va_nil))))))))) (vss_nil)) (vss_one (vs_expr (m_app 2 (va_cons (vg_val (nv 4)) (va_nil))))))))) (vss_one (vs_ret (nm 2))))))) mono_Lgraph rd_Lgraph
theorem sc_Versions_init : FnScope ["self", "graph", "name", "k", "node"] ["self", "graph"] (defScope s_Versions_init) := ⟨rfl, rfl, rfl, by decide +kernel, rfl, by decide +kernel, by decide +kernel⟩
theorem M_Versions_init {P : Program} {w : World} {K : PySem.W.Frag} {mg : Str → Option Value} {base : Heap} (c : Hd K mg) : Nv P w K mg base 3 4 2 sp_Versions_init :=
  Nv.make (κ := [true, true]) (t := t_Versions_init) c.f_Versions_init c.mk_Versions sc_Versions_init (fun F => F.bindsN fun _ _ _ _ _ _ us hl => match us, hl with | [_, _], _ => rfl) rfl (by decide)
    (fun f cdv A outer s H E hr => let sc := sc_Versions_init; (vss_cons (vs_fld (i := 0) (ve_still (ve_call (F_names_of c) mono_names_of (hr.mono (by omega)) rfl rfl (va_cons (vg_val (nv 1)) (va_nil)))) rfl (by first | exact Or.inl rfl | exact Or.inr (Or.inl rfl) | exact Or.inr (Or.inr rfl)) c.kl_Versions c.na_Versions_names rfl) (vss_cons (vs_fld (i := 0) (ve_still (ve_call (F_sources_of c) mono_sources_of (hr.mono (by omega)) rfl rfl (va_cons (vg_val (nv 1)) (va_nil)))) rfl (by first | exact Or.inl rfl | exact Or.inr (Or.inl rfl) | exact Or.inr (Or.inr rfl)) c.kl_Versions c.na_Versions_sources rfl) (vss_cons (vs_fld (i := 0) (ve_dK) rfl (by first | exact Or.inl rfl | exact Or.inr (Or.inl rfl) | exact Or.inr (Or.inr rfl)) c.kl_Versions c.na_Versions_given rfl) (vss_cons (vs_for (passes_of rfl) rfl (vi_lst (ve_q (vq_at (vp_fd (np 0) c.kl_Versions c.na_Versions_names rfl)))) (tn 2 sc.nd) (vss_one (vs_set hr (ve_int) (vp_fd (np 0) c.kl_Versions c.na_Versions_given rfl) (nq 2)))) (vss_cons (vs_fld (i := 0) (ve_lst (va_nil)) rfl (by first | exact Or.inl rfl | exact Or.inr (Or.inl rfl) | exact Or.inr (Or.inr rfl)) c.kl_Versions c.na_Versions_ahead rfl) (vss_cons (vs_fld (i := 0) (ve_lst (va_nil)) rfl (by first | exact Or.inl rfl | exact Or.inr (Or.inl rfl) | exact Or.inr (Or.inr rfl)) c.kl_Versions c.na_Versions_behind rfl) (vss_one (vs_for (passes_of rfl) rfl (vi_enum rfl c.b_enumerate (va_cons (vg_val (nv 1)) (va_nil))) (vt_names (n := 0) rfl (vns_cons (i := 3) sc.nd rfl (by first | exact Or.inl rfl | exact Or.inr rfl) (ne_of_beq_false rfl) (vns_cons (i := 4) sc.nd rfl (by first | exact Or.inl rfl | exact Or.inr rfl) (ne_of_beq_false rfl) (vns_nil)))) (vss_cons (vs_expr (ve_meth (i := 0) (M_Versions_enter c) mono_Versions_enter c.kl_Versions rfl (hr.mono (by omega)) rfl (by first | exact Or.inl rfl | exact Or.inr (Or.inl rfl) | exact Or.inr (Or.inr rfl)) rfl (va_cons (vg_val (nv 3)) (va_nil)))) (vss_one (vs_expr (ve_meth (i := 0) (M_Versions_pass_by c) mono_Versions_pass_by c.kl_Versions rfl (hr.mono (by omega)) rfl (by first | exact Or.inl rfl | exact Or.inr (Or.inl rfl) | exact Or.inr (Or.inr rfl)) rfl (va_cons (vg_val (nv 3)) (va_cons (vg_val (nv 4)) (va_nil)))))))))))))))) mono_Versions_init rd_Versions_init
theorem sc_Ldrawn : FnScope ["_law_script", "_law_head", "_law_many", "_law_raw", "_law_k"] ["_law_script"] (defScope s_Ldrawn) := ⟨rfl, rfl, rfl, by decide +kernel, rfl, by decide +kernel, by decide +kernel⟩
theorem F_Ldrawn {P : Program} {w : World} {K : PySem.W.Frag} {mg : Str → Option Value} {base : Heap} (c : Hd K mg) : Fv P w K mg base "_law_drawn" 4 1 sp_Ldrawn :=
  Fv.mk2 (κ := [true]) (t := t_Ldrawn) c.f_Ldrawn sc_Ldrawn (fun F => F.bindsN fun _ _ _ _ _ _ us hl => match us, hl with | [_], _ => rfl) rfl (by decide)
    (fun f cdv A outer s H E hr => let sc := sc_Ldrawn; (vss_cons (sa 1 sc.nd (ve_call (F_Lmixed c) mono_Lmixed (hr.mono (by omega)) rfl rfl (va_cons (vg_val (ve_call (F_Lcell c) mono_Lcell (hr.mono (by omega)) rfl rfl (va_cons (vg_val (nv 0)) (va_cons (vg_val (ve_int)) (va_nil))))) (va_cons (vg_val (ve_int)) (va_nil))))) (vss_cons (sa 2 sc.nd (ve_callB (call_max2 rfl) opn_max rfl c.b_max rfl (va_cons (vg_val (ve_bin opr_add opn_add (vg_val (ve_int)) (vg_val (ve_bin op_modN opn_mod (vg_val (ve_bin opr_div opn_div (vg_val (nv 1)) (vg_val (ve_int)))) (vg_val (ve_int)))))) (va_cons (vg_val (ve_callB (call_min2 rfl) opn_min rfl c.b_min rfl (va_cons (vg_val (ve_bin op_sub opn_sub (vg_val (ve_callB call_lenA opn_len rfl c.b_len rfl (va_cons (vg_val (nv 0)) (va_nil)))) (vg_val (ve_int)))) (va_cons (vg_val (ve_int)) (va_nil))))) (va_nil))))) (vss_cons (vs_setLcF (own := [("_law_k", 4)]) (i := 3) rfl sc.nd (blkOk_by (by first | rfl | decide +kernel)) (kap_of rfl) (vi_range1 rfl c.b_range (va_cons (vg_val (nv 2)) (va_nil))) (fun bi => vto_name (by decide) sc.nd rfl (by first | exact Or.inl rfl | exact Or.inr rfl) (ne_of_beq_false rfl)) (fun bi => vts_nil) (fun bi => ve_call (F_Lnode c) mono_Lnode (hr.mono (by omega)) rfl rfl (va_cons (vg_val (ve_call (F_Lcell c) mono_Lcell (hr.mono (by omega)) rfl rfl (va_cons (vg_val (nv 0)) (va_cons (vg_val (ve_bin opr_add opn_add (vg_val (ve_int)) (vg_val (nv 4)))) (va_nil))))) (va_cons (vg_val (nv 4)) (va_cons (vg_val (nv 2)) (va_cons (vg_val (ve_bin op_modN opn_mod (vg_val (nv 1)) (vg_val (ve_int)))) (va_nil)))))) rfl rfl (ne_of_beq_false rfl) (sw_true rfl rfl rfl (by decide +kernel))) (vss_one (vs_ret (ve_call (F_Lcalled c) mono_Lcalled (hr.mono (by omega)) rfl rfl (va_cons (vg_val (ve_still (ve_call (F_Lgraph c) mono_Lgraph (hr.mono (by omega)) rfl rfl (va_cons (vg_val (nv 3)) (va_nil))))) (va_cons (vg_val (ve_still (ve_call (F_Lmenu c) mono_Lmenu (hr.mono (by omega)) rfl rfl (va_cons (vg_val (ve_bin opr_div opn_div (vg_val (nv 1)) (vg_val (ve_int)))) (va_nil))))) (va_nil)))))))))) mono_Ldrawn rd_Ldrawn
theorem sc_once : FnScope ["graph", "versions", "same", "found", "k", "node"] ["graph"] (defScope s_once) := ⟨rfl, rfl, rfl, by decide +kernel, rfl, by decide +kernel, by decide +kernel⟩
theorem F_once {P : Program} {w : World} {K : PySem.W.Frag} {mg : Str → Option Value} {base : Heap} (c : Hd K mg) : Fv P w K mg base "once" 6 1 sp_once :=
  Fv.mk2 (κ := [true]) (t := t_once) c.f_once sc_once (fun F => F.bindsN fun _ _ _ _ _ _ us hl => match us, hl with | [_], _ => rfl) rfl (by decide)
    (fun f cdv A outer s H E hr => let sc := sc_once; (vss_cons (sa 1 sc.nd (ve_still (ve_newN (M_Versions_init c) mono_Versions_init (hr.mono (by omega)) rfl c.gc_Versions rfl (va_cons (vg_val (nv 0)) (va_nil))))) (vss_cons (sa 2 sc.nd (ve_still (ve_call (F_joinings_spared c) mono_joinings_spared (hr.mono (by omega)) rfl rfl (va_cons (vg_val (nv 1)) (va_nil))))) (vss_cons (sa 3 sc.nd (ve_lst (va_nil))) (vss_cons (vs_for (passes_of rfl) rfl (vi_enum rfl c.b_enumerate (va_cons (vg_val (nv 0)) (va_nil))) (vt_names (n := 0) rfl (vns_cons (i := 4) sc.nd rfl (by first | exact Or.inl rfl | exact Or.inr rfl) (ne_of_beq_false rfl) (vns_cons (i := 5) sc.nd rfl (by first | exact Or.inl rfl | exact Or.inr rfl) (ne_of_beq_false rfl) (vns_nil)))) (vss_one (vs_expr (m_app 3 (va_cons (vg_val (ve_tup (va_cons (vg_val (ve_call (F_joinings_of c) mono_joinings_of (hr.mono (by omega)) rfl rfl (va_cons (vg_val (nv 1)) (va_cons (vg_val (nv 2)) (va_cons (vg_val (nv 4)) (va_nil)))))) (va_cons (vg_val (ve_call (F_node_told c) mono_node_told (hr.mono (by omega)) rfl rfl (va_cons (vg_val (nv 1)) (va_cons (vg_val (nv 2)) (va_cons (vg_val (nv 4)) (va_cons (vg_val (nv 5)) (va_nil))))))) (va_nil))))) (va_nil)))))) (vss_one (vs_ret (nm 3)))))))) mono_once rd_once
theorem sc_law : FnScope ["_law_script", "_law_graph_here", "_law_found", "_law_round_about", "_law_gone", "_law_givers_here", "_law_k", "_law_joinings", "_law_node_here", "_law_first", "_law_part", "_law_name", "_law_version", "_law_rows", "_law_source", "_law_there"] ["_law_script"] (defScope s_law) := ⟨rfl, rfl, rfl, by decide +kernel, rfl, by decide +kernel, by decide +kernel⟩
theorem bd_law {K : PySem.W.Frag} {f : Addr} {fd : FuncData} (F : FunD K "law" "law" (defArgs s_law) (defBody s_law) (defScope s_law) [] [] f fd) (s : Shared) (u : Value) : BindsTo s fd ⟨[u], []⟩ [("_law_script", u)] := FunD.bindsA (ps := ["_law_script"]) F (fun _ _ _ _ _ _ us hl => match us, hl with | [_], _ => rfl) s [u] rfl
theorem ok_law {P : Program} {w : World} {K : PySem.W.Frag} {mg : Str → Option Value} {base : Heap} (c : Hd K mg) {f : Addr} {fd : FuncData} (F : FunD K "law" "law" (defArgs s_law) (defBody s_law) (defScope s_law) [] [] f fd) : VL.FnOk P w K mg base (VL.CX P w) 7 f fd ["_law_script"] (Lift K 1 sp_law) :=
  fn_ok (κ := [true]) (t := t_law) F sc_law rfl (by decide)
    (fun cdv A outer s H E hr => let sc := sc_law; (vss_cons (sa 1 sc.nd (ve_still (ve_call (F_Ldrawn c) mono_Ldrawn (hr.mono (by omega)) rfl rfl (va_cons (vg_val (nv 0)) (va_nil))))) (vss_cons (sa 2 sc.nd (ve_still (ve_call (F_once c) mono_once (hr.mono (by omega)) rfl rfl (va_cons (vg_val (ve_still (ve_callTy (call_listA rfl) opn_list rfl c.b_list rfl (va_cons (vg_val (nv 1)) (va_nil))))) (va_nil))))) (vss_cons (vs_if (vt_cmp (opr_ne hr) opn_ne (vg_val (ve_callB call_lenA opn_len rfl c.b_len rfl (va_cons (vg_val (nv 2)) (va_nil)))) (vg_val (ve_callB call_lenA opn_len rfl c.b_len rfl (va_cons (vg_val (nv 1)) (va_nil)))) rfl) (vss_one (vs_ret (ve_bl))) (vss_nil)) (vss_cons (vs_setLcF (own := [("_law_gone", 4)]) (i := 3) rfl sc.nd (blkOk_by (by first | rfl | decide +kernel)) (kap_of rfl) (vi_range1 rfl c.b_range (va_cons (vg_val (ve_callB call_lenA opn_len rfl c.b_len rfl (va_cons (vg_val (nv 1)) (va_nil)))) (va_nil))) (fun bi => vto_name (by decide) sc.nd rfl (by first | exact Or.inl rfl | exact Or.inr rfl) (ne_of_beq_false rfl)) (fun bi => vts_nil) (fun bi => ve_call (F_Lwithout c) mono_Lwithout (hr.mono (by omega)) rfl rfl (va_cons (vg_val (nv 1)) (va_cons (vg_val (nv 4)) (va_nil)))) rfl rfl (ne_of_beq_false rfl) (sw_true rfl rfl rfl (by decide +kernel))) (vss_cons (sa 5 sc.nd (ve_still (ve_call (F_Lgivers c) mono_Lgivers (hr.mono (by omega)) rfl rfl (va_cons (vg_val (nv 2)) (va_nil))))) (vss_cons (vs_for (passes_of rfl) rfl (vi_range1 rfl c.b_range (va_cons (vg_val (ve_callB call_lenA opn_len rfl c.b_len rfl (va_cons (vg_val (nv 1)) (va_nil)))) (va_nil))) (tn 6 sc.nd) (vss_cons (vs_asgT (ve_ix hr (vg_val (nv 2)) (vg_val (nv 6)) (fun _ _ => rfl)) (vt_names (n := 0) rfl (vns_cons (i := 7) sc.nd rfl (by first | exact Or.inl rfl | exact Or.inr rfl) (ne_of_beq_false rfl) (vns_cons (i := 8) sc.nd rfl (by first | exact Or.inl rfl | exact Or.inr rfl) (ne_of_beq_false rfl) (vns_nil))))) (vss_cons (sa 9 sc.nd (ve_bin opr_add opn_add (vg_val (ve_int)) (vg_val (ve_callTy call_int1 opn_int rfl c.b_int rfl (va_cons (vg_val (ve_cmp (opr_eq hr) opn_eq (vg_val (ve_ix hr (vg_val (nv 8)) (vg_val (ve_int)) (fun _ _ => rfl))) (vg_val ((ve_str rfl))) rfl)) (va_nil)))))) (vss_cons (vs_for (passes_of rfl) rfl (vi_tup (ve_slice (vg_val (nv 8)) (vo_some (nv 9)) (vo_none))) (tn 10 sc.nd) (vss_one (vs_if (vt_not (vt_val (ve_call (F_Lgood_operand c) mono_Lgood_operand (hr.mono (by omega)) rfl rfl (va_cons (vg_val (nv 10)) (va_cons (vg_val (nv 6)) (va_cons (vg_val (nv 5)) (va_cons (vg_val (nv 3)) (va_nil)))))))) (vss_one (vs_ret (ve_bl))) (vss_nil)))) (vss_one (vs_for (passes_of rfl) rfl (vi_lst (nv 7)) (vt_names (n := 0) rfl (vns_cons (i := 11) sc.nd rfl (by first | exact Or.inl rfl | exact Or.inr rfl) (ne_of_beq_false rfl) (vns_cons (i := 12) sc.nd rfl (by first | exact Or.inl rfl | exact Or.inr rfl) (ne_of_beq_false rfl) (vns_cons (i := 13) sc.nd rfl (by first | exact Or.inl rfl | exact Or.inr rfl) (ne_of_beq_false rfl) (vns_nil))))) (vss_one (vs_for (passes_of rfl) rfl (vi_lst (nv 13)) (vt_names (n := 0) rfl (vns_cons (i := 14) sc.nd rfl (by first | exact Or.inl rfl | exact Or.inr rfl) (ne_of_beq_false rfl) (vns_cons (i := 15) sc.nd rfl (by first | exact Or.inl rfl | exact Or.inr rfl) (ne_of_beq_false rfl) (vns_nil)))) (vss_one (vs_if (vt_not (vt_val (ve_call (F_Lgood_source c) mono_Lgood_source (hr.mono (by omega)) rfl rfl (va_cons (vg_val (nv 11)) (va_cons (vg_val (nv 14)) (va_cons (vg_val (nv 15)) (va_cons (vg_val (nv 5)) (va_cons (vg_val (nv 3)) (va_nil))))))))) (vss_one (vs_ret (ve_bl))) (vss_nil))))))))))) (vss_one (vs_ret (ve_bl)))))))))) mono_law rd_law
end Pk82
namespace Pk82
open PySem PySem.Spec PyProof.Rows L2 VL
def dd_Versions_version_from : He.DefD := ⟨("Versions", some "version_from"), "version_from", "Versions.version_from", defArgs s_Versions_version_from, defBody s_Versions_version_from, defScope s_Versions_version_from, [], []⟩
def dd_Versions_pass_by : He.DefD := ⟨("Versions", some "pass_by"), "pass_by", "Versions.pass_by", defArgs s_Versions_pass_by, defBody s_Versions_pass_by, defScope s_Versions_pass_by, [], []⟩
def dd_Versions_enter : He.DefD := ⟨("Versions", some "enter"), "enter", "Versions.enter", defArgs s_Versions_enter, defBody s_Versions_enter, defScope s_Versions_enter, [], []⟩
def dd_Versions_new_one : He.DefD := ⟨("Versions", some "new_one"), "new_one", "Versions.new_one", defArgs s_Versions_new_one, defBody s_Versions_new_one, defScope s_Versions_new_one, [], []⟩
def dd_Versions_init : He.DefD := ⟨("Versions", some "__init__"), "__init__", "Versions.__init__", defArgs s_Versions_init, defBody s_Versions_init, defScope s_Versions_init, [], []⟩
def dd_ways : He.DefD := ⟨("ways", none), "ways", "ways", defArgs s_ways, defBody s_ways, defScope s_ways, [], []⟩
def dd_comings : He.DefD := ⟨("comings", none), "comings", "comings", defArgs s_comings, defBody s_comings, defScope s_comings, [], []⟩
def dd_names_of : He.DefD := ⟨("names_of", none), "names_of", "names_of", defArgs s_names_of, defBody s_names_of, defScope s_names_of, [], []⟩
def dd_sources_of : He.DefD := ⟨("sources_of", none), "sources_of", "sources_of", defArgs s_sources_of, defBody s_sources_of, defScope s_sources_of, [], []⟩
def dd_found_same : He.DefD := ⟨("found_same", none), "found_same", "found_same", defArgs s_found_same, defBody s_found_same, defScope s_found_same, [], []⟩
def dd_joinings_spared : He.DefD := ⟨("joinings_spared", none), "joinings_spared", "joinings_spared", defArgs s_joinings_spared, defBody s_joinings_spared, defScope s_joinings_spared, [], []⟩
def dd_joinings_of : He.DefD := ⟨("joinings_of", none), "joinings_of", "joinings_of", defArgs s_joinings_of, defBody s_joinings_of, defScope s_joinings_of, [], []⟩
def dd_operand_told : He.DefD := ⟨("operand_told", none), "operand_told", "operand_told", defArgs s_operand_told, defBody s_operand_told, defScope s_operand_told, [], []⟩
def dd_node_told : He.DefD := ⟨("node_told", none), "node_told", "node_told", defArgs s_node_told, defBody s_node_told, defScope s_node_told, [], []⟩
def dd_once : He.DefD := ⟨("once", none), "once", "once", defArgs s_once, defBody s_once, defScope s_once, [], []⟩
def dd_Lcell : He.DefD := ⟨("_law_cell", none), "_law_cell", "_law_cell", defArgs s_Lcell, defBody s_Lcell, defScope s_Lcell, [], []⟩
def dd_Lmixed : He.DefD := ⟨("_law_mixed", none), "_law_mixed", "_law_mixed", defArgs s_Lmixed, defBody s_Lmixed, defScope s_Lmixed, [], []⟩
def dd_Lgreat : He.DefD := ⟨("_law_great", none), "_law_great", "_law_great", defArgs s_Lgreat, defBody s_Lgreat, defScope s_Lgreat, [], []⟩
def dd_Lfar : He.DefD := ⟨("_law_far", none), "_law_far", "_law_far", defArgs s_Lfar, defBody s_Lfar, defScope s_Lfar, [], []⟩
def dd_Lnode : He.DefD := ⟨("_law_node", none), "_law_node", "_law_node", defArgs s_Lnode, defBody s_Lnode, defScope s_Lnode, [], []⟩
def dd_Lgoals : He.DefD := ⟨("_law_goals", none), "_law_goals", "_law_goals", defArgs s_Lgoals, defBody s_Lgoals, defScope s_Lgoals, [], []⟩
def dd_Lorder : He.DefD := ⟨("_law_order", none), "_law_order", "_law_order", defArgs s_Lorder, defBody s_Lorder, defScope s_Lorder, [], []⟩
def dd_Lgraph : He.DefD := ⟨("_law_graph", none), "_law_graph", "_law_graph", defArgs s_Lgraph, defBody s_Lgraph, defScope s_Lgraph, [], []⟩
def dd_Lmenu : He.DefD := ⟨("_law_menu", none), "_law_menu", "_law_menu", defArgs s_Lmenu, defBody s_Lmenu, defScope s_Lmenu, [], []⟩
def dd_Lword : He.DefD := ⟨("_law_word", none), "_law_word", "_law_word", defArgs s_Lword, defBody s_Lword, defScope s_Lword, [], []⟩
def dd_Lcalled : He.DefD := ⟨("_law_called", none), "_law_called", "_law_called", defArgs s_Lcalled, defBody s_Lcalled, defScope s_Lcalled, [], []⟩
def dd_Ldrawn : He.DefD := ⟨("_law_drawn", none), "_law_drawn", "_law_drawn", defArgs s_Ldrawn, defBody s_Ldrawn, defScope s_Ldrawn, [], []⟩
def dd_Lwithout : He.DefD := ⟨("_law_without", none), "_law_without", "_law_without", defArgs s_Lwithout, defBody s_Lwithout, defScope s_Lwithout, [], []⟩
def dd_Lgivers : He.DefD := ⟨("_law_givers", none), "_law_givers", "_law_givers", defArgs s_Lgivers, defBody s_Lgivers, defScope s_Lgivers, [], []⟩
def dd_Lgood_operand : He.DefD := ⟨("_law_good_operand", none), "_law_good_operand", "_law_good_operand", defArgs s_Lgood_operand, defBody s_Lgood_operand, defScope s_Lgood_operand, [], []⟩
def dd_Lgood_source : He.DefD := ⟨("_law_good_source", none), "_law_good_source", "_law_good_source", defArgs s_Lgood_source, defBody s_Lgood_source, defScope s_Lgood_source, [], []⟩
def dd_law : He.DefD := ⟨("law", none), "law", "law", defArgs s_law, defBody s_law, defScope s_law, [], []⟩
def fnD : List He.DefD := [dd_Versions_version_from, dd_Versions_pass_by, dd_Versions_enter, dd_Versions_new_one, dd_Versions_init, dd_ways, dd_comings, dd_names_of, dd_sources_of, dd_found_same, dd_joinings_spared, dd_joinings_of, dd_operand_told, dd_node_told, dd_once, dd_Lcell, dd_Lmixed, dd_Lgreat, dd_Lfar, dd_Lnode, dd_Lgoals, dd_Lorder, dd_Lgraph, dd_Lmenu, dd_Lword, dd_Lcalled, dd_Ldrawn, dd_Lwithout, dd_Lgivers, dd_Lgood_operand, dd_Lgood_source, dd_law]
def faD : List He.Fa := [.glo "ways", .glo "comings", .glo "names_of", .glo "sources_of", .glo "found_same", .glo "joinings_spared", .glo "joinings_of", .glo "operand_told", .glo "node_told", .glo "once", .glo "_law_cell", .glo "_law_mixed", .glo "_law_great", .glo "_law_far", .glo "_law_node", .glo "_law_goals", .glo "_law_order", .glo "_law_graph", .glo "_law_menu", .glo "_law_word", .glo "_law_called", .glo "_law_drawn", .glo "_law_without", .glo "_law_givers", .glo "_law_good_operand", .glo "_law_good_source", .glo "law", .free "dict", .free "len", .free "enumerate", .free "isinstance", .free "str", .free "sorted", .free "set", .free "min", .free "max", .free "range", .free "list", .free "tuple", .free "int", .cls "Versions", .mkr "Versions", .glo "Versions", .noat "Versions" "behind", .noat "Versions" "ahead", .noat "Versions" "sources", .noat "Versions" "names", .noat "Versions" "given", .meth "Versions" "new_one", .meth "Versions" "enter", .meth "Versions" "pass_by", .meth "Versions" "version_from"]
def exD : PySem.W.Frag → Bool := fun K => true
abbrev RowR : PySem.W.OpenRow := PySem.W.OpenLaw.row PySem.Challenge.rw_unjump_k82_come_through
abbrev hkR : PySem.W.Hook := He.hookX 6 faD fnD [] [] exD
def obR (s : PySem.W.SharedT) : He.AlX := He.obsX 6 faD fnD [] [] exD (HandSHeadRun.getT s)
theorem obR_eq (s : PySem.W.SharedT) : obR s = hkR.obs s.abs := He.obsX_eq (HandSHeadRun.getT_eq s)
def loose0 : List Str := ["ways", "comings", "names_of", "sources_of", "Versions", "found_same", "joinings_spared", "joinings_of", "operand_told", "node_told", "once", "_law_cell", "_law_mixed", "_law_great", "_law_far", "_law_node", "_law_goals", "_law_order", "_law_graph", "_law_menu", "_law_word", "_law_called", "_law_drawn", "_law_without", "_law_givers", "_law_good_operand", "_law_good_source"]
def looseR : List Str := loose0
theorem runR (w : World) : HandSHeadRun.RunEq RowR (PySem.W.view RowR.prog [30]) hkR obR 6000 looseR w := by
  intro os
  kernel_rfl
theorem hdR {w : World} {K : PySem.W.Frag} {h : Heap} {mg : Str → Option Value} (X : K.In h) (G : h.Ns mainGlobals mg) (c : He.SaysX faD fnD [] [] exD w h K) : Hd K mg where
  f_Versions_version_from := c.t.d.def_ 0 (d := dd_Versions_version_from) rfl
  f_Versions_pass_by := c.t.d.def_ 1 (d := dd_Versions_pass_by) rfl
  f_Versions_enter := c.t.d.def_ 2 (d := dd_Versions_enter) rfl
  f_Versions_new_one := c.t.d.def_ 3 (d := dd_Versions_new_one) rfl
  f_Versions_init := c.t.d.def_ 4 (d := dd_Versions_init) rfl
  f_ways := fnAt_of X G (c.t.d.fact 0 (f := .glo "ways") rfl) rfl (c.t.d.def_ 5 (d := dd_ways) rfl)
  f_comings := fnAt_of X G (c.t.d.fact 1 (f := .glo "comings") rfl) rfl (c.t.d.def_ 6 (d := dd_comings) rfl)
  f_names_of := fnAt_of X G (c.t.d.fact 2 (f := .glo "names_of") rfl) rfl (c.t.d.def_ 7 (d := dd_names_of) rfl)
  f_sources_of := fnAt_of X G (c.t.d.fact 3 (f := .glo "sources_of") rfl) rfl (c.t.d.def_ 8 (d := dd_sources_of) rfl)
  f_found_same := fnAt_of X G (c.t.d.fact 4 (f := .glo "found_same") rfl) rfl (c.t.d.def_ 9 (d := dd_found_same) rfl)
  f_joinings_spared := fnAt_of X G (c.t.d.fact 5 (f := .glo "joinings_spared") rfl) rfl (c.t.d.def_ 10 (d := dd_joinings_spared) rfl)
  f_joinings_of := fnAt_of X G (c.t.d.fact 6 (f := .glo "joinings_of") rfl) rfl (c.t.d.def_ 11 (d := dd_joinings_of) rfl)
  f_operand_told := fnAt_of X G (c.t.d.fact 7 (f := .glo "operand_told") rfl) rfl (c.t.d.def_ 12 (d := dd_operand_told) rfl)
  f_node_told := fnAt_of X G (c.t.d.fact 8 (f := .glo "node_told") rfl) rfl (c.t.d.def_ 13 (d := dd_node_told) rfl)
  f_once := fnAt_of X G (c.t.d.fact 9 (f := .glo "once") rfl) rfl (c.t.d.def_ 14 (d := dd_once) rfl)
  f_Lcell := fnAt_of X G (c.t.d.fact 10 (f := .glo "_law_cell") rfl) rfl (c.t.d.def_ 15 (d := dd_Lcell) rfl)
  f_Lmixed := fnAt_of X G (c.t.d.fact 11 (f := .glo "_law_mixed") rfl) rfl (c.t.d.def_ 16 (d := dd_Lmixed) rfl)
  f_Lgreat := fnAt_of X G (c.t.d.fact 12 (f := .glo "_law_great") rfl) rfl (c.t.d.def_ 17 (d := dd_Lgreat) rfl)
  f_Lfar := fnAt_of X G (c.t.d.fact 13 (f := .glo "_law_far") rfl) rfl (c.t.d.def_ 18 (d := dd_Lfar) rfl)
  f_Lnode := fnAt_of X G (c.t.d.fact 14 (f := .glo "_law_node") rfl) rfl (c.t.d.def_ 19 (d := dd_Lnode) rfl)
  f_Lgoals := fnAt_of X G (c.t.d.fact 15 (f := .glo "_law_goals") rfl) rfl (c.t.d.def_ 20 (d := dd_Lgoals) rfl)
  f_Lorder := fnAt_of X G (c.t.d.fact 16 (f := .glo "_law_order") rfl) rfl (c.t.d.def_ 21 (d := dd_Lorder) rfl)
  f_Lgraph := fnAt_of X G (c.t.d.fact 17 (f := .glo "_law_graph") rfl) rfl (c.t.d.def_ 22 (d := dd_Lgraph) rfl)
  f_Lmenu := fnAt_of X G (c.t.d.fact 18 (f := .glo "_law_menu") rfl) rfl (c.t.d.def_ 23 (d := dd_Lmenu) rfl)
  f_Lword := fnAt_of X G (c.t.d.fact 19 (f := .glo "_law_word") rfl) rfl (c.t.d.def_ 24 (d := dd_Lword) rfl)
  f_Lcalled := fnAt_of X G (c.t.d.fact 20 (f := .glo "_law_called") rfl) rfl (c.t.d.def_ 25 (d := dd_Lcalled) rfl)
  f_Ldrawn := fnAt_of X G (c.t.d.fact 21 (f := .glo "_law_drawn") rfl) rfl (c.t.d.def_ 26 (d := dd_Ldrawn) rfl)
  f_Lwithout := fnAt_of X G (c.t.d.fact 22 (f := .glo "_law_without") rfl) rfl (c.t.d.def_ 27 (d := dd_Lwithout) rfl)
  f_Lgivers := fnAt_of X G (c.t.d.fact 23 (f := .glo "_law_givers") rfl) rfl (c.t.d.def_ 28 (d := dd_Lgivers) rfl)
  f_Lgood_operand := fnAt_of X G (c.t.d.fact 24 (f := .glo "_law_good_operand") rfl) rfl (c.t.d.def_ 29 (d := dd_Lgood_operand) rfl)
  f_Lgood_source := fnAt_of X G (c.t.d.fact 25 (f := .glo "_law_good_source") rfl) rfl (c.t.d.def_ 30 (d := dd_Lgood_source) rfl)
  f_law := fnAt_of X G (c.t.d.fact 26 (f := .glo "law") rfl) rfl (c.t.d.def_ 31 (d := dd_law) rfl)
  b_dict := He.free_ok X G (c.t.d.fact 27 (f := .free "dict") rfl)
  b_len := He.free_ok X G (c.t.d.fact 28 (f := .free "len") rfl)
  b_enumerate := He.free_ok X G (c.t.d.fact 29 (f := .free "enumerate") rfl)
  b_isinstance := He.free_ok X G (c.t.d.fact 30 (f := .free "isinstance") rfl)
  b_str := He.free_ok X G (c.t.d.fact 31 (f := .free "str") rfl)
  b_sorted := He.free_ok X G (c.t.d.fact 32 (f := .free "sorted") rfl)
  b_set := He.free_ok X G (c.t.d.fact 33 (f := .free "set") rfl)
  b_min := He.free_ok X G (c.t.d.fact 34 (f := .free "min") rfl)
  b_max := He.free_ok X G (c.t.d.fact 35 (f := .free "max") rfl)
  b_range := He.free_ok X G (c.t.d.fact 36 (f := .free "range") rfl)
  b_list := He.free_ok X G (c.t.d.fact 37 (f := .free "list") rfl)
  b_tuple := He.free_ok X G (c.t.d.fact 38 (f := .free "tuple") rfl)
  b_int := He.free_ok X G (c.t.d.fact 39 (f := .free "int") rfl)
  kl_Versions := He.cls_ok (c.t.d.fact 40 (f := .cls "Versions") rfl)
  mk_Versions := He.mkr_ok (c.t.d.fact 41 (f := .mkr "Versions") rfl)
  gc_Versions := He.glo_ok X G (c.t.d.fact 42 (f := .glo "Versions") rfl)
  na_Versions_behind := He.noat_ok (c.t.d.fact 43 (f := .noat "Versions" "behind") rfl)
  na_Versions_ahead := He.noat_ok (c.t.d.fact 44 (f := .noat "Versions" "ahead") rfl)
  na_Versions_sources := He.noat_ok (c.t.d.fact 45 (f := .noat "Versions" "sources") rfl)
  na_Versions_names := He.noat_ok (c.t.d.fact 46 (f := .noat "Versions" "names") rfl)
  na_Versions_given := He.noat_ok (c.t.d.fact 47 (f := .noat "Versions" "given") rfl)
  me_Versions_new_one := He.meth_ok (c.t.d.fact 48 (f := .meth "Versions" "new_one") rfl)
  me_Versions_enter := He.meth_ok (c.t.d.fact 49 (f := .meth "Versions" "enter") rfl)
  me_Versions_pass_by := He.meth_ok (c.t.d.fact 50 (f := .meth "Versions" "pass_by") rfl)
  me_Versions_version_from := He.meth_ok (c.t.d.fact 51 (f := .meth "Versions" "version_from") rfl)
end Pk82
open PySem PySem.W PySem.Calls PyProof.Rows
theorem PySem.Challenge.cw_unjump_k82_come_through_holds : PySem.Challenge.rw_unjump_k82_come_through.Holds := by
  w_on; o_law
  refine HandSHeadRun.head_any (r := OpenLaw.row PySem.Challenge.rw_unjump_k82_come_through) (q := view (OpenLaw.row PySem.Challenge.rw_unjump_k82_come_through).prog [30]) (H := Pk82.hkR) (ob := Pk82.obR) (M := 6000) (loose := Pk82.looseR) (d := HandSHeadRun.topDef (OpenLaw.row PySem.Challenge.rw_unjump_k82_come_through).prog 30) (kwd := []) Pk82.obR_eq
    (by kernel_rfl) (fun s => by kernel_rfl) Pk82.runR (by kernel_rfl) (by kernel_rfl) (by kernel_rfl) (by rfl) (by first | assumption | decide +kernel) (by decide +kernel) ⟨rfl, rfl, rfl, rfl, rfl, by decide +kernel⟩ ?hw ?hc
  case hw => w_witness2
  case hc =>
    refine LamX.walk_ofTsE (l := PySem.Challenge.rw_unjump_k82_come_through) (n := 63) (k := 103) (x := "_law_script") (CX := fun w => VL.CX (PySem.Challenge.rw_unjump_k82_come_through).prog w) rfl (by decide) (by kernel_rfl) ⟨rfl, by decide, by decide⟩ ?F VL.cx_no
    intro w mg fa h Y G hmg0
    obtain ⟨K, KX, c⟩ := Y
    have hmg : mg ("law" : PySem.Str) = some (.ref fa) := by
      have e : (HandSHeadRun.topDef (OpenLaw.row PySem.Challenge.rw_unjump_k82_come_through).prog 30).name = ("law" : PySem.Str) := by kernel_rfl
      rw [← e]
      exact hmg0
    have hd := Pk82.hdR (w := w) KX G c
    exact ⟨K, KX, VL.lawAt hmg hd.f_law Pk82.bd_law (Pk82.ok_law hd) Pk82.mono_law Pk82.law_true⟩
