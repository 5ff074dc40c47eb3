import PyProof.Rows.All
import Wide.All
import OpenK.AllK
import Wide.FinOn
import HandS.ForMost
import HandS.Exc
import HandS.WordsExc
import HandS.Defaults
import HandS.HeadHook1
import HandS.HeadHook2
import HandS.SetKeys
import HandS.DictComp
import HandS.IsInst
import HandS.Deep
import HandS.Style
import HandS.Zip
import HandS.Rev
import HandS.MakeKwOnly
import HandS.Star
import HandS.Property
import HandS.OwnEq
import HandS.GenOver
import HandS.SortKw
import HandS.SortOrd
import HandS.SortRule
import HandS.TupSets
import HandS.TupAny
import HandS.NoneIn
import HandS.ListItems
import HandS.DictTup
import HandS.ExcField
import HandS.ExcInit
import HandS.ExcOwn
import HandS.SuiteRaise
import HandS.TryOnly
import HandS.TryMany
import HandS.RaiseMore
import HandS.RaiseOp
import HandS.Lambda
import HandS.Conv
import HandS.Codes
import HandS.SetBool
import HandS.RevTup
import HandS.TupMul
import HandS.Text
import HandS.Strs
import HandS.MethStar
import HandS.StrMore
import HandS.FStr
import HandS.Small
import HandS.Flow
import HandS.More
import KE.KEqNest
import KE.SortData
import HandS.MakeKw
import KE.DataEq
import KE.DataCmp
import KE.DataFind
import KE.DataMinMax
import KE.SortUse
import KE.SortKeyHeap
import HandS.Finally
import HandS.Set
import HandS.SetTxt0
import HandS.SetFor
import KE.KRevSl
import HandS.HeadNt
import HandS.HeadHook4
import HandS.HeadWalk
import HandS.Wide
import HandS.ExcIs
import KE.KExcIs
import KE.GoesMore
import KE.GoesEnum
import KE.DatumOrd
import KE.KDictList
import HandS.Iter
import KE.KDictZip
import HandS.Head0
import PyProof.EqKinds
import Lean
import KE.KStateDown
import HandS.Words
import HandS.Head1
import HandS.Head2
import HandS.HeadEnd
import PySem.Challenge.RW_lastwrites_k01_writes_as_made
set_option Elab.async false
set_option linter.all false
set_option maxRecDepth 100000
set_option maxHeartbeats 4000000
section
namespace DL
open PySem PySem.Spec PyProof.Rows L2
inductive D where
  | non | bl (b : Bool) | int (i : Int) | str (x : Str)
  | lst (xs : List D) | tup (xs : List D) | tpl (xs : List D) | twr (xs : List D)
  | dic (ks : List (Key × D)) | dit (ks : List (List Key × D))
  | ins (c : Str) (fs : List (Str × D))
  | exc (c : Str) (fs : List (Str × D))
  | lam (n : Nat) (P : Addr → Hp → Prop)
  | adr (a : Addr)
  | rg (k : Nat)
def exO (C a : Addr) (od : Option Addr) : HO := .ext fun h => ∃ oe, h.get? a = some oe ∧ Zc (.ref C) od oe ∧ ∃ vs, oe.data = .fields vs
mutual
def Den (K : PySem.W.Frag) (Hs : Hp) : D → V → Prop
  | .non, v => v = .non
  | .bl b, v => v = .bl b
  | .int i, v => v = .int i
  | .str x, v => v = .str x
  | .lst ds, v => ∃ a vs, v = .ref a ∧ Hs a = some (.lst vs) ∧ DenL K Hs ds vs
  | .tup ds, v => ∃ a vs, v = .ref a ∧ SqT K Hs a vs ∧ DenL K Hs ds vs
  | .tpl ds, v => ∃ a vs ob, v = .ref a ∧ Hs a = some (.frz ob (.tup vs)) ∧ ob.dict = none ∧ DenL K Hs ds vs
  | .twr ds, v => ∃ a vs, v = .ref a ∧ Hs a = some (.tup vs) ∧ DenL K Hs ds vs
  | .dic ks, v => ∃ a kvs, v = .ref a ∧ Hs a = some (.dK kvs) ∧ DenK K Hs ks kvs
  | .dit ks, v => ∃ a kvs, v = .ref a ∧ Hs a = some (.dT kvs) ∧ DenT K Hs ks kvs
  | .ins c fs, v => ∃ a dx gs, v = .ref a ∧ Hs a = some (.ins (He.ga K c) dx gs) ∧ DenF K Hs fs gs
  | .exc c fs, v => ∃ a od gs, v = .ref a ∧ Hs a = some (exO (He.ga K c) a od) ∧ ((od = none ∧ gs = []) ∨ ∃ dd, od = some dd ∧ Hs dd = some (.xd gs)) ∧ DenF K Hs fs gs
  | .lam _ P, v => ∃ a, v = .ref a ∧ ∀ Hs' : Hp, (∀ p o, Hs p = some o → Hs' p = some o) → P a Hs'
  | .adr a, v => v = .ref a
  | .rg k, v => ∃ a, v = .ref a ∧ Hs a = some (.own k)
def DenL (K : PySem.W.Frag) (Hs : Hp) : List D → List V → Prop
  | [], vs => vs = []
  | d :: ds, vs => ∃ v r, vs = v :: r ∧ Den K Hs d v ∧ DenL K Hs ds r
def DenK (K : PySem.W.Frag) (Hs : Hp) : List (Key × D) → List (Key × V) → Prop
  | [], vs => vs = []
  | (k, d) :: ds, vs => ∃ v r, vs = (k, v) :: r ∧ Den K Hs d v ∧ DenK K Hs ds r
def DenT (K : PySem.W.Frag) (Hs : Hp) : List (List Key × D) → List (List Key × V) → Prop
  | [], vs => vs = []
  | (k, d) :: ds, vs => ∃ v r, vs = (k, v) :: r ∧ Den K Hs d v ∧ DenT K Hs ds r
def DenF (K : PySem.W.Frag) (Hs : Hp) : List (Str × D) → List (Str × V) → Prop
  | [], vs => vs = []
  | (k, d) :: ds, vs => ∃ v r, vs = (k, v) :: r ∧ Den K Hs d v ∧ DenF K Hs ds r
end
def DenO (K : PySem.W.Frag) (Hs : Hp) : D → HO → Prop
  | .lst ds, o => ∃ vs, o = .lst vs ∧ DenL K Hs ds vs
  | .tup ds, o => ∃ vs, o = .tup vs ∧ DenL K Hs ds vs
  | .tpl ds, o => ∃ vs ob, o = .frz ob (.tup vs) ∧ ob.dict = none ∧ DenL K Hs ds vs
  | .twr ds, o => ∃ vs, o = .tup vs ∧ DenL K Hs ds vs
  | .dic ks, o => ∃ kvs, o = .dK kvs ∧ DenK K Hs ks kvs
  | .dit ks, o => ∃ kvs, o = .dT kvs ∧ DenT K Hs ks kvs
  | .ins c fs, o => ∃ dx gs, o = .ins (He.ga K c) dx gs ∧ DenF K Hs fs gs
  | _, _ => False
def MutO : HO → Prop
  | .lst _ => True
  | .dK _ => True
  | .dT _ => True
  | _ => False
def Lk : HO → Prop
  | .dK _ => True
  | .dT _ => True
  | _ => False
def isTg (Hs : Hp) (a : Addr) : Prop := ∃ k, Hs a = some (.own k)
def Sub (Hs H : Hp) : Prop := ∀ a o, Hs a = some o → H a = some o ∨ (Lk o ∧ ∃ ob, H a = some (.frz ob o)) ∨ ((∃ k, o = .own k) ∧ H a ≠ none)
def Le (Hs Hs' : Hp) : Prop := ∀ a o, Hs a = some o → Hs' a = some o
theorem Le.refl (H : Hp) : Le H H := fun _ _ h => h
theorem Le.upd {H : Hp} {p : Addr} {o : HO} (h : H p = none) : Le H (upd H p o) := fun a u e => by
  rw [upd_ne (ne_of_none e h)]; exact e
section
variable {K : PySem.W.Frag}
theorem le_rd {Hs Hs' : Hp} (e : Le Hs Hs') {a : Addr} {u : HO} (h : Rd Hs a u) : Rd Hs' a u := by
  rcases h with h | ⟨o, h⟩
  · exact .inl (e _ _ h)
  · exact .inr ⟨o, e _ _ h⟩
theorem le_t {Hs Hs' : Hp} (e : Le Hs Hs') {a : Addr} {xs : List V} (h : SqT K Hs a xs) : SqT K Hs' a xs := by
  rcases h with h | h
  · exact .inl (le_rd e h)
  · exact .inr h
mutual
theorem Den.le {Hs Hs' : Hp} (e : Le Hs Hs') : ∀ {d : D} {v : V}, Den K Hs d v → Den K Hs' d v
  | .non, v, h => by unfold Den at h ⊢; exact h
  | .bl b, v, h => by unfold Den at h ⊢; exact h
  | .int b, v, h => by unfold Den at h ⊢; exact h
  | .str b, v, h => by unfold Den at h ⊢; exact h
  | .adr b, v, h => by unfold Den at h ⊢; exact h
  | .rg k, v, h => by
    unfold Den at h ⊢
    obtain ⟨a, e1, h1⟩ := h
    exact ⟨a, e1, e _ _ h1⟩
  | .lam n P, v, h => by
    unfold Den at h ⊢
    obtain ⟨a, e1, h1⟩ := h
    exact ⟨a, e1, fun Hs2 l => h1 Hs2 fun p o z => l p o (e p o z)⟩
  | .lst ds, v, h => by
    unfold Den at h ⊢
    obtain ⟨a, vs, e1, h1, h2⟩ := h
    exact ⟨a, vs, e1, e _ _ h1, DenL.le e h2⟩
  | .tup ds, v, h => by
    unfold Den at h ⊢
    obtain ⟨a, vs, e1, h1, h2⟩ := h
    exact ⟨a, vs, e1, le_t e h1, DenL.le e h2⟩
  | .twr ds, v, h => by
    unfold Den at h ⊢
    obtain ⟨a, vs, e1, h1, h2⟩ := h
    exact ⟨a, vs, e1, e _ _ h1, DenL.le e h2⟩
  | .tpl ds, v, h => by
    unfold Den at h ⊢
    obtain ⟨a, vs, ob, e1, h1, h3, h2⟩ := h
    exact ⟨a, vs, ob, e1, e _ _ h1, h3, DenL.le e h2⟩
  | .dic ds, v, h => by
    unfold Den at h ⊢
    obtain ⟨a, vs, e1, h1, h2⟩ := h
    exact ⟨a, vs, e1, e _ _ h1, DenK.le e h2⟩
  | .dit ds, v, h => by
    unfold Den at h ⊢
    obtain ⟨a, vs, e1, h1, h2⟩ := h
    exact ⟨a, vs, e1, e _ _ h1, DenT.le e h2⟩
  | .ins c fs, v, h => by
    unfold Den at h ⊢
    obtain ⟨a, dx, gs, e1, h1, h2⟩ := h
    exact ⟨a, dx, gs, e1, e _ _ h1, DenF.le e h2⟩
  | .exc c fs, v, h => by
    unfold Den at h ⊢
    obtain ⟨a, od, gs, e1, h1, h3, h2⟩ := h
    exact ⟨a, od, gs, e1, e _ _ h1, h3.imp id fun ⟨dd, q1, q2⟩ => ⟨dd, q1, e _ _ q2⟩, DenF.le e h2⟩
theorem DenL.le {Hs Hs' : Hp} (e : Le Hs Hs') : ∀ {ds : List D} {vs : List V}, DenL K Hs ds vs → DenL K Hs' ds vs
  | [], vs, h => by unfold DenL at h ⊢; exact h
  | d :: ds, vs, h => by
    unfold DenL at h ⊢
    obtain ⟨v, r, e1, h1, h2⟩ := h
    exact ⟨v, r, e1, Den.le e h1, DenL.le e h2⟩
theorem DenK.le {Hs Hs' : Hp} (e : Le Hs Hs') : ∀ {ds : List (Key × D)} {vs : List (Key × V)}, DenK K Hs ds vs → DenK K Hs' ds vs
  | [], vs, h => by unfold DenK at h ⊢; exact h
  | (k, d) :: ds, vs, h => by
    unfold DenK at h ⊢
    obtain ⟨v, r, e1, h1, h2⟩ := h
    exact ⟨v, r, e1, Den.le e h1, DenK.le e h2⟩
theorem DenT.le {Hs Hs' : Hp} (e : Le Hs Hs') : ∀ {ds : List (List Key × D)} {vs : List (List Key × V)}, DenT K Hs ds vs → DenT K Hs' ds vs
  | [], vs, h => by unfold DenT at h ⊢; exact h
  | (k, d) :: ds, vs, h => by
    unfold DenT at h ⊢
    obtain ⟨v, r, e1, h1, h2⟩ := h
    exact ⟨v, r, e1, Den.le e h1, DenT.le e h2⟩
theorem DenF.le {Hs Hs' : Hp} (e : Le Hs Hs') : ∀ {ds : List (Str × D)} {vs : List (Str × V)}, DenF K Hs ds vs → DenF K Hs' ds vs
  | [], vs, h => by unfold DenF at h ⊢; exact h
  | (k, d) :: ds, vs, h => by
    unfold DenF at h ⊢
    obtain ⟨v, r, e1, h1, h2⟩ := h
    exact ⟨v, r, e1, Den.le e h1, DenF.le e h2⟩
end
theorem DenO.le {Hs Hs' : Hp} (e : Le Hs Hs') {d : D} {o : HO} (h : DenO K Hs d o) : DenO K Hs' d o := by
  cases d with
  | lst ds => obtain ⟨vs, e1, h1⟩ := h; exact ⟨vs, e1, DenL.le e h1⟩
  | tup ds => obtain ⟨vs, e1, h1⟩ := h; exact ⟨vs, e1, DenL.le e h1⟩
  | tpl ds => obtain ⟨vs, ob, e1, h0, h1⟩ := h; exact ⟨vs, ob, e1, h0, DenL.le e h1⟩
  | twr ds => obtain ⟨vs, e1, h1⟩ := h; exact ⟨vs, e1, DenL.le e h1⟩
  | dic ds => obtain ⟨vs, e1, h1⟩ := h; exact ⟨vs, e1, DenK.le e h1⟩
  | dit ds => obtain ⟨vs, e1, h1⟩ := h; exact ⟨vs, e1, DenT.le e h1⟩
  | ins c fs => obtain ⟨dx, vs, e1, h1⟩ := h; exact ⟨dx, vs, e1, DenF.le e h1⟩
  | _ => exact h.elim
def DenH (K : PySem.W.Frag) (Hs H : Hp) : D → V → Prop
  | .lst ds, v => ∃ a vs, v = .ref a ∧ H a = some (.lst vs) ∧ DenL K Hs ds vs
  | .dic ks, v => ∃ a kvs, v = .ref a ∧ Rd H a (.dK kvs) ∧ DenK K Hs ks kvs
  | .dit ks, v => ∃ a kvs, v = .ref a ∧ Rd H a (.dT kvs) ∧ DenT K Hs ks kvs
  | d, v => Den K Hs d v
theorem sub_rd {Hs H : Hp} (s : Sub Hs H) {a : Addr} {u : HO} (h : Hs a = some u) (nt : ∀ k, u ≠ .own k := by exact fun _ z => nomatch z) : Rd H a u := by
  rcases s _ _ h with h | ⟨_, ob, h⟩ | ⟨⟨k, e⟩, _⟩
  · exact .inl h
  · exact .inr ⟨ob, h⟩
  · exact absurd e (nt k)
theorem sub_raw {Hs H : Hp} (s : Sub Hs H) {a : Addr} {u : HO} (h : Hs a = some u) (n : ¬ Lk u) (nt : ∀ k, u ≠ .own k := by exact fun _ z => nomatch z) : H a = some u := by
  rcases s _ _ h with h | ⟨l, _⟩ | ⟨⟨k, e⟩, _⟩
  · exact h
  · exact absurd l n
  · exact absurd e (nt k)
theorem sub_some {Hs H : Hp} (s : Sub Hs H) {a : Addr} {u : HO} (h : Hs a = some u) : H a ≠ none := by
  rcases s _ _ h with h | ⟨_, ob, h⟩ | ⟨_, h⟩
  · rw [h]; exact fun z => nomatch z
  · rw [h]; exact fun z => nomatch z
  · exact h
def Bare (Hs : Hp) : Prop := ∀ a o u, Hs a = some (.frz o u) → ∃ xs, u = .tup xs
theorem Den.h {Hs H : Hp} (b : Bare Hs) (s : Sub Hs H) {d : D} {v : V} (h : Den K Hs d v) : DenH K Hs H d v := by
  cases d with
  | lst ds => unfold Den at h; obtain ⟨a, vs, e1, h1, h2⟩ := h; exact ⟨a, vs, e1, sub_raw s h1 (fun z => z), h2⟩
  | dic ds => unfold Den at h; obtain ⟨a, vs, e1, h1, h2⟩ := h; exact ⟨a, vs, e1, sub_rd s h1, h2⟩
  | dit ds => unfold Den at h; obtain ⟨a, vs, e1, h1, h2⟩ := h; exact ⟨a, vs, e1, sub_rd s h1, h2⟩
  | _ => exact h
theorem DenO.h {Hs H : Hp} {p : Addr} {d : D} {o : HO} (hp : H p = some o) (h : DenO K Hs d o) (mu : MutO o) : DenH K Hs H d (.ref p) := by
  cases d with
  | lst ds => obtain ⟨vs, rfl, h1⟩ := h; exact ⟨p, vs, rfl, hp, h1⟩
  | tup ds => obtain ⟨vs, rfl, h1⟩ := h; exact mu.elim
  | tpl ds => obtain ⟨vs, ob, rfl, h0, h1⟩ := h; exact mu.elim
  | twr ds => obtain ⟨vs, rfl, h1⟩ := h; exact mu.elim
  | dic ds => obtain ⟨vs, rfl, h1⟩ := h; exact ⟨p, vs, rfl, .of hp, h1⟩
  | dit ds => obtain ⟨vs, rfl, h1⟩ := h; exact ⟨p, vs, rfl, .of hp, h1⟩
  | ins c fs => obtain ⟨dx, vs, rfl, h1⟩ := h; exact mu.elim
  | _ => exact h.elim
theorem DenH.le {Hs Hs' H : Hp} (l : Le Hs Hs') {d : D} {v : V} (h : DenH K Hs H d v) : DenH K Hs' H d v := by
  cases d with
  | lst ds => obtain ⟨a, vs, e1, h1, h2⟩ := h; exact ⟨a, vs, e1, h1, h2.le l⟩
  | dic ds => obtain ⟨a, vs, e1, h1, h2⟩ := h; exact ⟨a, vs, e1, h1, h2.le l⟩
  | dit ds => obtain ⟨a, vs, e1, h1, h2⟩ := h; exact ⟨a, vs, e1, h1, h2.le l⟩
  | _ => exact Den.le l h
def NT (Hs : Hp) (v : V) (d : D) : Prop := match d with
  | .lst _ => ∀ a, v = .ref a → ¬ isTg Hs a
  | .dic _ => ∀ a, v = .ref a → ¬ isTg Hs a
  | .dit _ => ∀ a, v = .ref a → ¬ isTg Hs a
  | _ => True
theorem tg_upd {Hs : Hp} {p c : Addr} {o : HO} (n : ∀ k, o ≠ .own k) (h : isTg (upd Hs p o) c) : isTg Hs c := by
  obtain ⟨k, h⟩ := h
  by_cases z : c = p
  · subst z; rw [upd_same] at h; cases h; exact absurd rfl (n k)
  · rw [upd_ne z] at h; exact ⟨k, h⟩
theorem NT.mono {Hs Hs' : Hp} {v : V} {d : D} (h : NT Hs v d) (t : ∀ a, isTg Hs' a → isTg Hs a) : NT Hs' v d := by
  cases d with
  | lst ds => exact fun a e z => h a e (t a z)
  | dic ds => exact fun a e z => h a e (t a z)
  | dit ds => exact fun a e z => h a e (t a z)
  | _ => trivial
theorem Den.nt {Hs : Hp} {v : V} {d : D} (h : Den K Hs d v) : NT Hs v d := by
  cases d with
  | lst ds =>
    unfold Den at h
    obtain ⟨a, vs, e1, h1, _⟩ := h
    intro b e ⟨k, z⟩
    subst e1; cases e; rw [h1] at z; cases z
  | dic ds =>
    unfold Den at h
    obtain ⟨a, vs, e1, h1, _⟩ := h
    intro b e ⟨k, z⟩
    subst e1; cases e; rw [h1] at z; cases z
  | dit ds =>
    unfold Den at h
    obtain ⟨a, vs, e1, h1, _⟩ := h
    intro b e ⟨k, z⟩
    subst e1; cases e; rw [h1] at z; cases z
  | _ => trivial
theorem DenL.len {Hs : Hp} : ∀ {ds : List D} {vs : List V}, DenL K Hs ds vs → vs.length = ds.length
  | [], vs, h => by unfold DenL at h; subst h; rfl
  | d :: ds, vs, h => by
    unfold DenL at h
    obtain ⟨v, r, rfl, _, h2⟩ := h
    rw [List.length_cons, List.length_cons, DenL.len h2]
theorem DenL.nil {Hs : Hp} : DenL K Hs [] [] := by unfold DenL; rfl
theorem DenL.cons {Hs : Hp} {d : D} {ds : List D} {v : V} {vs : List V} (h : Den K Hs d v) (t : DenL K Hs ds vs) : DenL K Hs (d :: ds) (v :: vs) := by
  unfold DenL; exact ⟨v, vs, rfl, h, t⟩
theorem DenL.set {Hs : Hp} : ∀ {ds : List D} {vs : List V} {d : D} {v : V} (i : Nat), DenL K Hs ds vs → Den K Hs d v → DenL K Hs (ds.set i d) (vs.set i v)
  | [], vs, _, _, _, h, _ => by unfold DenL at h; subst h; exact .nil
  | d :: ds, vs, _, _, 0, h, t => by
    unfold DenL at h
    obtain ⟨v, r, rfl, h1, h2⟩ := h
    exact .cons t h2
  | d :: ds, vs, _, _, i + 1, h, t => by
    unfold DenL at h
    obtain ⟨v, r, rfl, h1, h2⟩ := h
    exact .cons h1 (DenL.set i h2 t)
end
abbrev St := L2.St
inductive Sl where
  | no | fr (d : D) | ow (d : D)
structure Rs where
  sd : Addr
  sg : Addr
  sc : Addr
  dg : Int
  gr : List Int
  ce : List Int
  tn : Int
  tb : List (Addr × Str)
  fz : List D := []
  rg : List D := []
abbrev Rs.r0 (r : Rs) : Nat := r.fz.length
def Rs.has (r : Rs) (a : Addr) : Prop := a = r.sd ∨ a = r.sg ∨ a = r.sc ∨ ∃ q, (a, q) ∈ r.tb
structure Me where
  x : Addr
  dx : Addr
  c : Str
  fs : List (Str × D)
structure S where
  sl : List Sl
  rs : Option Rs
  me : Option Me
inductive R (α : Type) where
  | ok (a : α) (s : S)
  | exc (c : Str) (fs : Option (List (Str × D))) (s : S)
  | bad
abbrev M (α : Type) := S → R α
def bad {α : Type} : M α := fun _ => .bad
inductive A where
  | d (x : D)
  | sl (i : Nat)
def pairO : D → Option (Str × D)
  | .tup [.str w, d] => some (w, d)
  | _ => none
def inn (d : D) : D := match pairO d with
  | some p => p.2
  | none => d
structure Gh where
  Fx : Hp
  Dm : Addr → Prop
  Hs : Hp
structure Gh.le (G G' : Gh) : Prop where
  fx : G'.Fx = G.Fx
  dm : G'.Dm = G.Dm
  hs : Le G.Hs G'.Hs
theorem Gh.le.refl (G : Gh) : G.le G := ⟨rfl, rfl, Le.refl _⟩
def kStr (x : Str) : Key := .inr x
def rsDict (r : Rs) : HO := .dK [(kStr "digits", .int r.dg), (kStr "great", .ref r.sg), (kStr "cells", .ref r.sc), (kStr "turn", .int r.tn)]
def tabF (K : PySem.W.Frag) (f : Addr) : Addr := match K.lookup f with
  | some ⟨_, _, .func fd, _⟩ => (match fd.code with
    | .ref c => (match K.lookup c with
      | some o => (match o.data with
        | .fields vs => (match (vs[11]? : Option Value) with
          | some (Value.ref P) => P
          | _ => 0)
        | _ => 0)
      | none => 0)
    | _ => 0)
  | _ => 0
abbrev caseLam : Str := "Case.__init__.<locals>.<lambda>"
def lamTab : List (Str × Str) := [("_law_asked.<locals>.<lambda>", "_law_asked"), ("_law_asks_refused.<locals>.<lambda>", "_law_asks_refused"), ("_law_by_names.<locals>.<lambda>", "_law_by_names"), ("_law_due.<locals>.<lambda>", "_law_due"), ("_law_errors_right.<locals>.<lambda>", "_law_errors_right"), ("_law_full_right.<locals>.<lambda>", "_law_full_right"), ("_law_held_right.<locals>.<lambda>", "_law_held_right"), ("_law_item.<locals>.<lambda>", "_law_item"), ("_law_lasts_right.<locals>.<lambda>", "_law_lasts_right"), ("_law_lines.<locals>.<lambda>", "_law_lines"), ("_law_most_right.<locals>.<lambda>", "_law_most_right"), ("_law_others_refused.<locals>.<lambda>", "_law_others_refused"), ("_law_others_right.<locals>.<lambda>", "_law_others_right"), ("_law_pair_right.<locals>.<lambda>", "_law_pair_right"), ("_law_pairs_right.<locals>.<lambda>", "_law_pairs_right"), ("_law_refusals_right.<locals>.<lambda>", "_law_refusals_right"), ("_law_refused.<locals>.<lambda>", "_law_refused"), ("_law_right.<locals>.<lambda>", "_law_right"), ("_law_sure_right.<locals>.<lambda>", "_law_sure_right"), ("_law_truth_refused.<locals>.<lambda>", "_law_truth_refused"), ("counts.<locals>.<lambda>", "counts"), ("grounds.<locals>.<lambda>", "grounds")]
def tabQ (K : PySem.W.Frag) (q : Str) : Addr := if q = caseLam then tabF K (He.ma K (He.ga K "Case") "__init__") else match lamTab.find? fun p => decide (p.1 = q) with
  | some p => tabF K (He.ga K p.2)
  | none => tabF K (He.ga K "law")
def TabG (G : Gh) (H : Hp) (p : Addr × Str) : Prop := ∃ ps : Array Value, H p.1 = some (.tbl ps) ∧ TriplesOk ps.toList ∧ ∀ (pos : Pos) (cv : Value), codeAmong pos ps.toList = some cv → ∃ c, cv = .ref c ∧ G.Hs c = some (LamX.CodeO c p.2)
structure RsAt (K : PySem.W.Frag) (G : Gh) (H : Hp) (r : Rs) : Prop where
  d : H r.sd = some (rsDict r)
  g : H r.sg = some (.lst (r.gr.map V.int))
  c : H r.sc = some (.lst (r.ce.map V.int))
  t : ∀ p ∈ r.tb, TabG G H p
  no : ∀ a, r.has a → G.Hs a = none ∧ G.Fx a = none ∧ ¬ G.Dm a
  ne : r.sg ≠ r.sc
  a : ∀ p ∈ r.tb, p.1 = tabQ K p.2
  u : ∀ p ∈ r.tb, ∀ p' ∈ r.tb, p.1 = p'.1 → p.2 = p'.2
  rg : ∀ (k : Nat) (d : D), r.rg[k]? = some d → ∃ a o, G.Hs a = some (.own (r.r0 + k)) ∧ H a = some o ∧ DenO K G.Hs d o
  fz : ∀ (k : Nat) (d : D), r.fz[k]? = some d → ∃ a o, G.Hs a = some (.own k) ∧ (H a = some o ∨ (Lk o ∧ ∃ ob, H a = some (.frz ob o))) ∧ DenO K G.Hs d o
  tg : ∀ (a : Addr) (k : Nat), G.Hs a = some (.own k) → k < r.r0 + r.rg.length ∧ (r.r0 ≤ k → G.Fx a = none) ∧ ∀ a', G.Hs a' = some (.own k) → a' = a
def tgA (Hs : Hp) (r0 : Nat) (a : Addr) : Prop := ∃ k, Hs a = some (.own k) ∧ r0 ≤ k
theorem tgA.tg {Hs : Hp} {r0 : Nat} {a : Addr} (h : tgA Hs r0 a) : isTg Hs a := by
  obtain ⟨k, h, _⟩ := h
  exact ⟨k, h⟩
structure TgOk (r0 : Nat) (G G' : Gh) (H H' : Hp) : Prop where
  h : ∀ a, isTg G.Hs a → H' a = H a
  f : ∀ a, tgA G.Hs r0 a → G.Fx a = none → G'.Fx a = none
  t : ∀ a, isTg G'.Hs a → isTg G.Hs a
theorem RsAt.re {K : PySem.W.Frag} {G G' : Gh} {H H' : Hp} {r : Rs} (z : RsAt K G H r) (hh : ∀ a, r.has a → H' a = H a) (hl : Le G.Hs G'.Hs) (hn : ∀ a, r.has a → G'.Hs a = none ∧ G'.Fx a = none ∧ ¬ G'.Dm a) (tg : TgOk r.r0 G G' H H') : RsAt K G' H' r :=
  ⟨by rw [hh _ (.inl rfl)]; exact z.d, by rw [hh _ (.inr (.inl rfl))]; exact z.g, by rw [hh _ (.inr (.inr (.inl rfl)))]; exact z.c, fun p hp => by
    obtain ⟨ps, h1, h2, h3⟩ := z.t p hp
    refine ⟨ps, by rw [hh _ (.inr (.inr (.inr ⟨p.2, hp⟩)))]; exact h1, h2, fun pos cv q => ?_⟩
    obtain ⟨c, e1, e2⟩ := h3 pos cv q
    exact ⟨c, e1, hl _ _ e2⟩, hn, z.ne, z.a, z.u, fun k d e => by
    obtain ⟨a, o, h1, h2, h3⟩ := z.rg k d e
    exact ⟨a, o, hl _ _ h1, by rw [tg.h a ⟨_, h1⟩]; exact h2, h3.le hl⟩, fun k d e => by
    obtain ⟨a, o, h1, h2, h3⟩ := z.fz k d e
    exact ⟨a, o, hl _ _ h1, by rw [tg.h a ⟨_, h1⟩]; exact h2, h3.le hl⟩, fun a k h => by
    obtain ⟨k', q⟩ := tg.t a ⟨k, h⟩
    have e := hl _ _ q
    rw [h] at e; cases e
    obtain ⟨h1, h2, h3⟩ := z.tg a k q
    refine ⟨h1, fun le => tg.f a ⟨k, q, le⟩ (h2 le), fun a' h' => ?_⟩
    obtain ⟨k2, q2⟩ := tg.t a' ⟨k, h'⟩
    have e2 := hl _ _ q2
    rw [h'] at e2; cases e2
    exact h3 a' q2⟩
def RsOk (K : PySem.W.Frag) (G : Gh) (H : Hp) : Option Rs → Prop
  | none => True
  | some r => RsAt K G H r
def RsNe (rs : Option Rs) (p : Addr) : Prop := ∀ r, rs = some r → ¬ r.has p
structure RelX (K : PySem.W.Frag) (G : Gh) (H : Hp) (rs : Option Rs) : Prop where
  fx : ∀ a o, G.Fx a = some o → H a = some o
  hs : Sub G.Hs H
  ba : Bare G.Hs
  dm : ∀ a, G.Dm a → G.Hs a = none
  dh : ∀ a, G.Dm a → H a ≠ none
  lo : ∀ a ob u, H a = some (.frz ob u) → (∀ xs, u ≠ .tup xs) → G.Fx a = some (.frz ob u)
  rs : RsOk K G H rs
structure MeAt (K : PySem.W.Frag) (G : Gh) (H : Hp) (rs : Option Rs) (m : Me) : Prop where
  o : ∃ gs, H m.x = some (.ins (He.ga K m.c) m.dx gs) ∧ DenF K G.Hs m.fs gs
  ns : G.Hs m.x = none
  nf : G.Fx m.x = none
  nd : ¬ G.Dm m.x
  nr : RsNe rs m.x
def MeOk (K : PySem.W.Frag) (G : Gh) (H : Hp) (rs : Option Rs) : Option Me → Prop
  | none => True
  | some m => MeAt K G H rs m
def OwnA (Hs : Hp) (σ : St) (i : Nat) (d : D) (p : Addr) : Prop := match pairO d with
  | some w => ∃ t, σ[i]? = some (some (.ref t)) ∧ Hs t = some (.tup [.str w.1, .ref p])
  | none => σ[i]? = some (some (.ref p))
section
variable {Hs Hs' : Hp} {σ σ' : St} {i j : Nat} {d : D} {p q : Addr} {w : Option V}
theorem OwnA.mono (h : OwnA Hs σ i d p) (l : Le Hs Hs') : OwnA Hs' σ i d p := by
  unfold OwnA at h ⊢
  cases e : pairO d with
  | none => rw [e] at h; exact h
  | some w =>
    rw [e] at h
    obtain ⟨t, h1, h2⟩ := h
    exact ⟨t, h1, l _ _ h2⟩
theorem OwnA.fn (h : OwnA Hs σ i d p) (h' : OwnA Hs σ i d q) : p = q := by
  unfold OwnA at h h'
  cases e : pairO d with
  | none => rw [e] at h h'; dsimp only at h h'; rw [h] at h'; cases h'; rfl
  | some w =>
    rw [e] at h h'
    obtain ⟨t, h1, h2⟩ := h
    obtain ⟨t', h1', h2'⟩ := h'
    rw [h1] at h1'; cases h1'
    rw [h2] at h2'; cases h2'; rfl
theorem OwnA.val (h : OwnA Hs σ i d p) : ∃ t, σ[i]? = some (some (.ref t)) := by
  unfold OwnA at h
  cases e : pairO d with
  | none => rw [e] at h; exact ⟨_, h⟩
  | some w =>
    rw [e] at h
    obtain ⟨t, h1, h2⟩ := h
    exact ⟨t, h1⟩
theorem OwnA.re (h : OwnA Hs σ i d p) (e : σ'[i]? = σ[i]?) : OwnA Hs σ' i d p := by
  unfold OwnA at h ⊢
  rw [e]; exact h
theorem OwnA.one (e : pairO d = none) : OwnA Hs σ i d p = (σ[i]? = some (some (.ref p))) := by
  unfold OwnA; rw [e]
def OwnV (Hs : Hp) (d : D) (v : V) (p : Addr) : Prop := match pairO d with
  | some w => ∃ t, v = .ref t ∧ Hs t = some (.tup [.str w.1, .ref p])
  | none => v = .ref p
theorem OwnV.one (e : pairO d = none) : OwnV Hs d (.ref p) p := by
  unfold OwnV; rw [e]
theorem OwnV.at {v : V} (h : OwnV Hs d v p) (e : σ[i]? = some (some v)) : OwnA Hs σ i d p := by
  unfold OwnV at h
  unfold OwnA
  cases q : pairO d with
  | none => rw [q] at h; rw [e, h]
  | some w =>
    rw [q] at h
    obtain ⟨t, h1, h2⟩ := h
    exact ⟨t, by rw [e, h1], h2⟩
theorem OwnV.mono {v : V} (h : OwnV Hs d v p) (l : Le Hs Hs') : OwnV Hs' d v p := by
  unfold OwnV at h ⊢
  cases q : pairO d with
  | none => rw [q] at h; exact h
  | some w =>
    rw [q] at h
    obtain ⟨t, h1, h2⟩ := h
    exact ⟨t, h1, l _ _ h2⟩
end
structure Rel (K : PySem.W.Frag) (G : Gh) (σ : St) (H : Hp) (s : S) : Prop where
  x : RelX K G H s.rs
  fr : ∀ (i : Nat) (d : D), s.sl[i]? = some (.fr d) → ∃ v, σ[i]? = some (some v) ∧ Den K G.Hs d v
  ow : ∀ (i : Nat) (d : D), s.sl[i]? = some (.ow d) → ∃ p o, OwnA G.Hs σ i d p ∧ H p = some o ∧ MutO o ∧ DenO K G.Hs (inn d) o ∧ G.Hs p = none ∧ G.Fx p = none ∧ ¬ G.Dm p ∧ RsNe s.rs p
  ap : ∀ (i j : Nat) (d e : D) (p : Addr), s.sl[i]? = some (.ow d) → s.sl[j]? = some (.ow e) → OwnA G.Hs σ i d p → OwnA G.Hs σ j e p → i = j
  ln : σ.length = s.sl.length
  me : MeOk K G H s.rs s.me
section
variable {K : PySem.W.Frag} {G : Gh} {σ : St} {H : Hp} {s : S} {p : Addr} {d : D} {o : HO} {v : V} {i : Nat}
theorem RelX.fresh {rs : Option Rs} (r : RelX K G H rs) (hp : H p = none) : G.Fx p = none ∧ G.Hs p = none ∧ ¬ G.Dm p ∧ RsNe rs p := by
  refine ⟨?_, ?_, fun q => r.dh p q hp, fun q e => ?_⟩
  · cases e : G.Fx p with
    | none => rfl
    | some o => have := r.fx p o e; rw [hp] at this; cases this
  · cases e : G.Hs p with
    | none => rfl
    | some o => exact absurd hp (sub_some r.hs e)
  · subst e
    have z : RsAt K G H q := r.rs
    rintro (y | y | y | ⟨q2, y⟩)
    · rw [y, z.d] at hp; cases hp
    · rw [y, z.g] at hp; cases hp
    · rw [y, z.c] at hp; cases hp
    · obtain ⟨ps, h1, _⟩ := z.t _ y
      rw [h1] at hp; cases hp
theorem Sub.newH {Hs : Hp} (h : Sub Hs H) (hp : Hs p = none) : Sub Hs (upd H p o) := fun a u e => by
  rw [upd_ne (ne_of_none e hp)]; exact h a u e
theorem tg_ne {Hs : Hp} {a : Addr} (h : isTg Hs a) (hp : Hs p = none) : a ≠ p := fun z => by
  obtain ⟨k, q⟩ := h
  rw [z, hp] at q; cases q
theorem TgOk.new {r0 : Nat} (hp : G.Hs p = none) : TgOk r0 G G H (upd H p o) := ⟨fun a t => upd_ne (tg_ne t hp), fun _ _ h => h, fun _ h => h⟩
theorem TgOk.hs {r0 : Nat} {G' : Gh} (hf : G'.Fx = G.Fx) (ht : ∀ a, isTg G'.Hs a → isTg G.Hs a) : TgOk r0 G G' H H := ⟨fun _ _ => rfl, fun a _ h => by rw [hf]; exact h, ht⟩
theorem RsAt.newH {r : Rs} (z : RsAt K G H r) (hp : ¬ r.has p) (h2 : G.Hs p = none) : RsAt K G (upd H p o) r :=
  z.re (fun a h => upd_ne fun e => hp (e ▸ h)) (Le.refl _) z.no (.new h2)
theorem RsOk.newH {rs : Option Rs} (z : RsOk K G H rs) (hp : RsNe rs p) (h2 : G.Hs p = none) : RsOk K G (upd H p o) rs := by
  cases rs with
  | none => trivial
  | some r => exact RsAt.newH z (hp r rfl) h2
theorem RsOk.gh {rs : Option Rs} {G' : Gh} (z : RsOk K G H rs) (hf : G'.Fx = G.Fx) (hd : G'.Dm = G.Dm) (hl : Le G.Hs G'.Hs) (hn : ∀ r, rs = some r → ∀ a, r.has a → G'.Hs a = none) (ht : ∀ a, isTg G'.Hs a → isTg G.Hs a) : RsOk K G' H rs := by
  cases rs with
  | none => trivial
  | some r =>
    have z' : RsAt K G H r := z
    exact z'.re (fun _ _ => rfl) hl (fun a h => ⟨hn r rfl a h, by rw [hf]; exact (z'.no a h).2.1, by rw [hd]; exact (z'.no a h).2.2⟩) (.hs hf ht)
def NoFrz : HO → Prop
  | .frz _ (.tup _) => True
  | .frz _ _ => False
  | .own _ => False
  | _ => True
theorem NoFrz.nt {o : HO} (h : NoFrz o) : ∀ k, o ≠ .own k := fun k e => by subst e; exact h
theorem NoFrz.tup {o : Obj} {u : HO} (h : NoFrz (.frz o u)) : ∃ xs, u = .tup xs := by
  cases u with
  | tup xs => exact ⟨xs, rfl⟩
  | _ => exact h.elim
theorem RelX.write {rs : Option Rs} (r : RelX K G H rs) (h1 : G.Fx p = none) (h2 : G.Hs p = none) (h4 : RsNe rs p) (nf : NoFrz o) : RelX K G (upd H p o) rs where
  lo := fun a ob u e nt => by
    by_cases z : a = p
    · subst z; rw [upd_same] at e; cases e
      obtain ⟨xs, eu⟩ := nf.tup
      exact absurd eu (nt xs)
    · rw [upd_ne z] at e; exact r.lo a ob u e nt
  fx := fun a u e => by rw [upd_ne (ne_of_none e h1)]; exact r.fx a u e
  hs := r.hs.newH h2
  ba := r.ba
  dm := r.dm
  dh := fun a q => by
    by_cases e : a = p
    · subst e; rw [upd_same]; exact fun z => nomatch z
    · rw [upd_ne e]; exact r.dh a q
  rs := r.rs.newH h4 h2
def Gh.add (G : Gh) (p : Addr) (o : HO) : Gh := { G with Hs := upd G.Hs p o }
theorem Gh.le_add (h : G.Hs p = none) : G.le (G.add p o) := ⟨rfl, rfl, Le.upd h⟩
theorem Bare.add {Hs : Hp} (b : Bare Hs) (h : NoFrz o) : Bare (upd Hs p o) := fun a q u e => by
  by_cases z : a = p
  · subst z; rw [upd_same] at e; cases e; exact h.tup
  · rw [upd_ne z] at e; exact b _ _ _ e
theorem RelX.join {rs : Option Rs} (r : RelX K G H rs) (hp : H p = some o) (h2 : G.Hs p = none) (h3 : ¬ G.Dm p) (h4 : RsNe rs p) (nf : NoFrz o) : RelX K (G.add p o) H rs where
  fx := r.fx
  lo := r.lo
  hs := fun a u e => by
    by_cases z : a = p
    · subst z
      have e' : upd G.Hs a o a = some u := e
      rw [upd_same] at e'; cases e'; exact .inl hp
    · have e' : upd G.Hs p o a = some u := e
      rw [upd_ne z] at e'; exact r.hs a u e'
  ba := r.ba.add nf
  dm := fun a q => by
    have z : a ≠ p := fun z => h3 (z ▸ q)
    show upd G.Hs p o a = none
    rw [upd_ne z]; exact r.dm a q
  dh := r.dh
  rs := r.rs.gh rfl rfl (Le.upd h2) (fun q e a h => by
    have z : RsAt K G H q := by have y := r.rs; rw [e] at y; exact y
    have n : a ≠ p := fun y => h4 q e (y ▸ h)
    show upd G.Hs p o _ = none
    rw [upd_ne n]; exact (z.no a h).1) fun a => tg_upd nf.nt
theorem MeOk.newH {rs : Option Rs} {m : Option Me} (z : MeOk K G H rs m) (h : ∀ q, m = some q → q.x ≠ p) : MeOk K G (upd H p o) rs m := by
  cases m with
  | none => trivial
  | some q =>
    have z' : MeAt K G H rs q := z
    obtain ⟨gs, h1, h2⟩ := z'.o
    exact ⟨⟨gs, by rw [upd_ne (h q rfl)]; exact h1, h2⟩, z'.ns, z'.nf, z'.nd, z'.nr⟩
theorem Rel.meNe {q : Me} (r : Rel K G σ H s) (e : s.me = some q) (hp : H p = none) : q.x ≠ p := fun z => by
  have w := r.me
  rw [e] at w
  obtain ⟨gs, h1, _⟩ := (show MeAt K G H s.rs q from w).o
  rw [z, hp] at h1; cases h1
theorem Rel.apLe {Hs' : Hp} (r : Rel K G σ H s) (l : Le G.Hs Hs') (i j : Nat) (d e : D) (p : Addr) (hi : s.sl[i]? = some (.ow d)) (hj : s.sl[j]? = some (.ow e)) (ai : OwnA Hs' σ i d p) (aj : OwnA Hs' σ j e p) : i = j := by
  obtain ⟨p1, _, b1, _⟩ := r.ow i d hi
  obtain ⟨p2, _, b2, _⟩ := r.ow j e hj
  have e1 := (b1.mono l).fn ai
  have e2 := (b2.mono l).fn aj
  subst e1; subst e2
  exact r.ap i j d e _ hi hj b1 b2
theorem Rel.newH (r : Rel K G σ H s) (hp : H p = none) (nf : NoFrz o) : Rel K G σ (upd H p o) s := by
  obtain ⟨f1, f2, f3, f4⟩ := r.x.fresh hp
  refine ⟨r.x.write f1 f2 f4 nf, r.fr, fun i d e => ?_, r.ap, r.ln, r.me.newH fun q e => r.meNe e hp⟩
  obtain ⟨q, u, a1, a2, a3⟩ := r.ow i d e
  exact ⟨q, u, a1, by rw [upd_ne (ne_of_none a2 hp)]; exact a2, a3⟩
theorem MeOk.le {rs : Option Rs} {m : Option Me} {G' : Gh} (z : MeOk K G H rs m) (l : G.le G') (h : ∀ q, m = some q → G'.Hs q.x = none) : MeOk K G' H rs m := by
  cases m with
  | none => trivial
  | some q =>
    have z' : MeAt K G H rs q := z
    obtain ⟨gs, h1, h2⟩ := z'.o
    exact ⟨⟨gs, h1, h2.le l.hs⟩, h q rfl, by rw [l.fx]; exact z'.nf, by rw [l.dm]; exact z'.nd, z'.nr⟩
theorem Rel.join (r : Rel K G σ H s) (hp : H p = some o) (h2 : G.Hs p = none) (h3 : ¬ G.Dm p) (h4 : RsNe s.rs p) (nf : NoFrz o) (ho : ∀ (i : Nat) (d : D), s.sl[i]? = some (.ow d) → ¬ OwnA G.Hs σ i d p) (hm : ∀ q, s.me = some q → q.x ≠ p) : Rel K (G.add p o) σ H s := by
  refine ⟨r.x.join hp h2 h3 h4 nf, fun i d e => ?_, fun i d e => ?_, r.apLe (Le.upd h2), r.ln, r.me.le (Gh.le_add h2) fun q e => by
    have w := r.me
    rw [e] at w
    show upd G.Hs p o q.x = none
    rw [upd_ne (hm q e)]; exact (show MeAt K G H s.rs q from w).ns⟩
  · obtain ⟨v, e1, e2⟩ := r.fr i d e
    exact ⟨v, e1, e2.le (Le.upd h2)⟩
  · obtain ⟨q, u, a1, a2, a3, a4, a5, a6⟩ := r.ow i d e
    have nq : q ≠ p := fun z => ho i d e (z ▸ a1)
    exact ⟨q, u, a1.mono (Le.upd h2), a2, a3, a4.le (Le.upd h2), by show upd G.Hs p o q = none; rw [upd_ne nq]; exact a5, a6⟩
theorem Rel.new (r : Rel K G σ H s) (hp : H p = none) (nf : NoFrz o) : Rel K (G.add p o) σ (upd H p o) s := by
  obtain ⟨f1, f2, f3, f4⟩ := r.x.fresh hp
  refine (r.newH hp nf).join upd_same f2 f3 f4 nf (fun i d e z => ?_) fun q e => r.meNe e hp
  obtain ⟨q, u, a1, a2, _⟩ := r.ow i d e
  have := a1.fn z
  subst this
  rw [hp] at a2; cases a2
end
def XDen (K : PySem.W.Frag) (G : Gh) (H : Hp) (fs : Option (List (Str × D))) (od : Option Addr) : Prop := match fs with
  | none => od = none
  | some fs => ∃ d gs, od = some d ∧ H d = some (.xd gs) ∧ (¬ G.Dm d ∧ ¬ isTg G.Hs d) ∧ DenF K G.Hs fs gs
def ADen (K : PySem.W.Frag) (G : Gh) (σ : St) : A → V → Prop
  | .d x, v => Den K G.Hs x v
  | .sl i, v => σ[i]? = some (some v)
def ADenL (K : PySem.W.Frag) (G : Gh) (σ : St) : List A → List V → Prop
  | [], vs => vs = []
  | a :: r, vs => ∃ v us, vs = v :: us ∧ ADen K G σ a v ∧ ADenL K G σ r us
section
variable {X : Cx} {E : XK} {a b c e : Expr} {es : List Expr} {ga gb gc : M A} {gs : M (List A)} {pos : Pos}
theorem ADenL.len {K : PySem.W.Frag} {G : Gh} {σ : St} : ∀ {as : List A} {vs : List V}, ADenL K G σ as vs → vs.length = as.length
  | [], vs, h => by have e : vs = [] := h; rw [e]; rfl
  | a :: r, vs, h => by
    obtain ⟨v, us, e, _, h2⟩ := h
    rw [e, List.length_cons, List.length_cons, ADenL.len h2]
end
inductive Fl where
  | nx | bk | ct | rt (d : D)
section
variable {K : PySem.W.Frag} {G : Gh}
theorem DenK.len {Hs : Hp} : ∀ {ds : List (Key × D)} {vs : List (Key × V)}, DenK K Hs ds vs → vs.length = ds.length
  | [], vs, h => by unfold DenK at h; subst h; rfl
  | (k, d) :: ds, vs, h => by
    unfold DenK at h
    obtain ⟨v, r, rfl, _, h2⟩ := h
    rw [List.length_cons, List.length_cons, DenK.len h2]
end
def NoG (A : Around) : Prop := A.guards = some []
structure FnG (P : Program) (w : World) (K : PySem.W.Frag) (mg : Str → Option Value) (base : Heap) (CX : CXT) (k : Nat) (f : Addr) (fd : FuncData) (ps : List Str) (sp : Sp) : Prop where
  len : ∀ vs H Q E, sp vs H Q E → vs.length = ps.length
  run : ∀ (A : Around) (outer : List Env) (s : Shared) (H : Hp) (args : Args) (us : List Value) (vs : List V) (Q : VK) (E : XK), Room k A → NoG A → Env0 P w K mg base A outer s H → BindsTo s fd args (ps.zip us) → Vals vs us → sp vs H Q E →
    codeAny (model P w) A (.call (.ref f) args) (CR CX outer P w H s Q E) s
section
variable {P : Program} {w : World} {K : PySem.W.Frag} {mg : Str → Option Value} {base : Heap} {CX : CXT} {j k : Nat} {f : Addr} {fd : FuncData} {ps : List Str} {sp sp' : Sp}
theorem FnG.of (F : FnOk P w K mg base CX k f fd ps sp) : FnG P w K mg base CX k f fd ps sp := ⟨F.len, fun A outer s H args us vs Q E hr _ => F.run A outer s H args us vs Q E hr⟩
end
inductive Rf where
  | ok (d : D) (rs : Option Rs)
  | exc (c : Str) (fs : Option (List (Str × D))) (rs : Option Rs)
  | bad
abbrev Mir := List D → Option Rs → Rf
def mk (n : Nat) (b : M Fl) : Mir := fun ds rs => match b ⟨ds.map .fr ++ List.replicate (n - ds.length) .no, rs, none⟩ with
  | .ok .nx s => .ok .non s.rs
  | .ok (.rt d) s => .ok d s.rs
  | .ok _ _ => .bad
  | .exc c fs s => .exc c fs s.rs
  | .bad => .bad
inductive SD (K : PySem.W.Frag) (G : Gh) : List Sl → List V → List (Addr × HO) → Prop
  | nil : SD K G [] [] []
  | a {d : D} {v : V} {is : List Sl} {vs : List V} {ps : List (Addr × HO)} : Den K G.Hs d v → SD K G is vs ps → SD K G (.fr d :: is) (v :: vs) ps
  | f {d : D} {p : Addr} {o : HO} {is : List Sl} {vs : List V} {ps : List (Addr × HO)} : DenO K G.Hs d o → MutO o → SD K G is vs ps → SD K G (.ow d :: is) (.ref p :: vs) ((p, o) :: ps)
  | w {d : D} {v : V} {p : Addr} {o : HO} {is : List Sl} {vs : List V} {ps : List (Addr × HO)} : OwnV G.Hs d v p → DenO K G.Hs (inn d) o → MutO o → SD K G is vs ps → SD K G (.ow d :: is) (v :: vs) ((p, o) :: ps)
section
variable {K : PySem.W.Frag} {E : XK} {G G' : Gh} {σ : St} {H : Hp} {s : S}
theorem SD.len {is : List Sl} {vs : List V} {ps : List (Addr × HO)} (h : SD K G is vs ps) : vs.length = is.length := by
  induction h with
  | nil => rfl
  | a _ _ ih => rw [List.length_cons, List.length_cons, ih]
  | f _ _ _ ih => rw [List.length_cons, List.length_cons, ih]
  | w _ _ _ _ ih => rw [List.length_cons, List.length_cons, ih]
end
section
variable {X : Cx} {k : Nat}
section
variable {K : PySem.W.Frag} {Hs H : Hp}
theorem DenK.any {k : Key} : ∀ {ks : List (Key × D)} {kvs : List (Key × V)}, DenK K Hs ks kvs → (kvs.any fun kv => decide (kv.1 = k)) = ks.any fun p => decide (p.1 = k)
  | [], kvs, h => by unfold DenK at h; subst h; rfl
  | (k', d) :: ks, kvs, h => by
    unfold DenK at h
    obtain ⟨v, r, rfl, h1, h2⟩ := h
    rw [List.any_cons, List.any_cons, DenK.any h2]
end
end
inductive TyN where
  | b (n : String) | own (c : Str)
  deriving DecidableEq
def TyN.val (K : PySem.W.Frag) : TyN → Value
  | .b n => .type n
  | .own c => .ref (He.ga K c)
theorem DenF.len {K : PySem.W.Frag} {Hs : Hp} : ∀ {fs : List (Str × D)} {gs : List (Str × V)}, DenF K Hs fs gs → gs.length = fs.length
  | [], gs, h => by unfold DenF at h; subst h; rfl
  | (g, x) :: r, gs, h => by
    unfold DenF at h
    obtain ⟨w, r', rfl, h1, h2⟩ := h
    rw [List.length_cons, List.length_cons, DenF.len h2]
inductive Src where
  | u (i : Nat) | m (i : Nat) | w (i : Nat)
def srcOf {α : Type} (us mv ws : List α) : Src → Option α
  | .u i => us[i]?
  | .m i => mv[i]?
  | .w i => ws[i]?
def place {α : Type} (sp : List Src) (us mv ws : List α) : List α := sp.filterMap (srcOf us mv ws)
end DL
end
section
namespace DL
open PySem PySem.Spec PyProof.Rows L2 PySem.Froz
structure TxS (P : Program) (w : World) (h : Heap) (a : Addr) (vs : List (Str × Tok)) : Prop where
  ob : ∃ D : PySem.Froz.SD, h.get? a = some (sObj "set" D) ∧ TxOk P w D (vs.map (·.1)) ∧ (D.1.toList.map (·.2)).Perm (vs.map fun q => Value.str q.1 q.2) ∧ Ris D.2.2.place.toList ∧ (w.params.followText "set-order" = true ∨ D.2.2.led = true)
  nd : (vs.map (·.1)).Nodup
section
variable {P : Program} {w : World} {A : Around} {E : Value → Shared → Prop} {s : Shared} {a : Addr} {vs : List (Str × Tok)}
theorem TxS.at {h h' : Heap} (R : TxS P w h a vs) (k : ∀ o, h.get? a = some o → h'.get? a = some o) : TxS P w h' a vs := by
  obtain ⟨D, ho, r⟩ := R.ob
  exact ⟨⟨D, k _ ho, r⟩, R.nd⟩
end
abbrev txH (P : Program) (w : World) (ks : List Str) : Int := tupleKeyHash (strKind P w) ks
abbrev rowT (P : Program) (w : World) (q : Addr × List Str) : Int × Value := (txH P w q.2, Value.ref q.1)
structure TpS (P : Program) (w : World) (L : List (Addr × List Str)) (es : Array (Int × Value)) (t : SetTable) : Prop where
  rows : es.toList = L.map (rowT P w)
  tab : TabOk t (L.map fun q => txH P w q.2)
  led : w.params.followText "set-order" = true ∨ t.led = true
  room : L.length * 5 < t.mask * 3
  nd : (L.map (·.2)).Nodup
  few : L.length < 64
def TpSet (P : Program) (w : World) (h : Heap) (a : Addr) (L : List (Addr × List Str)) : Prop :=
  ∃ es ep t, (∃ o, h.get? a = some o ∧ o.ExactSet ∧ o.data = .set es ep t) ∧ TpS P w L es t
section
variable {P : Program} {w : World} {A : Around} {E : Value → Shared → Prop} {s : Shared} {a x : Addr} {L : List (Addr × List Str)} {es : Array (Int × Value)} {t : SetTable} {ks : List Str}
theorem TpSet.at {h h' : Heap} (R : TpSet P w h a L) (k : ∀ o, h.get? a = some o → h'.get? a = some o) : TpSet P w h' a L := by
  obtain ⟨es, ep, t, ⟨o, ho, r⟩, q⟩ := R
  exact ⟨es, ep, t, ⟨o, k o ho, r⟩, q⟩
end
end DL
end
section
namespace DL
open PySem PySem.Spec PyProof.Rows L2
def cdF (K : PySem.W.Frag) (f : Addr) : Addr := match K.lookup f with
  | some ⟨_, _, .func fd, _⟩ => (match fd.code with
    | .ref c => c
    | _ => 0)
  | _ => 0
abbrev Ats : Type := List (PySem.W.Frag → Addr)
structure SaysG (fa : List He.Fa) (fn : List He5.DefA) (tf : Ats) (ex : PySem.W.Frag → Bool) (h : Heap) (K : PySem.W.Frag) : Prop where
  s : He5.SaysA fa fn K
  ex : ex K = true
  hd : ∀ f ∈ tf, PySem.W.codeHdIn K (cdF K (f K)) (tabF K (f K)) = true
  out : ∀ f ∈ tf, K.lookup (tabF K (f K)) = none
  emp : ∀ f ∈ tf, h.get? (tabF K (f K)) = some { cls := .none, data := .fields #[] }
def tabsG (g : Addr → Option Obj) (tf : Ats) (K : PySem.W.Frag) : Bool := tf.all fun f => PySem.W.codeHdIn K (cdF K (f K)) (tabF K (f K)) && (g (tabF K (f K))).any He.emptyTab
section
variable {K : PySem.W.Frag}
def propB (K : PySem.W.Frag) (C f : Str) : Bool := He.eqO (PySem.W.findIn K (.ref (He.ga K C)) f) (some (some (.ref (He.ma K (He.ga K C) f)))) && (He.eqO (PySem.W.specialIn K (.ref (He.ma K (He.ga K C) f)) "__get__") (some (some (.builtin "property.__get__")))
  && (decide (PySem.W.takesIn K (.ref (He.ma K (He.ga K C) f)) = some true) && (match PySem.W.recIn K (He.ma K (He.ga K C) f) "property" with
    | some (.ref _ :: _) => true
    | _ => false)))
def ownB (K : PySem.W.Frag) (C : Str) : Bool := He.eqO (PySem.W.findIn K (.ref (He.ga K C)) "__class__") (some (some (.builtin "object.__class__"))) && (He.eqO (PySem.W.specialIn K (.builtin "object.__class__") "__get__") (some (some (.builtin "getset_descriptor.__get__")))
  && (decide (PySem.W.takesIn K (.builtin "object.__class__") = some true) && decide (PySem.W.mroIn K (He.ga K C) (.type "object") = some true)))
def sysB (K : PySem.W.Frag) : Bool := match K.lookup sysModules with
  | some o => decide (o.cls = .type "dict")
  | none => false
def notB (K : PySem.W.Frag) (t c : Value) : Bool := decide (PySem.W.kitOne K t c = some false)
end
end DL
end
section
namespace DL
open PySem PySem.Spec PyProof.Rows L2 PySem.W LamX
def XDenH (K : PySem.W.Frag) (Hs H : Hp) (fs : Option (List (Str × D))) (od : Option Addr) : Prop := match fs with
  | none => od = none
  | some fs => ∃ d gs, od = some d ∧ H d = some (.xd gs) ∧ DenF K Hs fs gs
theorem XDen.h {K : PySem.W.Frag} {G : Gh} {H : Hp} {fs : Option (List (Str × D))} {od : Option Addr} (h : XDen K G H fs od) : XDenH K G.Hs H fs od := by
  cases fs with
  | none => exact h
  | some fs =>
    obtain ⟨d, gs, h1, h2, _, h3⟩ := h
    exact ⟨d, gs, h1, h2, h3⟩
end DL
end
section
namespace DL
open PySem PySem.Spec PyProof.Rows L2 PySem.W
def kitB (K : PySem.W.Frag) (D : Addr) (cv : Value) (b : Bool) : Bool := decide (kitOne K (.ref D) cv = some b)
end DL
end
section
namespace DL
open PySem PySem.Spec PyProof.Rows L2
section
variable {K : PySem.W.Frag} {G G1 G2 : Gh} {σ : St} {H H' : Hp} {s : S}
noncomputable instance isTgDec (Hs : Hp) (a : Addr) : Decidable (isTg Hs a) := Classical.propDecidable _
end
section
variable {K : PySem.W.Frag} {x qual : Str} {params : Arguments} {body : List Stmt} {scope : Scope} {kws : List (Str × V)} {f : Addr} {fd : FuncData} {ps : List Str} {pv : Str}
def KwChainT {α : Type} (D : Addr) : List (Str × Value) → Sem α → Sem α → Prop
  | [], t, r => t = r
  | q :: l, t, r => ∃ (β γ : Type) (k1 : Option Value → Sem β) (k2 : β → Sem γ) (k3 : γ → Sem α) (a : β), t = ((nsGet D q.1 >>= k1) >>= k2) >>= k3 ∧ k1 (some q.2) = pure a ∧ KwChainT D l (k2 a >>= k3) r
theorem KwChainT.run {α : Type} {K : PySem.W.Frag} {M : Model} {A : Around} {E : Value → Shared → Prop} {Q : α → Shared → Prop} {s : Shared} {D : Addr} (X : K.In s.heap) : ∀ {l : List (Str × Value)} {t r : Sem α}, (∀ q ∈ l, PySem.W.nsIn K D q.1 = some (some q.2)) → KwChainT D l t r → wpAny M A r Q E s → wpAny M A t Q E s
  | [], t, r, _, e, h => by have e : t = r := e; rw [e]; exact h
  | q :: l, t, r, hl, e, h => by
    obtain ⟨β, γ, k1, k2, k3, a, e1, e2, e3⟩ := e
    have l1 : PySem.W.Looks M s.heap (nsGet D q.1 >>= k1) a := (PySem.W.looks_nsIn X (hl q (List.mem_cons_self ..))).andThen (PySem.W.Looks.of_pure e2)
    rw [e1, bind_assoc]
    exact wpAny_bind (l1.here (KwChainT.run X (fun p hp => hl p (List.mem_cons_of_mem _ hp)) e3 h))
end
def visitB : List Addr → Nat → List Addr → Nat × List Addr
  | [], seen, acc => (seen, acc)
  | a :: r, seen, acc => HandSHeadRun.frNat seen fun seen => HandSHeadRun.frNat a fun a =>
    match Nat.beq (Nat.land (Nat.shiftRight seen a) 1) 1 with
    | true => visitB r seen acc
    | false => visitB r (Nat.lor seen (Nat.shiftLeft 1 a)) (a :: acc)
def refsG (g : Addr → Option Obj) (a : Addr) : List Addr := match g a with
  | some o => He.refsD o
  | none => []
def levelsB (g : Addr → Option Obj) : Nat → Nat → List Addr → List Addr
  | 0, _, fr => fr
  | n + 1, seen, fr => match visitB (fr.flatMap (refsG g)) seen [] with
    | (seen', new) => fr ++ levelsB g n seen' new
def asM (n : Nat) (g : Addr → Option Obj) : List Addr := levelsB g n (Nat.shiftLeft 1 mainGlobals) [mainGlobals] ++ [cStatics, sysModules]
def obsL (as : (Addr → Option Obj) → List Addr) (fa : List He.Fa) (fn : List He5.DefA) (tf : Ats) (ex : PySem.W.Frag → Bool) (g : Addr → Option Obj) : He.AlD × Bool :=
  let K := He.frT g (as g)
  (He5.obsA fa fn K, ex K && tabsG g tf K)
theorem saysL_of {as : (Addr → Option Obj) → List Addr} {fa : List He.Fa} {fn : List He5.DefA} {tf : Ats} {ex : PySem.W.Frag → Bool} {h : Heap} (e : obsL as fa fn tf ex h.get? = (He5.valA fn, true)) : SaysG fa fn tf ex h (He.frT h.get? (as h.get?)) := by
  unfold obsL at e
  obtain ⟨e1, e2⟩ := Prod.mk.inj e
  obtain ⟨x1, x2⟩ := He.ba e2
  have one : ∀ f ∈ tf, _ := List.all_eq_true.mp x2
  have two : ∀ f ∈ tf, ∃ o, h.get? (tabF (He.frT h.get? (as h.get?)) (f (He.frT h.get? (as h.get?)))) = some o ∧ He.emptyTab o = true := fun f hf => by
    obtain ⟨_, y⟩ := He.ba (one f hf)
    obtain ⟨o, y1, y2⟩ := (Option.any_eq_true _ _).mp y
    exact ⟨o, y1, y2⟩
  refine ⟨e1, x1, fun f hf => (He.ba (one f hf)).1, fun f hf => ?_, fun f hf => ?_⟩
  · obtain ⟨o, q, z⟩ := two f hf
    exact He.frT_none q z
  · obtain ⟨o, q, z⟩ := two f hf
    rw [q, He.emptyTab_eq z]
def hookL (as : (Addr → Option Obj) → List Addr) (fa : List He.Fa) (fn : List He5.DefA) (tf : Ats) (ex : PySem.W.Frag → Bool) : PySem.W.Hook where
  α := He.AlD × Bool
  obs := fun s => obsL as fa fn tf ex s.heap.get?
  val := fun _ => (He5.valA fn, true)
  says := fun _ h => ∃ K : PySem.W.Frag, K.In h ∧ SaysG fa fn tf ex h K
  of := fun _ _ e => ⟨_, He.frT_in, saysL_of e⟩
  keeps := fun _ _ _ ⟨K, hK, c⟩ k => ⟨K, PySem.W.Frag.In.keeps hK k, ⟨c.s, c.ex, c.hd, c.out, fun f hf => k _ _ (c.emp f hf)⟩⟩
end DL
end
section
namespace Lw
open PySem PySem.Spec PyProof.Rows L2 DL
def top (i : Nat) : Stmt := PySem.Challenge.pw_lastwrites_k01_writes_as_made.main.body.getD i (.Pass ⟨0, 0, 0, 0⟩)
abbrev s_law_begun : Stmt := top 15
abbrev s_Write___eq__ : Stmt := inClass (top 13) 5
abbrev s_is_number : Stmt := top 8
abbrev s_is_cell : Stmt := top 10
abbrev s_is_value : Stmt := top 11
abbrev s_are_cells : Stmt := top 12
abbrev s_is_name : Stmt := top 9
abbrev s_Write___init__ : Stmt := inClass (top 13) 0
abbrev s_Write_with_required : Stmt := inClass (top 13) 4
abbrev s_law_differs : Stmt := top 23
abbrev s_Write_cells : Stmt := inClass (top 13) 1
abbrev s_Write_required : Stmt := inClass (top 13) 2
abbrev s_Write_sets : Stmt := inClass (top 13) 3
abbrev s_law_is_as_made : Stmt := top 22
abbrev s_law_next : Stmt := top 16
abbrev s_law_pick : Stmt := top 17
abbrev s_law_names : Stmt := top 18
abbrev s_law_shuffled : Stmt := top 19
abbrev s_law_spots : Stmt := top 20
abbrev s_law_pairs : Stmt := top 21
abbrev s_law : Stmt := top 24
end Lw
end
section
set_option maxHeartbeats 0
namespace Lw
open PySem PySem.Spec PyProof.Rows L2 DL
def d_law_begun : He5.DefA := ⟨fun K => He.ga K "_law_begun", "_law_begun", "_law_begun", defArgs s_law_begun, defBody s_law_begun, defScope s_law_begun, [], []⟩
def d_Write___eq__ : He5.DefA := ⟨fun K => He.ma K (He.ga K "Write") "__eq__", "__eq__", "Write.__eq__", defArgs s_Write___eq__, defBody s_Write___eq__, defScope s_Write___eq__, [], []⟩
def d_is_number : He5.DefA := ⟨fun K => He.ga K "is_number", "is_number", "is_number", defArgs s_is_number, defBody s_is_number, defScope s_is_number, [], []⟩
def d_is_cell : He5.DefA := ⟨fun K => He.ga K "is_cell", "is_cell", "is_cell", defArgs s_is_cell, defBody s_is_cell, defScope s_is_cell, [], []⟩
def d_is_value : He5.DefA := ⟨fun K => He.ga K "is_value", "is_value", "is_value", defArgs s_is_value, defBody s_is_value, defScope s_is_value, [], []⟩
def d_are_cells : He5.DefA := ⟨fun K => He.ga K "are_cells", "are_cells", "are_cells", defArgs s_are_cells, defBody s_are_cells, defScope s_are_cells, [], []⟩
def d_is_name : He5.DefA := ⟨fun K => He.ga K "is_name", "is_name", "is_name", defArgs s_is_name, defBody s_is_name, defScope s_is_name, [], []⟩
def d_Write___init__ : He5.DefA := ⟨fun K => He.ma K (He.ga K "Write") "__init__", "__init__", "Write.__init__", defArgs s_Write___init__, defBody s_Write___init__, defScope s_Write___init__, [], [("required", .bl false)]⟩
def d_Write_with_required : He5.DefA := ⟨fun K => He.ma K (He.ga K "Write") "with_required", "with_required", "Write.with_required", defArgs s_Write_with_required, defBody s_Write_with_required, defScope s_Write_with_required, [], []⟩
def d_law_differs : He5.DefA := ⟨fun K => He.ga K "_law_differs", "_law_differs", "_law_differs", defArgs s_law_differs, defBody s_law_differs, defScope s_law_differs, [], []⟩
def d_Write_cells : He5.DefA := ⟨fun K => He5.wf K (He.ga K "Write") "property" "cells", "cells", "Write.cells", defArgs s_Write_cells, defBody s_Write_cells, defScope s_Write_cells, [], []⟩
def d_Write_required : He5.DefA := ⟨fun K => He5.wf K (He.ga K "Write") "property" "required", "required", "Write.required", defArgs s_Write_required, defBody s_Write_required, defScope s_Write_required, [], []⟩
def d_Write_sets : He5.DefA := ⟨fun K => He.ma K (He.ga K "Write") "sets", "sets", "Write.sets", defArgs s_Write_sets, defBody s_Write_sets, defScope s_Write_sets, [], []⟩
def d_law_is_as_made : He5.DefA := ⟨fun K => He.ga K "_law_is_as_made", "_law_is_as_made", "_law_is_as_made", defArgs s_law_is_as_made, defBody s_law_is_as_made, defScope s_law_is_as_made, [], []⟩
def d_law_next : He5.DefA := ⟨fun K => He.ga K "_law_next", "_law_next", "_law_next", defArgs s_law_next, defBody s_law_next, defScope s_law_next, [], []⟩
def d_law_pick : He5.DefA := ⟨fun K => He.ga K "_law_pick", "_law_pick", "_law_pick", defArgs s_law_pick, defBody s_law_pick, defScope s_law_pick, [], []⟩
def d_law_names : He5.DefA := ⟨fun K => He.ga K "_law_names", "_law_names", "_law_names", defArgs s_law_names, defBody s_law_names, defScope s_law_names, [], []⟩
def d_law_shuffled : He5.DefA := ⟨fun K => He.ga K "_law_shuffled", "_law_shuffled", "_law_shuffled", defArgs s_law_shuffled, defBody s_law_shuffled, defScope s_law_shuffled, [], []⟩
def d_law_spots : He5.DefA := ⟨fun K => He.ga K "_law_spots", "_law_spots", "_law_spots", defArgs s_law_spots, defBody s_law_spots, defScope s_law_spots, [], []⟩
def d_law_pairs : He5.DefA := ⟨fun K => He.ga K "_law_pairs", "_law_pairs", "_law_pairs", defArgs s_law_pairs, defBody s_law_pairs, defScope s_law_pairs, [], []⟩
def d_law : He5.DefA := ⟨fun K => He.ga K "law", "law", "law", defArgs s_law, defBody s_law, defScope s_law, [], []⟩
def fn_0 : List (He5.DefA) := [d_law_begun, d_Write___eq__, d_is_number, d_is_cell, d_is_value, d_are_cells, d_is_name, d_Write___init__, d_Write_with_required, d_law_differs, d_Write_cells, d_Write_required, d_Write_sets, d_law_is_as_made, d_law_next, d_law_pick, d_law_names, d_law_shuffled, d_law_spots, d_law_pairs, d_law]
def fn : List (He5.DefA) := fn_0
def fa_0 : List (He.Fa) := [.glo "law", .mkr "Write", .cls "Write", .glo "Write", .glo "are_cells", .glo "is_cell", .glo "is_name", .glo "is_number", .glo "is_value", .glo "_law_begun", .glo "_law_differs", .glo "_law_is_as_made", .glo "_law_names", .glo "_law_next", .glo "_law_pairs", .glo "_law_pick", .glo "_law_shuffled", .glo "_law_spots", .meth "Write" "__eq__", .meth "Write" "sets", .meth "Write" "with_required", .free "abs", .free "all", .free "bool", .free "dict", .free "int", .free "isinstance", .free "len", .free "list", .free "range"]
def fa_1 : List (He.Fa) := [.free "repr", .free "sorted", .free "str", .noat "Write" "name", .noat "Write" "own_cells", .noat "Write" "own_need", .str "LETTERS" "abcdefghijklmnopqrstuvwxyz", .int "LONGEST" 8, .int "MOST_CELL" 15, .int "MOST_VALUE" 9]
def fa : List (He.Fa) := fa_0 ++ fa_1
def exl_0 : List (PySem.W.Frag → Bool) := [fun K => kitB K (He.ga K "Write") (.type "NoneType") false, fun K => kitB K (He.ga K "Write") (.type "dict") false, fun K => kitB K (He.ga K "Write") (.type "list") false, fun K => kitB K (He.ga K "Write") (.type "str") false, fun K => kitB K (He.ga K "Write") (.type "tuple") false, fun K => propB K "Write" "cells", fun K => propB K "Write" "required", sysB, fun K => ownB K "Write", fun K => notB K (.ref (He.ga K "Write")) (.type "bool"), fun K => notB K (.ref (He.ga K "Write")) (.type "dict"), fun K => notB K (.ref (He.ga K "Write")) (.type "int"), fun K => notB K (.ref (He.ga K "Write")) (.type "str"), fun K => notB K (.type "NoneType") (.ref (He.ga K "Write")), fun K => notB K (.type "bool") (.ref (He.ga K "Write")), fun K => notB K (.type "int") (.ref (He.ga K "Write")), fun K => notB K (.type "str") (.ref (He.ga K "Write")), fun K => notB K (.type "list") (.ref (He.ga K "Write")), fun K => notB K (.type "tuple") (.ref (He.ga K "Write")), fun K => notB K (.type "dict") (.ref (He.ga K "Write"))]
def exl : List (PySem.W.Frag → Bool) := exl_0
def nms_0 : List (PySem.Str) := ["CaseError", "NoWrite", "MOST_CELL", "MOST_VALUE", "LONGEST", "LETTERS", "is_number", "is_name", "is_cell", "is_value", "are_cells", "Write", "_law_begun", "_law_next", "_law_pick", "_law_names", "_law_shuffled", "_law_spots", "_law_pairs", "_law_is_as_made", "_law_differs"]
def nms : List (PySem.Str) := nms_0
def tf : Ats := []
def ex (K : PySem.W.Frag) : Bool := exl.all fun b => b K
abbrev R : PySem.W.OpenRow := PySem.W.OpenLaw.row PySem.Challenge.rw_lastwrites_k01_writes_as_made
abbrev hk : PySem.W.Hook := hookL (asM 5) fa fn tf ex
def ob (s : PySem.W.SharedT) : He.AlD × Bool := obsL (asM 5) fa fn tf ex (HandSHeadRun.getT s)
theorem run (w : World) : HandSHeadRun.RunEq R (PySem.W.view R.prog [24]) hk ob 24000 nms w := by
  intro os
  kernel_rfl
end Lw
end 
section
namespace DL
open PySem PySem.Spec PyProof.Rows L2
theorem Le.trans {a b c : Hp} (x : Le a b) (y : Le b c) : Le a c := fun p o h => y p o (x p o h)
section
variable {K : PySem.W.Frag}
theorem le_l {Hs Hs' : Hp} (e : Le Hs Hs') {a : Addr} {xs : List V} (h : SqL K Hs a xs) : SqL K Hs' a xs := by
  rcases h with h | h
  · exact .inl (le_rd e h)
  · exact .inr h
theorem den_root {Hs : Hp} {p : Addr} {d : D} {o : HO} (hp : Hs p = some o) (h : DenO K Hs d o) : Den K Hs d (.ref p) := by
  cases d with
  | lst ds => obtain ⟨vs, rfl, h1⟩ := h; unfold Den; exact ⟨p, vs, rfl, hp, h1⟩
  | tup ds => obtain ⟨vs, rfl, h1⟩ := h; unfold Den; exact ⟨p, vs, rfl, .of hp, h1⟩
  | tpl ds => obtain ⟨vs, ob, rfl, h0, h1⟩ := h; unfold Den; exact ⟨p, vs, ob, rfl, hp, h0, h1⟩
  | twr ds => obtain ⟨vs, rfl, h1⟩ := h; unfold Den; exact ⟨p, vs, rfl, hp, h1⟩
  | dic ds => obtain ⟨vs, rfl, h1⟩ := h; unfold Den; exact ⟨p, vs, rfl, hp, h1⟩
  | dit ds => obtain ⟨vs, rfl, h1⟩ := h; unfold Den; exact ⟨p, vs, rfl, hp, h1⟩
  | ins c fs => obtain ⟨dx, vs, rfl, h1⟩ := h; unfold Den; exact ⟨p, dx, vs, rfl, hp, h1⟩
  | _ => exact h.elim
theorem sub_l {Hs H : Hp} (b : Bare Hs) (s : Sub Hs H) {a : Addr} {xs : List V} (h : SqL K Hs a xs) : SqL K H a xs := by
  rcases h with (h | ⟨o, h⟩) | h
  · exact .inl (sub_rd s h)
  · obtain ⟨_, e⟩ := b _ _ _ h
    cases e
  · exact .inr h
theorem sub_t {Hs H : Hp} (b : Bare Hs) (s : Sub Hs H) {a : Addr} {xs : List V} (h : SqT K Hs a xs) : SqT K H a xs := by
  rcases h with (h | ⟨o, h⟩) | h
  · exact .inl (sub_rd s h)
  · exact .inl (.inr ⟨o, sub_raw s h fun z => z⟩)
  · exact .inr h
theorem ext_root {Hs H : Hp} (b : Bare Hs) (s : Sub Hs H) {a : Addr} {o : HO} (h : H a = some o ∨ (Lk o ∧ ∃ ob, H a = some (.frz ob o))) (nf : ∀ ob u, o ≠ .frz ob u) (nt : ¬ isTg Hs a) : Le Hs (upd Hs a o) ∧ Bare (upd Hs a o) ∧ Sub (upd Hs a o) H := by
  refine ⟨fun c u e => ?_, fun c q u e => ?_, fun c u e => ?_⟩
  · by_cases z : c = a
    · subst z
      rw [upd_same]
      rcases s c u e with q | ⟨_, ob, q⟩ | ⟨⟨k, q⟩, _⟩
      rotate_left 2
      · subst q; exact absurd ⟨k, e⟩ nt
      all_goals rcases h with h | ⟨lk, ob', h⟩ <;> rw [q] at h
      · exact h.symm
      · cases h
        obtain ⟨_, eu⟩ := b _ _ _ e
        subst eu
        exact lk.elim
      · cases h
        exact absurd rfl (nf _ _)
      · cases h; rfl
    · rw [upd_ne z]; exact e
  · by_cases z : c = a
    · subst z; rw [upd_same] at e; cases e; exact absurd rfl (nf _ _)
    · rw [upd_ne z] at e; exact b _ _ _ e
  · by_cases z : c = a
    · subst z; rw [upd_same] at e; cases e; exact h.imp id .inl
    · rw [upd_ne z] at e; exact s _ _ e
theorem nt_new {Hs : Hp} {p : Addr} {d : D} (h : Hs p = none) : NT Hs (.ref p) d := by
  have z : ∀ a, V.ref p = .ref a → ¬ isTg Hs a := fun a e ⟨k, q⟩ => by cases e; rw [h] at q; cases q
  cases d with
  | lst ds => exact z
  | dic ds => exact z
  | dit ds => exact z
  | _ => trivial
theorem DenH.up {Hs H : Hp} (b : Bare Hs) (s : Sub Hs H) {d : D} {v : V} (h : DenH K Hs H d v) (nt : NT Hs v d) : ∃ Hs', Le Hs Hs' ∧ Bare Hs' ∧ Sub Hs' H ∧ Den K Hs' d v ∧ ∀ a, isTg Hs' a → isTg Hs a := by
  cases d with
  | lst ds =>
    obtain ⟨a, vs, e1, h1, h2⟩ := h
    obtain ⟨x, y, z⟩ := ext_root b s (.inl h1) (fun _ _ w => nomatch w) (nt a e1)
    exact ⟨_, x, y, z, by unfold Den; exact ⟨a, vs, e1, upd_same, h2.le x⟩, fun c => tg_upd (fun _ z => nomatch z)⟩
  | dic ds =>
    obtain ⟨a, vs, e1, h1, h2⟩ := h
    obtain ⟨x, y, z⟩ := ext_root b s (h1.imp id fun ⟨o, w⟩ => ⟨trivial, o, w⟩) (fun _ _ w => nomatch w) (nt a e1)
    exact ⟨_, x, y, z, by unfold Den; exact ⟨a, vs, e1, upd_same, h2.le x⟩, fun c => tg_upd (fun _ z => nomatch z)⟩
  | dit ds =>
    obtain ⟨a, vs, e1, h1, h2⟩ := h
    obtain ⟨x, y, z⟩ := ext_root b s (h1.imp id fun ⟨o, w⟩ => ⟨trivial, o, w⟩) (fun _ _ w => nomatch w) (nt a e1)
    exact ⟨_, x, y, z, by unfold Den; exact ⟨a, vs, e1, upd_same, h2.le x⟩, fun c => tg_upd (fun _ z => nomatch z)⟩
  | _ => exact ⟨Hs, .refl _, b, s, h, fun _ z => z⟩
theorem DenH.up2 {Hs H : Hp} (b : Bare Hs) (s : Sub Hs H) {d e : D} {v u : V} (h : DenH K Hs H d v) (h' : DenH K Hs H e u) (nt : NT Hs v d) (nt' : NT Hs u e) : ∃ Hs', Le Hs Hs' ∧ Bare Hs' ∧ Sub Hs' H ∧ Den K Hs' d v ∧ Den K Hs' e u := by
  obtain ⟨H1, l1, b1, s1, d1, t1⟩ := h.up b s nt
  obtain ⟨H2, l2, b2, s2, d2, _⟩ := (h'.le l1).up b1 s1 (nt'.mono t1)
  exact ⟨H2, l1.trans l2, b2, s2, d1.le l2, d2⟩
theorem DenL.get {Hs : Hp} : ∀ {ds : List D} {vs : List V} {i : Nat} {d : D}, DenL K Hs ds vs → ds[i]? = some d → ∃ v, vs[i]? = some v ∧ Den K Hs d v
  | [], _, _, _, _, e => by simp at e
  | d :: ds, vs, 0, _, h, e => by
    unfold DenL at h
    obtain ⟨v, r, rfl, h1, _⟩ := h
    simp at e; subst e
    exact ⟨v, rfl, h1⟩
  | d :: ds, vs, i + 1, _, h, e => by
    unfold DenL at h
    obtain ⟨v, r, rfl, _, h2⟩ := h
    exact DenL.get (i := i) h2 (by simpa using e)
theorem DenL.getV {Hs : Hp} : ∀ {ds : List D} {vs : List V} {i : Nat} {v : V}, DenL K Hs ds vs → vs[i]? = some v → ∃ d, ds[i]? = some d ∧ Den K Hs d v
  | [], _, _, _, h, e => by unfold DenL at h; subst h; simp at e
  | d :: ds, vs, 0, _, h, e => by
    unfold DenL at h
    obtain ⟨v, r, rfl, h1, _⟩ := h
    simp at e; subst e
    exact ⟨d, rfl, h1⟩
  | d :: ds, vs, i + 1, _, h, e => by
    unfold DenL at h
    obtain ⟨v, r, rfl, _, h2⟩ := h
    exact DenL.getV (i := i) h2 (by simpa using e)
theorem DenL.append {Hs : Hp} : ∀ {ds es : List D} {vs us : List V}, DenL K Hs ds vs → DenL K Hs es us → DenL K Hs (ds ++ es) (vs ++ us)
  | [], _, vs, _, h, t => by unfold DenL at h; subst h; exact t
  | d :: ds, _, vs, _, h, t => by
    unfold DenL at h
    obtain ⟨v, r, rfl, h1, h2⟩ := h
    exact DenL.cons h1 (DenL.append h2 t)
theorem DenL.snoc {Hs : Hp} {ds : List D} {d : D} {vs : List V} {v : V} (h : DenL K Hs ds vs) (t : Den K Hs d v) : DenL K Hs (ds ++ [d]) (vs ++ [v]) := h.append (.cons t .nil)
theorem DenL.ints {Hs : Hp} : ∀ (ns : List Int), DenL K Hs (ns.map D.int) (ns.map V.int)
  | [] => .nil
  | n :: r => .cons (by unfold Den; rfl) (DenL.ints r)
theorem DenL.of_forall {Hs : Hp} : ∀ {ds : List D} {vs : List V}, ds.length = vs.length → (∀ (i : Nat) d v, ds[i]? = some d → vs[i]? = some v → Den K Hs d v) → DenL K Hs ds vs
  | [], [], _, _ => .nil
  | d :: ds, v :: vs, e, h => .cons (h 0 d v rfl rfl) (DenL.of_forall (by simpa using e) fun i d' v' a b => h (i + 1) d' v' (by simpa using a) (by simpa using b))
theorem DenL.erase {Hs : Hp} : ∀ {ds : List D} {vs : List V} (i : Nat), DenL K Hs ds vs → DenL K Hs (ds.eraseIdx i) (vs.eraseIdx i)
  | [], vs, _, h => by unfold DenL at h; subst h; exact .nil
  | d :: ds, vs, 0, h => by
    unfold DenL at h
    obtain ⟨v, r, rfl, h1, h2⟩ := h
    exact h2
  | d :: ds, vs, i + 1, h => by
    unfold DenL at h
    obtain ⟨v, r, rfl, h1, h2⟩ := h
    exact .cons h1 (DenL.erase i h2)
theorem DenL.take {Hs : Hp} : ∀ {ds : List D} {vs : List V} (n : Nat), DenL K Hs ds vs → DenL K Hs (ds.take n) (vs.take n)
  | [], vs, n, h => by unfold DenL at h; subst h; simp only [List.take_nil]; exact .nil
  | d :: ds, vs, 0, h => .nil
  | d :: ds, vs, n + 1, h => by
    unfold DenL at h
    obtain ⟨v, r, rfl, h1, h2⟩ := h
    exact .cons h1 (DenL.take n h2)
theorem DenL.drop {Hs : Hp} : ∀ {ds : List D} {vs : List V} (n : Nat), DenL K Hs ds vs → DenL K Hs (ds.drop n) (vs.drop n)
  | [], vs, n, h => by unfold DenL at h; subst h; simp only [List.drop_nil]; exact .nil
  | d :: ds, vs, 0, h => h
  | d :: ds, vs, n + 1, h => by
    unfold DenL at h
    obtain ⟨v, r, rfl, h1, h2⟩ := h
    exact DenL.drop n h2
theorem DenL.reverse {Hs : Hp} : ∀ {ds : List D} {vs : List V}, DenL K Hs ds vs → DenL K Hs ds.reverse vs.reverse
  | [], vs, h => by unfold DenL at h; subst h; exact .nil
  | d :: ds, vs, h => by
    unfold DenL at h
    obtain ⟨v, r, rfl, h1, h2⟩ := h
    rw [List.reverse_cons, List.reverse_cons]
    exact (DenL.reverse h2).snoc h1
end
def pur {α : Type} (a : α) : M α := fun s => .ok a s
def bnd {α β : Type} (g : M α) (f : α → M β) : M β := fun s => match g s with
  | .ok a s' => f a s'
  | .exc c fs s' => .exc c fs s'
  | .bad => .bad
def peek (a : A) (s : S) : Option D := match a with
  | .d x => some x
  | .sl i => match s.sl[i]? with
    | some (.fr d) => some d
    | some (.ow d) => (match pairO d with
      | none => some d
      | some _ => none)
    | _ => none
def setSl (i : Nat) (x : Sl) (s : S) : S := { s with sl := s.sl.set i x }
def force : A → M D
  | .d x, s => .ok x s
  | .sl i, s => match s.sl[i]? with
    | some (.fr d) => .ok d s
    | some (.ow d) => .ok d (setSl i (.fr d) s)
    | _ => .bad
theorem Gh.le.trans {a b c : Gh} (x : a.le b) (y : b.le c) : a.le c := ⟨y.fx.trans x.fx, y.dm.trans x.dm, x.hs.trans y.hs⟩
theorem TgOk.same {r0 : Nat} {G : Gh} {H : Hp} : TgOk r0 G G H H := ⟨fun _ _ => rfl, fun _ _ h => h, fun _ h => h⟩
theorem RsAt.rgTo {K : PySem.W.Frag} {G : Gh} {H H' : Hp} {r : Rs} (z : RsAt K G H r) (hh : ∀ a, isTg G.Hs a → H' a = H a) (k : Nat) (d : D) (e : r.rg[k]? = some d) : ∃ a o, G.Hs a = some (.own (r.r0 + k)) ∧ H' a = some o ∧ DenO K G.Hs d o := by
  obtain ⟨a, o, h1, h2, h3⟩ := z.rg k d e
  exact ⟨a, o, h1, by rw [hh a ⟨_, h1⟩]; exact h2, h3⟩
theorem RsAt.fzTo {K : PySem.W.Frag} {G : Gh} {H H' : Hp} {r : Rs} (z : RsAt K G H r) (hh : ∀ a, isTg G.Hs a → H' a = H a) (k : Nat) (d : D) (e : r.fz[k]? = some d) : ∃ a o, G.Hs a = some (.own k) ∧ (H' a = some o ∨ (Lk o ∧ ∃ ob, H' a = some (.frz ob o))) ∧ DenO K G.Hs d o := by
  obtain ⟨a, o, h1, h2, h3⟩ := z.fz k d e
  exact ⟨a, o, h1, by rw [hh a ⟨_, h1⟩]; exact h2, h3⟩
theorem RsAt.tgNe {K : PySem.W.Frag} {G : Gh} {H : Hp} {r : Rs} (z : RsAt K G H r) {a p : Addr} (h : isTg G.Hs a) (hp : r.has p) : a ≠ p := fun e => by
  obtain ⟨k, q⟩ := h
  rw [e, (z.no p hp).1] at q; cases q
section
variable {Hs Hs' : Hp} {σ σ' : St} {i j : Nat} {d : D} {p q : Addr} {w : Option V}
theorem inn_one (e : pairO d = none) : inn d = d := by unfold inn; rw [e]
theorem pairO_some {w : Str × D} (e : pairO d = some w) : d = .tup [.str w.1, w.2] := by
  unfold pairO at e
  split at e
  · cases e; rfl
  · cases e
theorem DenO.pairO {K : PySem.W.Frag} {o : HO} (h : DenO K Hs d o) (mu : MutO o) : DL.pairO d = none := by
  cases e : DL.pairO d with
  | none => rfl
  | some w =>
    have := pairO_some e
    subst this
    obtain ⟨vs, e, _⟩ := h; subst e; exact mu.elim
end
section
variable {K : PySem.W.Frag} {G : Gh} {σ : St} {H : Hp} {s : S} {p : Addr} {d : D} {o : HO} {v : V} {i : Nat}
theorem Sub.tagH {Hs : Hp} (h : Sub Hs H) (hp : isTg Hs p) : Sub Hs (upd H p o) := fun a u e => by
  by_cases z : a = p
  · subst z
    obtain ⟨k, q⟩ := hp
    rw [q] at e; cases e
    exact .inr (.inr ⟨⟨k, rfl⟩, by rw [upd_same]; exact fun w => nomatch w⟩)
  · rw [upd_ne z]; exact h a u e
theorem DenO.noFrz (h : DenO K G.Hs d o) : NoFrz o := by
  cases d with
  | lst ds => obtain ⟨vs, rfl, h1⟩ := h; trivial
  | tup ds => obtain ⟨vs, rfl, h1⟩ := h; trivial
  | tpl ds => obtain ⟨vs, ob, rfl, h0, h1⟩ := h; trivial
  | twr ds => obtain ⟨vs, rfl, h1⟩ := h; trivial
  | dic ds => obtain ⟨vs, rfl, h1⟩ := h; trivial
  | dit ds => obtain ⟨vs, rfl, h1⟩ := h; trivial
  | ins c fs => obtain ⟨dx, vs, rfl, h1⟩ := h; trivial
  | _ => exact h.elim
theorem RelX.writeO {rs : Option Rs} {x : Addr} (r : RelX K G H rs) (h1 : G.Fx p = none) (h2 : G.Hs p = none) (h4 : RsNe rs p) : RelX K G (upd H p (.own x)) rs where
  lo := fun a ob u e nt => by
    by_cases z : a = p
    · subst z; rw [upd_same] at e; cases e
    · rw [upd_ne z] at e; exact r.lo a ob u e nt
  fx := fun a u e => by rw [upd_ne (ne_of_none e h1)]; exact r.fx a u e
  hs := r.hs.newH h2
  ba := r.ba
  dm := r.dm
  dh := fun a q => by
    by_cases e : a = p
    · subst e; rw [upd_same]; exact fun z => nomatch z
    · rw [upd_ne e]; exact r.dh a q
  rs := r.rs.newH h4 h2
theorem Rel.newO {x : Addr} (r : Rel K G σ H s) (hp : H p = none) : Rel K G σ (upd H p (.own x)) s := by
  obtain ⟨f1, f2, f3, f4⟩ := r.x.fresh hp
  refine ⟨r.x.writeO f1 f2 f4, r.fr, fun i d e => ?_, r.ap, r.ln, r.me.newH fun q e => r.meNe e hp⟩
  obtain ⟨q, u, a1, a2, a3⟩ := r.ow i d e
  exact ⟨q, u, a1, by rw [upd_ne (ne_of_none a2 hp)]; exact a2, a3⟩
theorem get_set_ne {α : Type} {l : List α} {i j : Nat} {x : α} (h : j ≠ i) : (l.set i x)[j]? = l[j]? := List.getElem?_set_ne (Ne.symm h)
theorem get_set_eq {α : Type} {l : List α} {i : Nat} {x y : α} (h : (l.set i x)[i]? = some y) : y = x ∧ i < l.length := by
  have lt : i < l.length := by
    have := List.getElem?_eq_some_iff.mp h
    obtain ⟨z, _⟩ := this
    simpa using z
  rw [List.getElem?_set_self lt] at h
  cases h
  exact ⟨rfl, lt⟩
theorem Rel.setFr (r : Rel K G σ H s) (h : Den K G.Hs d v) : Rel K G (σ.set i (some v)) H (setSl i (.fr d) s) := by
  refine ⟨r.x, fun j e hj => ?_, fun j e hj => ?_, fun j k e f p hj hk aj ak => ?_, by simp [setSl, r.ln], r.me⟩
  · by_cases z : j = i
    · subst z
      obtain ⟨e1, lt⟩ := get_set_eq (show (s.sl.set j (.fr d))[j]? = some (.fr e) from hj)
      cases e1
      exact ⟨v, List.getElem?_set_self (by rw [r.ln]; exact lt), h⟩
    · rw [get_set_ne z]
      exact r.fr j e (by rw [← get_set_ne z (x := Sl.fr d)]; exact hj)
  · by_cases z : j = i
    · subst z
      obtain ⟨e1, lt⟩ := get_set_eq (show (s.sl.set j (.fr d))[j]? = some (.ow e) from hj)
      cases e1
    · obtain ⟨q, u, a1, a2⟩ := r.ow j e (by rw [← get_set_ne z (x := Sl.fr d)]; exact hj)
      exact ⟨q, u, a1.re (get_set_ne z), a2⟩
  · have zj : j ≠ i := fun z => by
      subst z
      obtain ⟨e1, _⟩ := get_set_eq (show (s.sl.set j (.fr d))[j]? = some (.ow e) from hj)
      cases e1
    have zk : k ≠ i := fun z => by
      subst z
      obtain ⟨e1, _⟩ := get_set_eq (show (s.sl.set k (.fr d))[k]? = some (.ow f) from hk)
      cases e1
    exact r.ap j k e f p (by rw [← get_set_ne zj (x := Sl.fr d)]; exact hj) (by rw [← get_set_ne zk (x := Sl.fr d)]; exact hk) (aj.re (get_set_ne zj).symm) (ak.re (get_set_ne zk).symm)
theorem Rel.setNo (r : Rel K G σ H s) (w : Option V) : Rel K G (σ.set i w) H (setSl i .no s) := by
  refine ⟨r.x, fun j e hj => ?_, fun j e hj => ?_, fun j k e f p hj hk aj ak => ?_, by simp [setSl, r.ln], r.me⟩
  · have z : j ≠ i := fun z => by
      subst z
      obtain ⟨e1, _⟩ := get_set_eq (show (s.sl.set j .no)[j]? = some (.fr e) from hj)
      cases e1
    rw [get_set_ne z]
    exact r.fr j e (by rw [← get_set_ne z (x := Sl.no)]; exact hj)
  · have z : j ≠ i := fun z => by
      subst z
      obtain ⟨e1, _⟩ := get_set_eq (show (s.sl.set j .no)[j]? = some (.ow e) from hj)
      cases e1
    obtain ⟨q, u, a1, a2⟩ := r.ow j e (by rw [← get_set_ne z (x := Sl.no)]; exact hj)
    exact ⟨q, u, a1.re (get_set_ne z), a2⟩
  · have zj : j ≠ i := fun z => by
      subst z
      obtain ⟨e1, _⟩ := get_set_eq (show (s.sl.set j .no)[j]? = some (.ow e) from hj)
      cases e1
    have zk : k ≠ i := fun z => by
      subst z
      obtain ⟨e1, _⟩ := get_set_eq (show (s.sl.set k .no)[k]? = some (.ow f) from hk)
      cases e1
    exact r.ap j k e f p (by rw [← get_set_ne zj (x := Sl.no)]; exact hj) (by rw [← get_set_ne zk (x := Sl.no)]; exact hk) (aj.re (get_set_ne zj).symm) (ak.re (get_set_ne zk).symm)
theorem Rel.setOwV (r : Rel K G σ H s) (hp : H p = none) (hv : OwnV G.Hs d v p) (h : DenO K G.Hs (inn d) o) (mu : MutO o) : Rel K G (σ.set i (some v)) (upd H p o) (setSl i (.ow d) s) := by
  obtain ⟨f1, f2, f3, f4⟩ := r.x.fresh hp
  have here : i < s.sl.length → OwnA G.Hs (σ.set i (some v)) i d p := fun lt => hv.at (List.getElem?_set_self (by rw [r.ln]; exact lt))
  have ne : ∀ (j : Nat) (e : D) (q : Addr), s.sl[j]? = some (.ow e) → OwnA G.Hs σ j e q → q ≠ p := fun j e q a b z => by
    obtain ⟨q', u, a1, a2, _⟩ := r.ow j e a
    have := a1.fn b
    subst this
    rw [z, hp] at a2; cases a2
  refine ⟨r.x.write f1 f2 f4 h.noFrz, fun j e hj => ?_, fun j e hj => ?_, fun j k e f q hj hk aj ak => ?_, by simp [setSl, r.ln], r.me.newH fun q e => r.meNe e hp⟩
  · have z : j ≠ i := fun z => by
      subst z
      obtain ⟨e1, _⟩ := get_set_eq (show (s.sl.set j (.ow d))[j]? = some (.fr e) from hj)
      cases e1
    rw [get_set_ne z]
    exact r.fr j e (by rw [← get_set_ne z (x := Sl.ow d)]; exact hj)
  · by_cases z : j = i
    · subst z
      obtain ⟨e1, lt⟩ := get_set_eq (show (s.sl.set j (.ow d))[j]? = some (.ow e) from hj)
      cases e1
      exact ⟨p, o, here lt, upd_same, mu, h, f2, f1, f3, f4⟩
    · have hj' : s.sl[j]? = some (.ow e) := by rw [← get_set_ne z (x := Sl.ow d)]; exact hj
      obtain ⟨q, u, a1, a2, a3⟩ := r.ow j e hj'
      exact ⟨q, u, a1.re (get_set_ne z), by rw [upd_ne (ne j e q hj' a1)]; exact a2, a3⟩
  · by_cases zj : j = i
    · by_cases zk : k = i
      · rw [zj, zk]
      · exfalso
        subst zj
        obtain ⟨ee, lt⟩ := get_set_eq (show (s.sl.set j (.ow d))[j]? = some (.ow e) from hj)
        cases ee
        have := aj.fn (here lt)
        subst this
        exact ne k f _ (by rw [← get_set_ne zk (x := Sl.ow d)]; exact hk) (ak.re (get_set_ne zk).symm) rfl
    · have aj1 := aj.re (get_set_ne zj).symm
      have hj' : s.sl[j]? = some (.ow e) := by rw [← get_set_ne zj (x := Sl.ow d)]; exact hj
      by_cases zk : k = i
      · exfalso
        subst zk
        obtain ⟨ee, lt⟩ := get_set_eq (show (s.sl.set k (.ow d))[k]? = some (.ow f) from hk)
        cases ee
        have := ak.fn (here lt)
        subst this
        exact ne j e _ hj' aj1 rfl
      · exact r.ap j k e f q hj' (by rw [← get_set_ne zk (x := Sl.ow d)]; exact hk) aj1 (ak.re (get_set_ne zk).symm)
theorem Rel.setOw (r : Rel K G σ H s) (hp : H p = none) (h : DenO K G.Hs d o) (mu : MutO o) : Rel K G (σ.set i (some (.ref p))) (upd H p o) (setSl i (.ow d) s) := by
  have pn : pairO d = none := h.pairO mu
  exact r.setOwV hp (OwnV.one pn) (by rw [inn_one pn]; exact h) mu
theorem Rel.writeOwG {d' : D} {o' : HO} (r : Rel K G σ H s) (hi : s.sl[i]? = some (.ow d)) (hs : OwnA G.Hs σ i d p) (hs' : ∀ q, OwnA G.Hs σ i d' q ↔ OwnA G.Hs σ i d q) (h : DenO K G.Hs (inn d') o') (mu : MutO o') : Rel K G σ (upd H p o') (setSl i (.ow d') s) := by
  obtain ⟨p', o, a1, a2, a3, a4, a5, a6, a7, a8⟩ := r.ow i d hi
  have := a1.fn hs
  subst this
  have ne : ∀ (j : Nat) (e : D) (q : Addr), j ≠ i → s.sl[j]? = some (.ow e) → OwnA G.Hs σ j e q → q ≠ p' := fun j e q n a b z => by
    subst z
    exact n (r.ap j i e d q a hi b hs)
  have mne : ∀ q, s.me = some q → q.x ≠ p' := fun q e z => by
    have w := r.me
    rw [e] at w
    obtain ⟨gs, h1, _⟩ := (show MeAt K G H s.rs q from w).o
    rw [z, a2] at h1; cases h1; exact a3
  refine ⟨r.x.write a6 a5 a8 h.noFrz, fun j e hj => ?_, fun j e hj => ?_, fun j k e f q hj hk aj ak => ?_, by simp [setSl, r.ln], r.me.newH mne⟩
  · have z : j ≠ i := fun z => by
      subst z
      obtain ⟨e1, _⟩ := get_set_eq (show (s.sl.set j (.ow d'))[j]? = some (.fr e) from hj)
      cases e1
    exact r.fr j e (by rw [← get_set_ne z (x := Sl.ow d')]; exact hj)
  · by_cases z : j = i
    · subst z
      obtain ⟨e1, lt⟩ := get_set_eq (show (s.sl.set j (.ow d'))[j]? = some (.ow e) from hj)
      cases e1
      exact ⟨p', o', (hs' _).mpr hs, upd_same, mu, h, a5, a6, a7, a8⟩
    · have hj' : s.sl[j]? = some (.ow e) := by rw [← get_set_ne z (x := Sl.ow d')]; exact hj
      obtain ⟨q, u, b1, b2, b3⟩ := r.ow j e hj'
      exact ⟨q, u, b1, by rw [upd_ne (ne j e q z hj' b1)]; exact b2, b3⟩
  · have up : ∀ {j : Nat} {e : D}, (setSl i (.ow d') s).sl[j]? = some (.ow e) → OwnA G.Hs σ j e q → ∃ e', s.sl[j]? = some (.ow e') ∧ OwnA G.Hs σ j e' q := fun {j e} hj a => by
      by_cases z : j = i
      · subst z
        obtain ⟨e1, _⟩ := get_set_eq (show (s.sl.set j (.ow d'))[j]? = some (.ow e) from hj)
        cases e1
        exact ⟨d, hi, (hs' _).mp a⟩
      · exact ⟨e, by rw [← get_set_ne z (x := Sl.ow d')]; exact hj, a⟩
    obtain ⟨e', hj', aj'⟩ := up hj aj
    obtain ⟨f', hk', ak'⟩ := up hk ak
    exact r.ap j k e' f' q hj' hk' aj' ak'
theorem Rel.writeOw {d' : D} {o' : HO} (r : Rel K G σ H s) (hi : s.sl[i]? = some (.ow d)) (hs : σ[i]? = some (some (.ref p))) (h : DenO K G.Hs d' o') (mu : MutO o') (hn : pairO d = none := by rfl) : Rel K G σ (upd H p o') (setSl i (.ow d') s) := by
  have pn : pairO d' = none := h.pairO mu
  refine r.writeOwG hi (by rw [OwnA.one hn]; exact hs) (fun q => ?_) (by rw [inn_one pn]; exact h) mu
  rw [OwnA.one hn, OwnA.one pn]
theorem Rel.freeze2 (r : Rel K G σ H s) (hi : s.sl[i]? = some (.ow d)) : ∃ G', G.le G' ∧ Rel K G' σ H (setSl i (.fr d) s) ∧ (∃ v, σ[i]? = some (some v) ∧ Den K G'.Hs d v) ∧ ∀ p, OwnA G.Hs σ i d p → ∃ o, G'.Hs p = some o ∧ MutO o := by
  obtain ⟨p, o, a1, a2, a3, a4, a5, a6, a7, a8⟩ := r.ow i d hi
  have hl := Gh.le_add (G := G) (p := p) (o := o) a5
  have den0 : Den K (G.add p o).Hs (inn d) (.ref p) := den_root (by show upd G.Hs p o p = some o; exact upd_same) (a4.le hl.hs)
  have den1 : ∃ v, σ[i]? = some (some v) ∧ Den K (G.add p o).Hs d v := by
    cases e : pairO d with
    | none =>
      rw [OwnA.one e] at a1
      rw [inn_one e] at den0
      exact ⟨_, a1, den0⟩
    | some w =>
      unfold OwnA at a1
      rw [e] at a1
      obtain ⟨t, b1, b2⟩ := a1
      have ei : inn d = w.2 := by unfold inn; rw [e]
      rw [ei] at den0
      refine ⟨_, b1, ?_⟩
      rw [pairO_some e]
      refine den_root (o := .tup [.str w.1, .ref p]) (hl.hs _ _ b2) ⟨_, rfl, ?_⟩
      unfold DenL
      refine ⟨_, _, rfl, by unfold Den; rfl, ?_⟩
      unfold DenL
      exact ⟨_, _, rfl, den0, by unfold DenL; rfl⟩
  obtain ⟨v, sv, den⟩ := den1
  have r0 : Rel K G σ H (setSl i .no s) := by
    have := r.setNo (i := i) (some v)
    have e : σ.set i (some v) = σ := by
      apply List.ext_getElem?
      intro j
      by_cases z : j = i
      · subst z
        rw [List.getElem?_set_self (List.getElem?_eq_some_iff.mp sv).1, sv]
      · rw [get_set_ne z]
    rw [e] at this; exact this
  have r1 : Rel K (G.add p o) σ H (setSl i .no s) := r0.join a2 a5 a7 a8 a4.noFrz (hm := fun q e z => by
    have w := r.me
    rw [show s.me = some q from e] at w
    obtain ⟨gs, h1, _⟩ := (show MeAt K G H s.rs q from w).o
    rw [z, a2] at h1; cases h1; exact a3) fun j e hj z => by
    have nz : j ≠ i := fun y => by
      subst y
      obtain ⟨e1, _⟩ := get_set_eq (show (s.sl.set j .no)[j]? = some (.ow e) from hj)
      cases e1
    exact nz (r.ap j i e d p (by rw [← get_set_ne nz (x := Sl.no)]; exact hj) hi z a1)
  refine ⟨_, hl, ?_, ⟨_, sv, den⟩, fun p' ha => by
    have := a1.fn ha
    subst this
    exact ⟨o, by show upd G.Hs p o p = some o; exact upd_same, a3⟩⟩
  have r2 := r1.setFr (i := i) den
  have e : σ.set i (some v) = σ := by
    apply List.ext_getElem?
    intro j
    by_cases z : j = i
    · subst z
      rw [List.getElem?_set_self (List.getElem?_eq_some_iff.mp sv).1, sv]
    · rw [get_set_ne z]
  have e2 : setSl i (.fr d) (setSl i .no s) = setSl i (.fr d) s := by
    unfold setSl; simp
  rw [e, e2] at r2
  exact r2
theorem Rel.freeze (r : Rel K G σ H s) (hi : s.sl[i]? = some (.ow d)) : ∃ G', G.le G' ∧ Rel K G' σ H (setSl i (.fr d) s) ∧ ∃ v, σ[i]? = some (some v) ∧ Den K G'.Hs d v := by
  obtain ⟨G', l, r', h, _⟩ := r.freeze2 hi
  exact ⟨G', l, r', h⟩
end
end DL
end
section
namespace L2
open PySem PySem.Spec PyProof.Rows
theorem PE.imp {X : Cx} {e : Expr} {t t' : TE} (h : PE X e t) (i : ∀ σ H Q, t' σ H Q → t σ H Q) : PE X e t' := ⟨fun pins s σ H Q I q => h.run pins s σ H Q I (i σ H Q q)⟩
theorem PT.imp {X : Cx} {e : Expr} {t t' : TT} (h : PT X e t) (i : ∀ σ H Q, t' σ H Q → t σ H Q) : PT X e t' := ⟨fun pins s σ H Q I q => h.run pins s σ H Q I (i σ H Q q)⟩
theorem PW.imp {X : Cx} {e : Expr} {t t' : TT} (h : PW X e t) (i : ∀ σ H Q, t' σ H Q → t σ H Q) : PW X e t' := ⟨fun wh pins s σ H Q I q => h.run wh pins s σ H Q I (i σ H Q q)⟩
theorem PA.imp {X : Cx} {e : List Expr} {t t' : TA} (h : PA X e t) (i : ∀ σ H Q, t' σ H Q → t σ H Q) : PA X e t' := ⟨fun pos pins s σ H Q I q => h.run pos pins s σ H Q I (i σ H Q q)⟩
theorem PS.imp {X : Cx} {e : Stmt} {t t' : TS} (h : PS X e t) (i : ∀ D σ H, t' D σ H → t D σ H) : PS X e t' := ⟨fun pins s σ H D I q => h.run pins s σ H D I (i D σ H q)⟩
theorem PSs.imp {X : Cx} {e : List Stmt} {t t' : TS} (h : PSs X e t) (i : ∀ D σ H, t' D σ H → t D σ H) : PSs X e t' := ⟨fun pins s σ H D I q => h.run pins s σ H D I (i D σ H q)⟩
end L2
namespace DL
open PySem PySem.Spec PyProof.Rows L2
def PostX (K : PySem.W.Frag) (E : XK) (G : Gh) (c : Str) (fs : Option (List (Str × D))) (rs : Option Rs) : Prop :=
  ∀ H' G' od, G.le G' → RelX K G' H' rs → XDen K G' H' fs od → E (.ref (He.ga K c)) od H'
def PostE (K : PySem.W.Frag) (E : XK) (G : Gh) (σ : St) (Q : VK) : R A → Prop
  | .ok a s => ∀ v H' G', G.le G' → Rel K G' σ H' s → ADen K G' σ a v → Q v H'
  | .exc c fs s => PostX K E G c fs s.rs
  | .bad => False
def tD (K : PySem.W.Frag) (E : XK) (g : M A) : TE := fun σ H Q => ∃ G s, Rel K G σ H s ∧ PostE K E G σ Q (g s)
abbrev DE (X : Cx) (E : XK) (e : Expr) (g : M A) : Prop := PE X e (tD X.K E g)
def PostT (K : PySem.W.Frag) (E : XK) (G : Gh) (σ : St) (Q : Bool → Hp → Prop) : R Bool → Prop
  | .ok b s => ∀ H' G', G.le G' → Rel K G' σ H' s → Q b H'
  | .exc c fs s => PostX K E G c fs s.rs
  | .bad => False
def tT (K : PySem.W.Frag) (E : XK) (g : M Bool) : TT := fun σ H Q => ∃ G s, Rel K G σ H s ∧ PostT K E G σ Q (g s)
abbrev DT (X : Cx) (E : XK) (e : Expr) (g : M Bool) : Prop := PT X e (tT X.K E g)
abbrev DW (X : Cx) (E : XK) (e : Expr) (g : M Bool) : Prop := PW X e (tT X.K E g)
def PostA (K : PySem.W.Frag) (E : XK) (G : Gh) (σ : St) (Q : List V → Hp → Prop) : R (List A) → Prop
  | .ok as s => ∀ vs H' G', G.le G' → Rel K G' σ H' s → ADenL K G' σ as vs → Q vs H'
  | .exc c fs s => PostX K E G c fs s.rs
  | .bad => False
def tA (K : PySem.W.Frag) (E : XK) (g : M (List A)) : TA := fun σ H Q => ∃ G s, Rel K G σ H s ∧ PostA K E G σ Q (g s)
abbrev DA (X : Cx) (E : XK) (es : List Expr) (g : M (List A)) : Prop := PA X es (tA X.K E g)
inductive Rv where
  | old (d : D) | nw (d : D) | no
def RvPost (K : PySem.W.Frag) (Hs H : Hp) (Q : VK) : Rv → Prop
  | .old d => ∀ v, Den K Hs d v → Q v H
  | .nw d => ∀ p o, H p = none → DenO K Hs d o → Q (.ref p) (upd H p o)
  | .no => False
def rvM : Rv → M A
  | .old d => pur (.d d)
  | .nw d => pur (.d d)
  | .no => bad
def DenHL (K : PySem.W.Frag) (Hs H : Hp) : List D → List V → Prop
  | [], vs => vs = []
  | d :: ds, vs => ∃ v r, vs = v :: r ∧ DenH K Hs H d v ∧ DenHL K Hs H ds r
def BareN (Hs : Hp) (x y : V) (d e : D) : Prop := Bare Hs ∧ NT Hs x d ∧ NT Hs y e
def NTL (Hs : Hp) : List V → List D → Prop
  | v :: vs, d :: ds => NT Hs v d ∧ NTL Hs vs ds
  | _, _ => True
def BareL (Hs : Hp) (xs : List V) (ds : List D) : Prop := Bare Hs ∧ NTL Hs xs ds
def rD2 (K : PySem.W.Frag) (F : D → D → Rv) : R2 := fun x y H Q => ∃ Hs d e, BareN Hs x y d e ∧ Sub Hs H ∧ DenH K Hs H d x ∧ DenH K Hs H e y ∧ RvPost K Hs H Q (F d e)
def rD1 (K : PySem.W.Frag) (F : D → Rv) : V → Hp → VK → Prop := fun x H Q => ∃ Hs d, Bare Hs ∧ Sub Hs H ∧ DenH K Hs H d x ∧ RvPost K Hs H Q (F d)
def rDn (K : PySem.W.Frag) (F : List D → Rv) : List V → Hp → VK → Prop := fun xs H Q => ∃ Hs ds, BareL Hs xs ds ∧ Sub Hs H ∧ DenHL K Hs H ds xs ∧ RvPost K Hs H Q (F ds)
section
variable {K : PySem.W.Frag} {E : XK} {G G' : Gh} {σ : St} {H : Hp} {s : S} {Q : VK}
theorem PostX.mono {c : Str} {fs : Option (List (Str × D))} {rs : Option Rs} (h : PostX K E G c fs rs) (l : G.le G') : PostX K E G' c fs rs := fun H' G2 od l2 => h H' G2 od (l.trans l2)
theorem ADen.le {a : A} {v : V} (h : ADen K G σ a v) (l : G.le G') : ADen K G' σ a v := by
  cases a with
  | d x => exact Den.le l.hs h
  | sl i => exact h
theorem ADenL.le : ∀ {as : List A} {vs : List V}, ADenL K G σ as vs → G.le G' → ADenL K G' σ as vs
  | [], _, h, _ => h
  | a :: r, vs, h, l => by
    obtain ⟨v, us, e, h1, h2⟩ := h
    exact ⟨v, us, e, h1.le l, ADenL.le h2 l⟩
theorem PostE.mono {r : R A} (h : PostE K E G σ Q r) (l : G.le G') : PostE K E G' σ Q r := by
  cases r with
  | ok a s => exact fun v H' G2 l2 => h v H' G2 (l.trans l2)
  | exc c fs s => exact PostX.mono h l
  | bad => exact h
theorem Rel.peek (r : Rel K G σ H s) {a : A} {v : V} {d : D} (h : ADen K G σ a v) (p : peek a s = some d) : DenH K G.Hs H d v := by
  cases a with
  | d x =>
    have e : x = d := Option.some.inj p
    subst e
    exact Den.h r.x.ba r.x.hs h
  | sl i =>
    have p' : (match s.sl[i]? with | some (.fr d) => some d | some (.ow d) => (match pairO d with | none => some d | some _ => none) | _ => none) = some d := p
    cases q : s.sl[i]? with
    | none => rw [q] at p'; cases p'
    | some z =>
      rw [q] at p'
      have h' : σ[i]? = some (some v) := h
      cases z with
      | no => cases p'
      | fr x =>
        cases p'
        obtain ⟨w, e1, e2⟩ := r.fr i d q
        rw [e1] at h'; cases h'
        exact Den.h r.x.ba r.x.hs e2
      | ow x =>
        dsimp only at p'
        cases pn : pairO x with
        | some _ => rw [pn] at p'; cases p'
        | none =>
        rw [pn] at p'
        cases p'
        obtain ⟨w, o, e1, e2, e3, e4, _⟩ := r.ow i d q
        rw [OwnA.one pn] at e1
        rw [inn_one pn] at e4
        rw [e1] at h'; cases h'
        exact DenO.h e2 e4 e3
theorem Rel.peekN (r : Rel K G σ H s) {a : A} {v : V} {d : D} (h : ADen K G σ a v) (p : DL.peek a s = some d) : NT G.Hs v d := by
  cases a with
  | d x =>
    have e : x = d := Option.some.inj p
    subst e
    exact Den.nt h
  | sl i =>
    have p' : (match s.sl[i]? with | some (.fr d) => some d | some (.ow d) => (match pairO d with | none => some d | some _ => none) | _ => none) = some d := p
    cases q : s.sl[i]? with
    | none => rw [q] at p'; cases p'
    | some z =>
      rw [q] at p'
      have h' : σ[i]? = some (some v) := h
      cases z with
      | no => cases p'
      | fr x =>
        cases p'
        obtain ⟨w, e1, e2⟩ := r.fr i d q
        rw [e1] at h'; cases h'
        exact Den.nt e2
      | ow x =>
        dsimp only at p'
        cases pn : pairO x with
        | some _ => rw [pn] at p'; cases p'
        | none =>
        rw [pn] at p'
        cases p'
        obtain ⟨w, o, e1, e2, e3, e4, e5, _⟩ := r.ow i d q
        rw [OwnA.one pn] at e1
        rw [e1] at h'; cases h'
        exact nt_new e5
theorem Rel.force (r : Rel K G σ H s) {a : A} {v : V} {d : D} {s' : S} (h : ADen K G σ a v) (p : force a s = .ok d s') : ∃ G', G.le G' ∧ Rel K G' σ H s' ∧ Den K G'.Hs d v := by
  cases a with
  | d x =>
    have e : R.ok x s = .ok d s' := p
    cases e
    exact ⟨G, .refl G, r, h⟩
  | sl i =>
    have p' : (match s.sl[i]? with | some (.fr d) => R.ok d s | some (.ow d) => .ok d (setSl i (.fr d) s) | _ => .bad) = .ok d s' := p
    cases q : s.sl[i]? with
    | none => rw [q] at p'; cases p'
    | some z =>
      rw [q] at p'
      have h' : σ[i]? = some (some v) := h
      cases z with
      | no => cases p'
      | fr x =>
        cases p'
        obtain ⟨w, e1, e2⟩ := r.fr i d q
        rw [e1] at h'; cases h'
        exact ⟨G, .refl G, r, e2⟩
      | ow x =>
        cases p'
        obtain ⟨G', l, r', w, e1, e2⟩ := r.freeze q
        rw [e1] at h'; cases h'
        exact ⟨G', l, r', e2⟩
theorem force_exc {a : A} {c : Str} {fs : Option (List (Str × D))} {s' : S} (p : force a s = .exc c fs s') : False := by
  cases a with
  | d x => exact nomatch (show R.ok x s = .exc c fs s' from p)
  | sl i =>
    have p' : (match s.sl[i]? with | some (.fr d) => R.ok d s | some (.ow d) => .ok d (setSl i (.fr d) s) | _ => .bad) = .exc c fs s' := p
    cases q : s.sl[i]? with
    | none => rw [q] at p'; cases p'
    | some z => rw [q] at p'; cases z <;> cases p'
theorem Rel.rv (r : Rel K G σ H s) {rv : Rv} (h : PostE K E G σ Q (rvM rv s)) : RvPost K G.Hs H Q rv := by
  cases rv with
  | old d => exact fun v hd => h v H G (.refl G) r hd
  | nw d =>
    intro p o hp ho
    obtain ⟨f1, f2, f3, f4⟩ := r.x.fresh hp
    have l := Gh.le_add (G := G) (p := p) (o := o) f2
    exact h (.ref p) (upd H p o) (G.add p o) l (r.new hp ho.noFrz) (den_root (by show upd G.Hs p o p = some o; exact upd_same) (ho.le l.hs))
  | no => exact h.elim
end
def gVar (i : Nat) : M A := fun s => match s.sl[i]? with
  | some (.fr _) => .ok (.sl i) s
  | some (.ow _) => .ok (.sl i) s
  | _ => .bad
def pk (a : A) : M D := fun s => match peek a s with
  | some d => .ok d s
  | none => .bad
def gOp2 (F : D → D → Rv) (ga gb : M A) : M A := bnd ga fun a => bnd gb fun b => bnd (pk a) fun d => bnd (pk b) fun e => rvM (F d e)
def gOp1 (F : D → Rv) (ga : M A) : M A := bnd ga fun a => bnd (pk a) fun d => rvM (F d)
def gCons (ga : M A) (gs : M (List A)) : M (List A) := bnd ga fun a => bnd gs fun as => pur (a :: as)
def pkL : List A → M (List D)
  | [] => pur []
  | a :: r => bnd (pk a) fun d => bnd (pkL r) fun ds => pur (d :: ds)
def forceL : List A → M (List D)
  | [] => pur []
  | a :: r => bnd (force a) fun d => bnd (forceL r) fun ds => pur (d :: ds)
def gFn (F : List D → Rv) (gs : M (List A)) : M A := bnd gs fun as => bnd (pkL as) fun ds => rvM (F ds)
def gSeq (mk : List D → D) (gs : M (List A)) : M A := bnd gs fun as => bnd (forceL as) fun ds => pur (.d (mk ds))
def gTest (g : M A) : M Bool := bnd g fun a => bnd (pk a) fun d => match d with
  | .bl b => pur b
  | _ => bad
def gAnd (a b : M Bool) : M Bool := bnd a fun c => if c = true then b else pur false
def gOr (a b : M Bool) : M Bool := bnd a fun c => if c = true then pur true else b
def gNot (a : M Bool) : M Bool := bnd a fun c => pur (!c)
def gIf {α : Type} (c : M Bool) (a b : M α) : M α := bnd c fun x => if x = true then a else b
def gBl (c : M Bool) : M A := bnd c fun x => pur (.d (.bl x))
theorem pk_ok {a : A} {s s' : S} {d : D} (h : pk a s = .ok d s') : peek a s = some d ∧ s' = s := by
  unfold pk at h
  cases e : peek a s with
  | none => rw [e] at h; cases h
  | some x => rw [e] at h; cases h; exact ⟨rfl, rfl⟩
theorem pk_exc {a : A} {s s' : S} {c : Str} {fs : Option (List (Str × D))} (h : pk a s = .exc c fs s') : False := by
  unfold pk at h
  cases e : peek a s with
  | none => rw [e] at h; cases h
  | some x => rw [e] at h; cases h
section
variable {X : Cx} {E : XK} {a b c e : Expr} {ga gb gc : M A} {pos : Pos}
theorem de_int {i j pos} : DE X E (.Constant (.int i) j pos) (pur (.d (.int i))) := pe_int.imp fun σ H Q ⟨G, s, r, h⟩ => h (.int i) H G (.refl G) r (by show Den _ _ _ _; unfold Den; rfl)
theorem de_bl {i j pos} : DE X E (.Constant (.bool i) j pos) (pur (.d (.bl i))) := pe_bl.imp fun σ H Q ⟨G, s, r, h⟩ => h (.bl i) H G (.refl G) r (by show Den _ _ _ _; unfold Den; rfl)
theorem de_non {j pos} : DE X E (.Constant .none j pos) (pur (.d .non)) := pe_non.imp fun σ H Q ⟨G, s, r, h⟩ => h .non H G (.refl G) r (by show Den _ _ _ _; unfold Den; rfl)
theorem de_str {i j pos} : DE X E (.Constant (.str i) j pos) (pur (.d (.str i))) := pe_str.imp fun σ H Q ⟨G, s, r, h⟩ => h (.str i) H G (.refl G) r (by show Den _ _ _ _; unfold Den; rfl)
theorem de_glob {x : Str} {d : D} {v : V} {u : Value} {pos : Pos} (hg : Gl X x) (hm : X.mg x = some u) (r : RelV v u) (hd : ∀ Hs, Den X.K Hs d v) (h2 : (x == ("__debug__" : Str)) = false := by decide) : DE X E (.Name x pos) (pur (.d d)) :=
  (pe_glob hg hm r h2).imp fun σ H Q ⟨G, s, r, h⟩ => h v H G (.refl G) r (hd _)
theorem de_v (i : Nat) {x : Str} {pos : Pos} (hN : X.N[i]? = some x := by rfl) (hv : Vis X.env.scope x := by first | exact Or.inl rfl | exact Or.inr (Or.inl rfl) | exact Or.inr (Or.inr rfl)) (hd : (x == ("__debug__" : Str)) = false := by decide)
    (hcd : (x == ("__classdict__" : Str)) = false := by decide) : DE X E (.Name x pos) (gVar i) := (pe_var hN hv hd hcd).imp fun σ H Q ⟨G, s, r, h⟩ => by
  unfold gVar at h
  cases q : s.sl[i]? with
  | none => rw [q] at h; exact h.elim
  | some z =>
    rw [q] at h
    cases z with
    | no => exact h.elim
    | fr d =>
      obtain ⟨v, e1, _⟩ := r.fr i d q
      exact ⟨v, e1, h v H G (.refl G) r e1⟩
    | ow d =>
      obtain ⟨p, o, e0, _⟩ := r.ow i d q
      obtain ⟨t, e1⟩ := e0.val
      exact ⟨_, e1, h _ H G (.refl G) r e1⟩
structure IsPost (K : PySem.W.Frag) (E : XK) {β : Type} (P : Gh → R β → Prop) : Prop where
  ex : ∀ {G c fs s}, P G (.exc c fs s) → PostX K E G c fs s.rs
  bd : ∀ {G}, ¬ P G .bad
  mono : ∀ {G G' r}, P G r → G.le G' → P G' r
end
section
variable {K : PySem.W.Frag} {E : XK} {G G' : Gh} {σ : St} {H : Hp} {s : S}
theorem ipE {Q : VK} : IsPost K E (fun G => PostE K E G σ Q) := ⟨fun h => h, fun h => h, fun h l => PostE.mono h l⟩
theorem ipT {Q : Bool → Hp → Prop} : IsPost K E (fun G => PostT K E G σ Q) := ⟨fun h => h, fun h => h, fun {G G' r} h l => by
  cases r with
  | ok a s => exact fun H' G2 l2 => h H' G2 (l.trans l2)
  | exc c fs s => exact PostX.mono h l
  | bad => exact h⟩
theorem ipA {Q : List V → Hp → Prop} : IsPost K E (fun G => PostA K E G σ Q) := ⟨fun h => h, fun h => h, fun {G G' r} h l => by
  cases r with
  | ok a s => exact fun v H' G2 l2 => h v H' G2 (l.trans l2)
  | exc c fs s => exact PostX.mono h l
  | bad => exact h⟩
section
variable {α β : Type} {P : Gh → R β → Prop} (ip : IsPost K E P)
include ip
theorem stepE {g : M A} {f : A → M β} {T : VK} (h : P G (bnd g f s)) (r : Rel K G σ H s)
    (k : ∀ v H1 G1 a s1, G.le G1 → Rel K G1 σ H1 s1 → ADen K G1 σ a v → P G1 (f a s1) → T v H1) : tD K E g σ H T := by
  refine ⟨G, s, r, ?_⟩
  unfold bnd at h
  cases q : g s with
  | ok a s1 =>
    rw [q] at h
    exact fun v H1 G1 l r1 ad => k v H1 G1 a s1 l r1 ad (ip.mono h l)
  | exc c fs s1 => rw [q] at h; exact ip.ex h
  | bad => rw [q] at h; exact (ip.bd h).elim
theorem stepT {g : M Bool} {f : Bool → M β} {T : Bool → Hp → Prop} (h : P G (bnd g f s)) (r : Rel K G σ H s)
    (k : ∀ b H1 G1 s1, G.le G1 → Rel K G1 σ H1 s1 → P G1 (f b s1) → T b H1) : tT K E g σ H T := by
  refine ⟨G, s, r, ?_⟩
  unfold bnd at h
  cases q : g s with
  | ok a s1 =>
    rw [q] at h
    exact fun H1 G1 l r1 => k a H1 G1 s1 l r1 (ip.mono h l)
  | exc c fs s1 => rw [q] at h; exact ip.ex h
  | bad => rw [q] at h; exact (ip.bd h).elim
theorem stepA {g : M (List A)} {f : List A → M β} {T : List V → Hp → Prop} (h : P G (bnd g f s)) (r : Rel K G σ H s)
    (k : ∀ vs H1 G1 as s1, G.le G1 → Rel K G1 σ H1 s1 → ADenL K G1 σ as vs → P G1 (f as s1) → T vs H1) : tA K E g σ H T := by
  refine ⟨G, s, r, ?_⟩
  unfold bnd at h
  cases q : g s with
  | ok a s1 =>
    rw [q] at h
    exact fun vs H1 G1 l r1 ad => k vs H1 G1 a s1 l r1 ad (ip.mono h l)
  | exc c fs s1 => rw [q] at h; exact ip.ex h
  | bad => rw [q] at h; exact (ip.bd h).elim
theorem stepPk {a : A} {f : D → M β} (h : P G (bnd (pk a) f s)) : ∃ d, peek a s = some d ∧ P G (f d s) := by
  unfold bnd at h
  cases q : pk a s with
  | ok d s1 =>
    rw [q] at h
    obtain ⟨e, rfl⟩ := pk_ok q
    exact ⟨d, e, h⟩
  | exc c fs s1 => exact (pk_exc q).elim
  | bad => rw [q] at h; exact (ip.bd h).elim
theorem stepPkL : ∀ {as : List A} {f : List D → M β}, P G (bnd (pkL as) f s) → ∃ ds, (∀ {vs : List V}, Rel K G σ H s → ADenL K G σ as vs → DenHL K G.Hs H ds vs ∧ NTL G.Hs vs ds) ∧ P G (f ds s)
  | [], f, h => ⟨[], fun _ e => ⟨e, by have e' : _ = [] := e; subst e'; exact trivial⟩, h⟩
  | a :: r, f, h => by
    have h' : P G (bnd (pk a) (fun d => bnd (pkL r) fun ds => f (d :: ds)) s) := by
      unfold bnd at h ⊢
      have : pkL (a :: r) s = bnd (pk a) (fun d => bnd (pkL r) fun ds => pur (d :: ds)) s := rfl
      rw [this] at h
      unfold bnd at h
      cases q : pk a s with
      | ok d s1 =>
        rw [q] at h
        dsimp only at h ⊢
        cases q2 : pkL r s1 with
        | ok ds s2 => rw [q2] at h; exact h
        | exc c fs s2 => rw [q2] at h; exact h
        | bad => rw [q2] at h; exact h
      | exc c fs s1 => rw [q] at h; exact h
      | bad => rw [q] at h; exact h
    obtain ⟨d, e, h2⟩ := stepPk ip h'
    obtain ⟨ds, k, h3⟩ := stepPkL h2
    exact ⟨d :: ds, fun rel ad => by
      obtain ⟨v, us, e1, a1, a2⟩ := ad
      obtain ⟨k1, k2⟩ := k rel a2
      exact ⟨⟨v, us, e1, rel.peek a1 e, k1⟩, by subst e1; exact ⟨rel.peekN a1 e, k2⟩⟩, h3⟩
theorem stepForce {a : A} {f : D → M β} (h : P G (bnd (force a) f s)) (r : Rel K G σ H s) {v : V} (ad : ADen K G σ a v) : ∃ d s' G', G.le G' ∧ Rel K G' σ H s' ∧ Den K G'.Hs d v ∧ P G' (f d s') := by
  unfold bnd at h
  cases q : force a s with
  | ok d s1 =>
    rw [q] at h
    obtain ⟨G', l, r', e⟩ := r.force ad q
    exact ⟨d, s1, G', l, r', e, ip.mono h l⟩
  | exc c fs s1 => exact (force_exc q).elim
  | bad => rw [q] at h; exact (ip.bd h).elim
end
theorem stepForceL {β : Type} {P : Gh → R β → Prop} (ip : IsPost K E P) : ∀ {as : List A} {f : List D → M β} {G : Gh} {s : S} {vs : List V}, P G (bnd (forceL as) f s) → Rel K G σ H s → ADenL K G σ as vs → ∃ ds s' G', G.le G' ∧ Rel K G' σ H s' ∧ DenL K G'.Hs ds vs ∧ P G' (f ds s')
  | [], f, G, s, vs, h, r, ad => ⟨[], s, G, .refl G, r, by have e : vs = [] := ad; rw [e]; exact DenL.nil, h⟩
  | a :: t, f, G, s, vs, h, r, ad => by
    obtain ⟨v, us, e1, a1, a2⟩ := ad
    have h' : P G (bnd (force a) (fun d => bnd (forceL t) fun ds => f (d :: ds)) s) := by
      have e : bnd (forceL (a :: t)) f s = bnd (force a) (fun d => bnd (forceL t) fun ds => f (d :: ds)) s := by
        show bnd (bnd (force a) fun d => bnd (forceL t) fun ds => pur (d :: ds)) f s = _
        unfold bnd
        cases q : force a s with
        | ok d s1 =>
          dsimp only
          cases q2 : forceL t s1 <;> rfl
        | exc c fs s1 => rfl
        | bad => rfl
      rw [← e]; exact h
    obtain ⟨d, s1, G1, l1, r1, d1, h1⟩ := stepForce ip h' r a1
    obtain ⟨ds, s2, G2, l2, r2, d2, h2⟩ := stepForceL ip h1 r1 (a2.le l1)
    subst e1
    exact ⟨d :: ds, s2, G2, l1.trans l2, r2, .cons (d1.le l2.hs) d2, h2⟩
end
section
variable {X : Cx} {E : XK} {a b c e : Expr} {es : List Expr} {ga gb gc : M A} {gs : M (List A)} {pos : Pos}
theorem d_op2 {K : PySem.W.Frag} {F : D → D → Rv} {σ : St} {H : Hp} {Q : VK} (h : tD K E (gOp2 F ga gb) σ H Q) : tOp (rD2 K F) (tD K E ga) (tD K E gb) σ H Q := by
  obtain ⟨G, s, r, h⟩ := h
  refine stepE ipE h r fun x H1 G1 av s1 l1 r1 ad1 h1 => stepE ipE h1 r1 fun y H2 G2 bv s2 l2 r2 ad2 h2 => ?_
  obtain ⟨d, e1, h3⟩ := stepPk ipE h2
  obtain ⟨e, e2, h4⟩ := stepPk ipE h3
  exact ⟨G2.Hs, d, e, ⟨r2.x.ba, r2.peekN (ad1.le l2) e1, r2.peekN ad2 e2⟩, r2.x.hs, r2.peek (ad1.le l2) e1, r2.peek ad2 e2, r2.rv h4⟩
theorem d_op1 {K : PySem.W.Frag} {F : D → Rv} {σ : St} {H : Hp} {Q : VK} (h : tD K E (gOp1 F ga) σ H Q) : tUn (rD1 K F) (tD K E ga) σ H Q := by
  obtain ⟨G, s, r, h⟩ := h
  refine stepE ipE h r fun x H1 G1 av s1 l1 r1 ad1 h1 => ?_
  obtain ⟨d, e1, h3⟩ := stepPk ipE h1
  exact ⟨G1.Hs, d, r1.x.ba, r1.x.hs, r1.peek ad1 e1, r1.rv h3⟩
theorem de_op2 {op : Operator} {F : D → D → Rv} (ho : OpR X (binaryOp op) (rD2 X.K F)) (ha : DE X E a ga) (hb : DE X E b gb) : DE X E (.BinOp a op b pos) (gOp2 F ga gb) := (pe_op ho ha hb).imp fun σ H Q h => d_op2 h
theorem de_un {op : UnaryOp} {F : D → Rv} (ho : UnR X (unaryOp op) (rD1 X.K F)) (ha : DE X E a ga) : DE X E (.UnaryOp op a pos) (gOp1 F ga) := (pe_un ho ha).imp fun σ H Q h => d_op1 h
theorem de_cmp {op : CmpOp} {F : D → D → Rv} (ho : OpR X (compareOp op) (rD2 X.K F)) (ha : DE X E a ga) (hb : DE X E b gb) (hm : behindInMarks op b = false) : DE X E (.Compare a [op] [b] pos) (gOp2 F ga gb) := (pe_cmpR ho ha hb hm).imp fun σ H Q h => d_op2 h
theorem de_ix {F : D → D → Rv} (ho : IxR X (rD2 X.K F)) (ha : DE X E a ga) (hb : DE X E b gb) (hs : PlainIx b) : DE X E (.Subscript a b pos) (gOp2 F ga gb) := (pe_ix ho ha hb hs).imp fun σ H Q h => d_op2 h
theorem da_nil : DA X E [] (pur []) := pa_nil.imp fun σ H Q ⟨G, s, r, h⟩ => h [] H G (.refl G) r rfl
theorem da_cons (ha : DE X E e ga) (hr : DA X E es gs) (hs : starEach (e :: es) X.env = (false, eval e X.env) :: starEach es X.env := by rfl) : DA X E (e :: es) (gCons ga gs) := (pa_cons ha hr hs).imp fun σ H Q ⟨G, s, r, h⟩ =>
  stepE ipA h r fun x H1 G1 av s1 l1 r1 ad1 h1 => stepA ipA h1 r1 fun xs H2 G2 as s2 l2 r2 ad2 h2 => h2 (x :: xs) H2 G2 (.refl G2) r2 ⟨x, xs, rfl, ad1.le l2, ad2⟩
theorem d_fn {K : PySem.W.Frag} {F : List D → Rv} {σ : St} {H : Hp} {Q : VK} (h : tD K E (gFn F gs) σ H Q) : tCB (rDn K F) (tA K E gs) σ H Q := by
  obtain ⟨G, s, r, h⟩ := h
  refine stepA ipE h r fun vs H1 G1 as s1 l1 r1 ad1 h1 => ?_
  obtain ⟨ds, k, h2⟩ := stepPkL (σ := σ) (H := H1) ipE h1
  exact ⟨G1.Hs, ds, ⟨r1.x.ba, (k r1 ad1).2⟩, r1.x.hs, (k r1 ad1).1, r1.rv h2⟩
theorem de_callB {id : String} {x : Str} {p : Pos} {F : List D → Rv} (hc : CallR X (.builtin id) (rDn X.K F)) (hg : Gl X x) (hm : X.mg x = none) (hv : bootBuiltins x = some (.builtin id)) (ha : DA X E (e :: es) gs) (hn : x ≠ "__name__" := by decide) (hdb : (x == ("__debug__" : Str)) = false := by decide)
    (hs : starEach (e :: es) X.env = (false, eval e X.env) :: starEach es X.env := by rfl) (hpl : (backTo pos (starEach es X.env)).any (·.1) = false := by rfl) : DE X E (.Call (.Name x p) (e :: es) [] pos) (gFn F gs) := (pe_callB hc hg hm hv ha hn hdb hs hpl).imp fun σ H Q h => d_fn h
theorem de_callTy {T : String} {x : Str} {p : Pos} {F : List D → Rv} (hc : CallR X (.type T) (rDn X.K F)) (hg : Gl X x) (hm : X.mg x = none) (hv : bootBuiltins x = some (.type T)) (ha : DA X E (e :: es) gs) (hn : x ≠ "__name__" := by decide) (hdb : (x == ("__debug__" : Str)) = false := by decide)
    (hs : starEach (e :: es) X.env = (false, eval e X.env) :: starEach es X.env := by rfl) (hpl : (backTo pos (starEach es X.env)).any (·.1) = false := by rfl) : DE X E (.Call (.Name x p) (e :: es) [] pos) (gFn F gs) := (pe_callTy hc hg hm hv ha hn hdb hs hpl).imp fun σ H Q h => d_fn h
theorem den_lst {K : PySem.W.Frag} {Hs : Hp} {ds : List D} {vs : List V} (h : DenL K Hs ds vs) : DenO K Hs (.lst ds) (.lst vs) := ⟨vs, rfl, h⟩
theorem den_tup {K : PySem.W.Frag} {Hs : Hp} {ds : List D} {vs : List V} (h : DenL K Hs ds vs) : DenO K Hs (.tup ds) (.tup vs) := ⟨vs, rfl, h⟩
theorem d_seq {K : PySem.W.Frag} {σ : St} {H : Hp} {Q : VK} {mk : List D → D} {mo : List V → HO} (hm : ∀ Hs ds vs, DenL K Hs ds vs → DenO K Hs (mk ds) (mo vs)) (hz : ∀ s as s', gs s = .ok as s' → as.length ≤ sizeLine)
    (h : tD K E (gSeq mk gs) σ H Q) : (tA K E gs) σ H fun xs H1 => xs.length ≤ sizeLine ∧ ∀ p, H1 p = none → Q (.ref p) (upd H1 p (mo xs)) := by
  obtain ⟨G, s, r, h⟩ := h
  have h0 : PostE K E G σ Q (bnd gs (fun as => bnd (forceL as) fun ds => pur (.d (mk ds))) s) := h
  refine ⟨G, s, r, ?_⟩
  unfold bnd at h0
  cases q : gs s with
  | exc c fs s1 => rw [q] at h0; exact h0
  | bad => rw [q] at h0; exact h0
  | ok as s1 =>
    rw [q] at h0
    refine fun vs H1 G1 l r1 ad => ⟨by rw [ad.len]; exact hz _ _ _ q, fun p hp => ?_⟩
    obtain ⟨ds, s2, G2, l2, r2, d2, h2⟩ := stepForceL (P := fun G => PostE K E G σ Q) ipE (ipE.mono h0 l) r1 ad
    have ho := hm _ _ _ d2
    obtain ⟨_, f2, _, _⟩ := r2.x.fresh hp
    have l3 := Gh.le_add (G := G2) (p := p) (o := mo vs) f2
    exact h2 (.ref p) _ (G2.add p (mo vs)) l3 (r2.new hp ho.noFrz) (den_root (by show upd G2.Hs p _ p = _; exact upd_same) (ho.le l3.hs))
def LenA (n : Nat) (gs : M (List A)) : Prop := ∀ s as s', gs s = .ok as s' → as.length = n
theorem lenA_nil : LenA 0 (pur []) := fun s as s' h => by
  have e : R.ok [] s = .ok as s' := h
  cases e; rfl
theorem lenA_cons {n : Nat} (h : LenA n gs) : LenA (n + 1) (gCons ga gs) := fun s as s' e => by
  unfold gCons bnd at e
  cases q : ga s with
  | exc c fs s1 => rw [q] at e; cases e
  | bad => rw [q] at e; cases e
  | ok a s1 =>
    rw [q] at e
    dsimp only at e
    cases q2 : gs s1 with
    | exc c fs s1 => rw [q2] at e; cases e
    | bad => rw [q2] at e; cases e
    | ok t s2 =>
      rw [q2] at e
      have e' : R.ok (a :: t) s2 = .ok as s' := e
      cases e'
      rw [List.length_cons, h _ _ _ q2]
theorem small_line {n : Nat} (h : n ≤ 1000) : n ≤ sizeLine := Nat.le_trans h (by decide)
theorem de_tup {n : Nat} {x1} (h : DA X E es gs) (hl : LenA n gs) (hn : n ≤ 1000 := by decide) : DE X E (.Tuple es x1 pos) (gSeq .tup gs) := (pe_tup h).imp fun σ H Q q =>
  d_seq (mo := .tup) (fun Hs ds vs => den_tup) (fun s as s' e => by rw [hl s as s' e]; exact small_line hn) q
theorem de_lst {n : Nat} (h : DA X E es gs) (hl : LenA n gs) (hn : n ≤ 1000 := by decide) : DE X E (.List es pos) (gSeq .lst gs) := (pe_lst h).imp fun σ H Q q =>
  d_seq (mo := .lst) (fun Hs ds vs => den_lst) (fun s as s' e => by rw [hl s as s' e]; exact small_line hn) q
theorem d_test {K : PySem.W.Frag} {σ : St} {H : Hp} {Q : Bool → Hp → Prop} (h : tT K E (gTest ga) σ H Q) : tB (tD K E ga) σ H Q := by
  obtain ⟨G, s, r, h⟩ := h
  refine stepE ipT h r fun x H1 G1 av s1 l1 r1 ad1 h1 => ?_
  obtain ⟨d, e1, h3⟩ := stepPk ipT h1
  cases d with
  | bl b =>
    have e2 : x = .bl b := by
      have y := r1.peek ad1 e1
      have y' : Den K G1.Hs (.bl b) x := y
      unfold Den at y'
      exact y'
    exact ⟨b, e2, h3 H1 G1 (.refl G1) r1⟩
  | _ => exact h3.elim
theorem dt_val (h : DE X E e ga) (he : ∀ whole, isTrue e X.env whole = (do let v ← whole; standAt e.pos; holding [v] (truthy v)) := by intro _; rfl) : DT X E e (gTest ga) := (pt_val h he).imp fun σ H Q q => d_test q
theorem dt_cmp {op : CmpOp} {F : D → D → Rv} (ho : OpR X (compareOp op) (rD2 X.K F)) (ha : DE X E a ga) (hb : DE X E b gb) (hm : behindInMarks op b = false) : DT X E (.Compare a [op] [b] pos) (gTest (gOp2 F ga gb)) := (pt_cmpR ho ha hb hm).imp fun σ H Q q => by
  obtain ⟨G, s, r, h⟩ := q
  have h' : PostT X.K E G σ Q (bnd (gOp2 F ga gb) (fun a => bnd (pk a) fun d => match d with | .bl b => pur b | _ => bad) s) := h
  have z : tD X.K E (gOp2 F ga gb) σ H (fun x H' => ∃ k, x = .bl k ∧ Q k H') := stepE ipT h' r fun x H1 G1 av s1 l1 r1 ad1 h1 => by
    obtain ⟨d, e1, h3⟩ := stepPk ipT h1
    cases d with
    | bl b =>
      have y' : Den X.K G1.Hs (.bl b) x := r1.peek ad1 e1
      unfold Den at y'
      exact ⟨b, y', h3 H1 G1 (.refl G1) r1⟩
    | _ => exact h3.elim
  exact d_op2 z
theorem dw_and1 {g : M Bool} (ha : DT X E a g) : DW X E (.BoolOp .And [a] pos) g := pw_and1 ha
theorem dw_or1 {g : M Bool} (ha : DT X E a g) : DW X E (.BoolOp .Or [a] pos) g := pw_or1 ha
theorem dw_and {g g' : M Bool} {rest : List Expr} (ha : DT X E a g) (hb : DW X E (.BoolOp .And (b :: rest) pos) g') : DW X E (.BoolOp .And (a :: b :: rest) pos) (gAnd g g') := (pw_and ha hb).imp fun σ H Q ⟨G, s, r, h⟩ =>
  stepT ipT h r fun c H1 G1 s1 l1 r1 h1 => by
    cases c with
    | true => exact ⟨G1, s1, r1, h1⟩
    | false => exact h1 H1 G1 (.refl G1) r1
theorem dw_or {g g' : M Bool} {rest : List Expr} (ha : DT X E a g) (hb : DW X E (.BoolOp .Or (b :: rest) pos) g') : DW X E (.BoolOp .Or (a :: b :: rest) pos) (gOr g g') := (pw_or ha hb).imp fun σ H Q ⟨G, s, r, h⟩ =>
  stepT ipT h r fun c H1 G1 s1 l1 r1 h1 => by
    cases c with
    | false => exact ⟨G1, s1, r1, h1⟩
    | true => exact h1 H1 G1 (.refl G1) r1
theorem dt_w {g : M Bool} (h : DW X E e g) : DT X E e g := PW.pt h
theorem dt_not {g : M Bool} (ha : DT X E a g) : DT X E (.UnaryOp .Not a pos) (gNot g) := (pt_not ha).imp fun σ H Q ⟨G, s, r, h⟩ => stepT ipT h r fun c H1 G1 s1 l1 r1 h1 => h1 H1 G1 (.refl G1) r1
theorem de_if {g : M Bool} (hc : DT X E c g) (ha : DE X E a ga) (hb : DE X E b gb) : DE X E (.IfExp c a b pos) (gIf g ga gb) := (pe_ifExp hc ha hb).imp fun σ H Q ⟨G, s, r, h⟩ =>
  stepT ipE h r fun c H1 G1 s1 l1 r1 h1 => by
    cases c with
    | true => exact ⟨G1, s1, r1, h1⟩
    | false => exact ⟨G1, s1, r1, h1⟩
def gAndV (ga gb : M A) : M A := bnd ga fun a => bnd (pk a) fun d => match d with
  | .bl b => if b = true then gb else pur (.d (.bl false))
  | _ => bad
def gOrV (ga gb : M A) : M A := bnd ga fun a => bnd (pk a) fun d => match d with
  | .bl b => if b = true then pur (.d (.bl true)) else gb
  | _ => bad
def gNotV (ga : M A) : M A := bnd ga fun a => bnd (pk a) fun d => match d with
  | .bl b => pur (.d (.bl !b))
  | _ => bad
theorem den_bl {K : PySem.W.Frag} {Hs : Hp} {b : Bool} : Den K Hs (.bl b) (.bl b) := by unfold Den; rfl
theorem denH_bl {K : PySem.W.Frag} {Hs H : Hp} {b : Bool} {x : V} (h : DenH K Hs H (.bl b) x) : x = .bl b := by
  have y' : Den K Hs (.bl b) x := h
  unfold Den at y'
  exact y'
theorem denH_int {K : PySem.W.Frag} {Hs H : Hp} {b : Int} {x : V} (h : DenH K Hs H (.int b) x) : x = .int b := by
  have y' : Den K Hs (.int b) x := h
  unfold Den at y'
  exact y'
theorem denH_str {K : PySem.W.Frag} {Hs H : Hp} {b : Str} {x : V} (h : DenH K Hs H (.str b) x) : x = .str b := by
  have y' : Den K Hs (.str b) x := h
  unfold Den at y'
  exact y'
theorem denH_non {K : PySem.W.Frag} {Hs H : Hp} {x : V} (h : DenH K Hs H .non x) : x = .non := by
  have y' : Den K Hs .non x := h
  unfold Den at y'
  exact y'
theorem ad_bl {K : PySem.W.Frag} {G : Gh} {σ : St} {b : Bool} : ADen K G σ (.d (.bl b)) (.bl b) := den_bl (K := K) (Hs := G.Hs)
theorem de_and {rest : List Expr} (ha : DE X E a ga) (hb : DE X E (.BoolOp .And (b :: rest) pos) gb) : DE X E (.BoolOp .And (a :: b :: rest) pos) (gAndV ga gb) := (pe_and ha hb).imp fun σ H Q ⟨G, s, r, h⟩ =>
  stepE ipE h r fun x H1 G1 av s1 l1 r1 ad1 h1 => by
    obtain ⟨d, e1, h3⟩ := stepPk ipE h1
    cases d with
    | bl b =>
      refine ⟨b, denH_bl (r1.peek ad1 e1), ?_⟩
      cases b with
      | true => exact ⟨G1, s1, r1, h3⟩
      | false => exact h3 _ H1 G1 (.refl G1) r1 ad_bl
    | _ => exact h3.elim
theorem de_one {op} (h : DE X E a ga) : DE X E (.BoolOp op [a] pos) ga := pe_one h
theorem de_not (ha : DE X E a ga) : DE X E (.UnaryOp .Not a pos) (gNotV ga) := (pe_not ha).imp fun σ H Q ⟨G, s, r, h⟩ =>
  stepE ipE h r fun x H1 G1 av s1 l1 r1 ad1 h1 => by
    obtain ⟨d, e1, h3⟩ := stepPk ipE h1
    cases d with
    | bl b => exact ⟨b, denH_bl (r1.peek ad1 e1), h3 _ H1 G1 (.refl G1) r1 ad_bl⟩
    | _ => exact h3.elim
end
end DL
end
section
namespace L2
open PySem PySem.Spec PyProof.Rows
def NoFz (X : Cx) (d : Addr) : Prop := ∀ o u, X.H_0 d ≠ some (.frz o u)
def Unl (X : Cx) (H : Hp) (Q : Hp → Prop) : Prop := Q H ∨ ∃ d ob u, H d = some (.frz ob u) ∧ NoFz X d ∧ Q (upd H d u)
theorem PS.unl {X : Cx} {st : Stmt} {t : TS} (h : PS X st t) : PS X st (fun D σ H => t ⟨fun σ' H' => Unl X H' (D.nx σ'), fun v H' => Unl X H' (D.rt v), fun σ' H' => Unl X H' (D.bk σ'), fun σ' H' => Unl X H' (D.ct σ')⟩ σ H) := by
  refine ⟨fun pins s σ H D I hw => ?_⟩
  refine thn (h.run pins s σ _ _ I hw) fun f s1 q => ?_
  cases f with
  | next =>
    obtain ⟨σ', H', I2, q⟩ := q
    rcases q with q | ⟨d, ob, u, e, n, q⟩
    · exact ⟨σ', _, I2, q⟩
    · exact ⟨σ', _, I2.unlock e n, q⟩
  | brk =>
    obtain ⟨σ', H', I2, q⟩ := q
    rcases q with q | ⟨d, ob, u, e, n, q⟩
    · exact ⟨σ', _, I2, q⟩
    · exact ⟨σ', _, I2.unlock e n, q⟩
  | cont =>
    obtain ⟨σ', H', I2, q⟩ := q
    rcases q with q | ⟨d, ob, u, e, n, q⟩
    · exact ⟨σ', _, I2, q⟩
    · exact ⟨σ', _, I2.unlock e n, q⟩
  | ret v =>
    obtain ⟨x, σ', H', I2, r, q⟩ := q
    rcases q with q | ⟨d, ob, u, e, n, q⟩
    · exact ⟨x, σ', _, I2, r, q⟩
    · exact ⟨x, σ', _, I2.unlock e n, r, q⟩
theorem PE.unl {X : Cx} {e : Expr} {t : TE} (h : PE X e t) : PE X e (fun σ H Q => t σ H fun v H' => Unl X H' (Q v)) := by
  refine ⟨fun pins s σ H Q I hw => ?_⟩
  refine thn (h.run pins s σ _ _ I hw) fun v s1 ⟨x, H1, I2, r, q⟩ => ?_
  rcases q with q | ⟨d, ob, u, e, n, q⟩
  · exact ⟨x, _, I2, r, q⟩
  · exact ⟨x, _, I2.unlock e n, r, q⟩
theorem PE.lockV {X : Cx} {e : Expr} {t : TE} (h : PE X e t) : PE X e (fun σ H Q => t σ H fun x H1 => Q x H1 ∨ ∃ d u, x = .ref d ∧ H1 d = some u ∧ Mut (some u) ∧ ∀ ob, NoFz X d → Q x (upd H1 d (.frz ob u))) := by
  refine ⟨fun pins s σ H Q I hw => ?_⟩
  refine thn (h.run pins s σ _ _ I hw) fun v s1 ⟨x, H1, I2, r, q⟩ => ?_
  rcases q with q | ⟨d, u, ex, hd, mu, q⟩
  · exact ⟨x, _, I2, r, q⟩
  · obtain ⟨od, I3⟩ := I2.lock hd mu
    exact ⟨x, _, I3, r, q od (I2.nofrz hd mu)⟩
end L2
namespace DL
open PySem PySem.Spec PyProof.Rows L2
def PostS (K : PySem.W.Frag) (E : XK) (G : Gh) (Dn : Ends) : R Fl → Prop
  | .ok .nx s => ∀ σ' H' G', G.le G' → Rel K G' σ' H' s → Dn.nx σ' H'
  | .ok .bk s => ∀ σ' H' G', G.le G' → Rel K G' σ' H' s → Dn.bk σ' H'
  | .ok .ct s => ∀ σ' H' G', G.le G' → Rel K G' σ' H' s → Dn.ct σ' H'
  | .ok (.rt d) s => ∀ v H' G', G.le G' → RelX K G' H' s.rs → Den K G'.Hs d v → Dn.rt v H'
  | .exc c fs s => PostX K E G c fs s.rs
  | .bad => False
def tS (K : PySem.W.Frag) (E : XK) (g : M Fl) : TS := fun Dn σ H => ∃ G s, Rel K G σ H s ∧ PostS K E G Dn (g s)
abbrev DS (X : Cx) (E : XK) (st : Stmt) (g : M Fl) : Prop := PS X st (tS X.K E g)
abbrev DSs (X : Cx) (E : XK) (st : List Stmt) (g : M Fl) : Prop := PSs X st (tS X.K E g)
def PostF (K : PySem.W.Frag) (E : XK) (G : Gh) (σ : St) (Q : VK) : R D → Prop
  | .ok d s => ∀ p o H' G', G.le G' → Rel K G' σ H' s → H' p = none → DenO K G'.Hs d o → MutO o → Q (.ref p) (upd H' p o)
  | .exc c fs s => PostX K E G c fs s.rs
  | .bad => False
def tF (K : PySem.W.Frag) (E : XK) (g : M D) : TE := fun σ H Q => ∃ G s, Rel K G σ H s ∧ PostF K E G σ Q (g s)
abbrev DF (X : Cx) (E : XK) (e : Expr) (g : M D) : Prop := PE X e (tF X.K E g)
section
variable {K : PySem.W.Frag} {E : XK} {G G' : Gh} {σ : St} {H : Hp} {s : S}
theorem ipS {Dn : Ends} : IsPost K E (fun G => PostS K E G Dn) := ⟨fun h => h, fun h => h, fun {G G' r} h l => by
  cases r with
  | ok a s =>
    cases a with
    | nx => exact fun σ' H' G2 l2 => h σ' H' G2 (l.trans l2)
    | bk => exact fun σ' H' G2 l2 => h σ' H' G2 (l.trans l2)
    | ct => exact fun σ' H' G2 l2 => h σ' H' G2 (l.trans l2)
    | rt d => exact fun σ' H' G2 l2 => h σ' H' G2 (l.trans l2)
  | exc c fs s => exact PostX.mono h l
  | bad => exact h⟩
theorem ipF {Q : VK} : IsPost K E (fun G => PostF K E G σ Q) := ⟨fun h => h, fun h => h, fun {G G' r} h l => by
  cases r with
  | ok a s => exact fun p o H' G2 l2 => h p o H' G2 (l.trans l2)
  | exc c fs s => exact PostX.mono h l
  | bad => exact h⟩
theorem stepF {β : Type} {P : Gh → R β → Prop} (ip : IsPost K E P) {g : M D} {f : D → M β} {T : VK} (h : P G (bnd g f s)) (r : Rel K G σ H s)
    (k : ∀ p o H1 G1 d s1, G.le G1 → Rel K G1 σ H1 s1 → H1 p = none → DenO K G1.Hs d o → MutO o → P G1 (f d s1) → T (.ref p) (upd H1 p o)) : tF K E g σ H T := by
  refine ⟨G, s, r, ?_⟩
  unfold bnd at h
  cases q : g s with
  | ok a s1 =>
    rw [q] at h
    exact fun p o H1 G1 l r1 hp ho mu => k p o H1 G1 a s1 l r1 hp ho mu (ip.mono h l)
  | exc c fs s1 => rw [q] at h; exact ip.ex h
  | bad => rw [q] at h; exact (ip.bd h).elim
end
def gFz (g : M D) : M A := bnd g fun d => pur (.d d)
def sSeq (a b : M Fl) : M Fl := bnd a fun f => match f with
  | .nx => b
  | f => pur f
def sNx : M Fl := pur .nx
def sExpr (g : M A) : M Fl := bnd g fun _ => pur .nx
def sRet (g : M A) : M Fl := bnd g fun a => bnd (force a) fun d => pur (.rt d)
def put (i : Nat) (x : Sl) : M Fl := fun s => .ok .nx (setSl i x s)
def sSet (i : Nat) (g : M A) : M Fl := bnd g fun a => bnd (force a) fun d => put i (.fr d)
def sSetF (i : Nat) (g : M D) : M Fl := bnd g fun d => put i (.ow d)
section
variable {X : Cx} {E : XK} {a b c e : Expr} {es : List Expr} {st : Stmt} {sts : List Stmt} {ga gb gc : M A} {gf : M D} {gs : M (List A)} {b1 b2 : M Fl} {pos : Pos}
theorem de_fz (h : DF X E e gf) : DE X E e (gFz gf) := h.imp fun σ H Q ⟨G, s, r, h⟩ => stepF ipE h r fun p o H1 G1 d s1 l1 r1 hp ho mu h1 => by
  obtain ⟨_, f2, _, _⟩ := r1.x.fresh hp
  have l3 := Gh.le_add (G := G1) (p := p) (o := o) f2
  exact h1 (.ref p) _ (G1.add p o) l3 (r1.new hp ho.noFrz) (den_root (by show upd G1.Hs p _ p = _; exact upd_same) (ho.le l3.hs))
theorem dss_nil : DSs X E [] sNx := pss_nil.imp fun Dn σ H ⟨G, s, r, h⟩ => h σ H G (.refl G) r
theorem d_sSeq {K : PySem.W.Frag} {Dn : Ends} {σ : St} {H : Hp} (h : tS K E (sSeq b1 b2) Dn σ H) : tS K E b1 { Dn with nx := tS K E b2 Dn } σ H := by
  obtain ⟨G, s, r, h⟩ := h
  refine ⟨G, s, r, ?_⟩
  unfold sSeq bnd at h
  cases q : b1 s with
  | ok f s1 =>
    rw [q] at h
    cases f with
    | nx => exact fun σ' H' G' l r' => ⟨G', s1, r', ipS.mono h l⟩
    | bk => exact h
    | ct => exact h
    | rt d => exact h
  | exc c fs s1 => rw [q] at h; exact h
  | bad => rw [q] at h; exact h
theorem dss_cons (h1 : DS X E st b1) (h2 : DSs X E sts b2) : DSs X E (st :: sts) (sSeq b1 b2) := (pss_cons h1 h2).imp fun Dn σ H h => d_sSeq h
theorem dss_one (h1 : DS X E st b1) : DSs X E [st] b1 := pss_one h1
theorem ds_expr (he : DE X E e ga) (hs : swapsWith e none pos.line X.env = pure false := by rfl) : DS X E (.Expr e pos) (sExpr ga) := (ps_expr he hs).imp fun Dn σ H ⟨G, s, r, h⟩ =>
  stepE ipS h r fun v H1 G1 a s1 l1 r1 ad h1 => h1 σ H1 G1 (.refl G1) r1
theorem ds_ret (he : DE X E e ga) : DS X E (.Return (some e) pos) (sRet ga) := (ps_ret he).imp fun Dn σ H ⟨G, s, r, h⟩ =>
  stepE ipS h r fun v H1 G1 a s1 l1 r1 ad h1 => by
    obtain ⟨d, s2, G2, l2, r2, dn, h2⟩ := stepForce ipS h1 r1 ad
    exact h2 v H1 G2 (.refl G2) r2.x dn
theorem ds_if {g : M Bool} (hc : DT X E c g) (ha : DSs X E sts b1) {sts2 : List Stmt} (hb : DSs X E sts2 b2) : DS X E (.If c sts sts2 pos) (gIf g b1 b2) := (ps_if hc ha hb).imp fun Dn σ H ⟨G, s, r, h⟩ =>
  stepT ipS h r fun c H1 G1 s1 l1 r1 h1 => by
    cases c with
    | true => exact ⟨G1, s1, r1, h1⟩
    | false => exact ⟨G1, s1, r1, h1⟩
theorem d_set {K : PySem.W.Frag} {i : Nat} {Dn : Ends} {σ : St} {H : Hp} (h : tS K E (sSet i ga) Dn σ H) : tAsg (tD K E ga) (gName i) Dn σ H := by
  obtain ⟨G, s, r, h⟩ := h
  refine stepE ipS h r fun v H1 G1 a s1 l1 r1 ad h1 => ?_
  obtain ⟨d, s2, G2, l2, r2, dn, h2⟩ := stepForce ipS h1 r1 ad
  exact h2 _ H1 G2 (.refl G2) (r2.setFr dn)
theorem ds_set {i : Nat} {x : Str} {pos' : Pos} (hN : X.N.Nodup) (hi : X.N[i]? = some x) (hx : Loc X.env.scope x) (he : DE X E e ga) (hs : swapsWith e (some (.Name x pos')) pos.line X.env = pure false := by rfl) (hf : X.fn x = true ∨ X.env.scope.names.lookup x = some .local := by first | exact .inl rfl | exact .inr rfl | assumption) :
    DS X E (.Assign [.Name x pos'] e pos) (sSet i ga) := (ps_set hN hi hx he hs hf).imp fun Dn σ H h => d_set h
def fLst (gs : M (List A)) : M D := bnd gs fun as => bnd (forceL as) fun ds => pur (.lst ds)
theorem df_lst {n : Nat} (h : DA X E es gs) (hl : LenA n gs) (hn : n ≤ 1000 := by decide) : DF X E (.List es pos) (fLst gs) := (pe_lst h).imp fun σ H Q ⟨G, s, r, h⟩ => by
  have h0 : PostF X.K E G σ Q (bnd gs (fun as => bnd (forceL as) fun ds => pur (.lst ds)) s) := h
  refine ⟨G, s, r, ?_⟩
  unfold bnd at h0
  cases q : gs s with
  | exc c fs s1 => rw [q] at h0; exact h0
  | bad => rw [q] at h0; exact h0
  | ok as s1 =>
    rw [q] at h0
    refine fun vs H1 G1 l r1 ad => ⟨by rw [ad.len, hl _ _ _ q]; exact small_line hn, fun p hp => ?_⟩
    obtain ⟨ds, s2, G2, l2, r2, d2, h2⟩ := stepForceL (P := fun G => PostF X.K E G σ Q) ipF (ipF.mono h0 l) r1 ad
    exact h2 p (.lst vs) H1 G2 (.refl G2) r2 hp (den_lst d2) trivial
theorem df_dnewK : DF X E (.Dict [] [] pos) (pur (.dic [])) := pe_dnewK.imp fun σ H Q ⟨G, s, r, h⟩ p hp => h p (.dK []) H G (.refl G) r hp ⟨[], rfl, by unfold DenK; rfl⟩ trivial
def rvF : Rv → M D
  | .nw d => pur d
  | _ => bad
def gFnF (F : List D → Rv) (gs : M (List A)) : M D := bnd gs fun as => bnd (pkL as) fun ds => rvF (F ds)
def MutD : D → Prop
  | .lst _ => True
  | .dic _ => True
  | .dit _ => True
  | _ => False
theorem mut_of {K : PySem.W.Frag} {Hs : Hp} {d : D} {o : HO} (m : MutD d) (h : DenO K Hs d o) : MutO o := by
  cases d with
  | lst ds => obtain ⟨vs, rfl, h1⟩ := h; trivial
  | dic ds => obtain ⟨vs, rfl, h1⟩ := h; trivial
  | dit ds => obtain ⟨vs, rfl, h1⟩ := h; trivial
  | _ => exact m.elim
theorem Rel.rvF {K : PySem.W.Frag} {G : Gh} {σ : St} {H : Hp} {s : S} {Q : VK} (r : Rel K G σ H s) {rv : Rv} (hm : ∀ d, rv = .nw d → MutD d) (h : PostF K E G σ Q (rvF rv s)) : RvPost K G.Hs H Q rv := by
  cases rv with
  | old d => exact h.elim
  | nw d => exact fun p o hp ho => h p o H G (.refl G) r hp ho (mut_of (hm d rfl) ho)
  | no => exact h.elim
theorem d_fnF {K : PySem.W.Frag} {F : List D → Rv} (hm : ∀ ds d, F ds = .nw d → MutD d) {σ : St} {H : Hp} {Q : VK} (h : tF K E (gFnF F gs) σ H Q) : tCB (rDn K F) (tA K E gs) σ H Q := by
  obtain ⟨G, s, r, h⟩ := h
  refine stepA ipF h r fun vs H1 G1 as s1 l1 r1 ad1 h1 => ?_
  obtain ⟨ds, k, h2⟩ := stepPkL (σ := σ) (H := H1) ipF h1
  exact ⟨G1.Hs, ds, ⟨r1.x.ba, (k r1 ad1).2⟩, r1.x.hs, (k r1 ad1).1, r1.rvF (hm ds) h2⟩
def whileN (c : M Bool) (b : M Fl) : Nat → M Fl
  | 0 => bad
  | n + 1 => bnd c fun x => if x = true then bnd b (fun f => match f with
    | .nx => whileN c b n
    | .ct => whileN c b n
    | .bk => pur .nx
    | .rt d => pur (.rt d)) else pur .nx
theorem d_while {K : PySem.W.Frag} {g : M Bool} {n : Nat} {Dn : Ends} {σ : St} {H : Hp} (h : tS K E (whileN g b1 n) Dn σ H) : tWhile (tT K E g) (tS K E b1) Dn σ H := by
  obtain ⟨G, s, r, h⟩ := h
  refine ⟨fun m σ H => ∃ G s, Rel K G σ H s ∧ PostS K E G Dn (whileN g b1 m s), ⟨n, G, s, r, h⟩, ?_⟩
  rintro m σ H ⟨G, s, r, h⟩
  cases m with
  | zero => exact h.elim
  | succ m =>
    refine stepT ipS h r fun c H1 G1 s1 l1 r1 h1 => ?_
    cases c with
    | false => exact h1 σ H1 G1 (.refl G1) r1
    | true =>
      refine ⟨fun σ' H' => ∃ G s, Rel K G σ' H' s ∧ PostS K E G Dn (whileN g b1 m s), fun σ' H' q => ⟨m, Nat.lt_succ_self m, q⟩, G1, s1, r1, ?_⟩
      have h2 : PostS K E G1 Dn (bnd b1 (fun f => match f with
        | .nx => whileN g b1 m
        | .ct => whileN g b1 m
        | .bk => pur .nx
        | .rt d => pur (.rt d)) s1) := h1
      unfold bnd at h2
      cases q : b1 s1 with
      | ok f s2 =>
        rw [q] at h2
        cases f with
        | nx => exact fun σ' H' G' l r' => ⟨G', s2, r', ipS.mono h2 l⟩
        | ct => exact fun σ' H' G' l r' => ⟨G', s2, r', ipS.mono h2 l⟩
        | bk => exact h2
        | rt d => exact h2
      | exc c fs s2 => rw [q] at h2; exact h2
      | bad => rw [q] at h2; exact h2
theorem ds_while {g : M Bool} (n : Nat) (hp : PassesOwn (model X.prog X.w) X.A X.env X.xe) (hc : DT X E c g) (hb : DSs X E sts b1) : DS X E (.While c sts [] pos) (whileN g b1 n) := (ps_while hp hc hb).imp fun Dn σ H h => d_while h
end
end DL
end
section
namespace DL
open PySem PySem.Spec PyProof.Rows L2
abbrev Tg := D → S → Option S
def tgN (i : Nat) : Tg := fun d s => some (setSl i (.fr d) s)
def tgAll : List Tg → List D → S → Option S
  | [], [], s => some s
  | t :: ts, d :: ds, s => (t d s).bind fun s' => tgAll ts ds s'
  | _, _, _ => none
def tgT (ts : List Tg) : Tg := fun d s => match d with
  | .tup ds => tgAll ts ds s
  | _ => none
def But (js : List Nat) (σ σ' : St) : Prop := σ'.length = σ.length ∧ ∀ (j : Nat), j ∉ js → σ'[j]? = σ[j]?
theorem But.refl (js : List Nat) (σ : St) : But js σ σ := ⟨rfl, fun _ _ => rfl⟩
theorem But.trans {js ks : List Nat} {a b c : St} (x : But js a b) (y : But ks b c) : But (js ++ ks) a c := ⟨y.1.trans x.1, fun j h => by
  simp only [List.mem_append, not_or] at h
  rw [y.2 j h.2, x.2 j h.1]⟩
theorem wipe_get (σ : St) : ∀ (vs : List Nat) (j : Nat), j ∈ vs → j < σ.length → (wipe σ vs)[j]? = some none
  | v :: vs, j, h, lt => by
    unfold wipe
    by_cases e : j = v
    · subst e; rw [List.getElem?_set_self (by rw [wipe_length]; exact lt)]
    · rw [List.getElem?_set_ne (Ne.symm e)]
      exact wipe_get σ vs j (by simpa [e] using h) lt
theorem wipe_out (σ : St) : ∀ (vs : List Nat) (j : Nat), j ∉ vs → (wipe σ vs)[j]? = σ[j]?
  | [], j, _ => rfl
  | v :: vs, j, h => by
    simp only [List.mem_cons, not_or] at h
    unfold wipe
    rw [List.getElem?_set_ne (Ne.symm h.1)]
    exact wipe_out σ vs j h.2
theorem But.wipe {js vs : List Nat} {σ σ' : St} (b : But js σ σ') (h : ∀ j ∈ js, j ∈ vs) : L2.wipe σ' vs = L2.wipe σ vs := by
  apply List.ext_getElem?
  intro j
  by_cases hj : j ∈ vs
  · have bl := b.1
    by_cases lt : j < σ.length
    · rw [wipe_get σ vs j hj lt, wipe_get σ' vs j hj (by rw [b.1]; exact lt)]
    · rw [List.getElem?_eq_none (by rw [wipe_length]; omega), List.getElem?_eq_none (by rw [wipe_length]; omega)]
  · rw [wipe_out σ vs j hj, wipe_out σ' vs j hj, b.2 j fun z => hj (h j z)]
theorem wipe_wipe (σ : St) (vs : List Nat) : L2.wipe (L2.wipe σ vs) vs = L2.wipe σ vs := by
  apply List.ext_getElem?
  intro j
  by_cases hj : j ∈ vs
  · by_cases lt : j < σ.length
    · rw [wipe_get _ vs j hj (by rw [wipe_length]; exact lt), wipe_get _ vs j hj lt]
    · rw [List.getElem?_eq_none (by rw [wipe_length, wipe_length]; omega), List.getElem?_eq_none (by rw [wipe_length]; omega)]
  · rw [wipe_out _ vs j hj]
def gD (K : PySem.W.Frag) (js : List Nat) (g : Tg) : TG := fun v σ H Q => ∃ G s d s', Rel K G σ H s ∧ Den K G.Hs d v ∧ g d s = some s' ∧ ∀ σ', Rel K G σ' H s' → But js σ σ' → Q σ' H
def gDs (K : PySem.W.Frag) (js : List Nat) (g : List D → S → Option S) : TGs := fun vs σ H Q => ∃ G s ds s', Rel K G σ H s ∧ DenL K G.Hs ds vs ∧ g ds s = some s' ∧ ∀ σ', Rel K G σ' H s' → But js σ σ' → Q σ' H
abbrev DG (X : Cx) (e : Expr) (js : List Nat) (g : Tg) : Prop := PG X e (gD X.K js g)
abbrev DGs (X : Cx) (es : List Expr) (js : List Nat) (g : List D → S → Option S) : Prop := PGs X es (gDs X.K js g)
theorem _root_.L2.PG.imp {X : Cx} {e : Expr} {t t' : TG} (h : PG X e t) (i : ∀ v σ H Q, t' v σ H Q → t v σ H Q) : PG X e t' := ⟨fun pins s σ H x v Q I r q => h.run pins s σ H x v Q I r (i x σ H Q q)⟩
theorem _root_.L2.PGs.imp {X : Cx} {e : List Expr} {t t' : TGs} (h : PGs X e t) (i : ∀ v σ H Q, t' v σ H Q → t v σ H Q) : PGs X e t' := ⟨fun pins s σ H x v Q I r q => h.run pins s σ H x v Q I r (i x σ H Q q)⟩
section
variable {X : Cx} {e : Expr} {es : List Expr} {pos : Pos} {js ks : List Nat}
theorem dg_name {i : Nat} {x : Str} (hN : X.N.Nodup) (hi : X.N[i]? = some x) (hx : Loc X.env.scope x) (hf : X.fn x = true ∨ X.env.scope.names.lookup x = some .local := by first | exact .inl rfl | exact .inr rfl | assumption) : DG X (.Name x pos) [i] (tgN i) :=
  (pg_name hN hi hx hf).imp fun v σ H Q ⟨G, s, d, s', r, dn, e, k⟩ => by
    have e' : some (setSl i (.fr d) s) = some s' := e
    cases e'
    exact k _ (r.setFr dn) ⟨by simp, fun j h => List.getElem?_set_ne (by simpa using fun z => h (by simp [z]))⟩
theorem dgs_nil : DGs X [] [] (tgAll []) := pgs_nil.imp fun vs σ H Q ⟨G, s, ds, s', r, dn, e, k⟩ => by
  cases ds with
  | nil =>
    have e' : some s = some s' := e
    cases e'
    exact ⟨by unfold DenL at dn; exact dn, k σ r (.refl _ _)⟩
  | cons d ds => cases e
theorem dgs_cons {t : Tg} {ts : List Tg} (h1 : DG X e js t) (h2 : DGs X es ks (tgAll ts)) (hs : (assignEach (e :: es) X.env).map (·.2) = assign e X.env :: (assignEach es X.env).map (·.2) := by rfl) : DGs X (e :: es) (js ++ ks) (tgAll (t :: ts)) := (pgs_cons h1 h2 hs).imp fun vs σ H Q ⟨G, s, ds, s', r, dn, e, k⟩ => by
  cases ds with
  | nil => cases e
  | cons d ds =>
    unfold DenL at dn
    obtain ⟨v, us, e1, d1, d2⟩ := dn
    have e' : (t d s).bind (fun s' => tgAll ts ds s') = some s' := e
    cases q : t d s with
    | none => rw [q] at e'; cases e'
    | some s1 =>
      rw [q] at e'
      exact ⟨v, us, e1, G, s, d, s1, r, d1, q, fun σ' r' b1 => ⟨G, s1, ds, s', r', d2, e', fun σ2 r2 b2 => k σ2 r2 (b1.trans b2)⟩⟩
theorem tgAll_len : ∀ {ts : List Tg} {ds : List D} {s s' : S}, tgAll ts ds s = some s' → ds.length = ts.length
  | [], [], _, _, _ => rfl
  | t :: ts, d :: ds, s, s', e => by
    have e' : (t d s).bind (fun s' => tgAll ts ds s') = some s' := e
    cases q : t d s with
    | none => rw [q] at e'; cases e'
    | some s1 =>
      rw [q] at e'
      rw [List.length_cons, List.length_cons, tgAll_len (show tgAll ts ds s1 = some s' from e')]
  | [], _ :: _, _, _, e => by cases e
  | _ :: _, [], _, _, e => by cases e
theorem d_tup {K : PySem.W.Frag} {ts : List Tg} {n : Nat} (hn : ts.length = n) {v : V} {σ : St} {H : Hp} {Q : St → Hp → Prop} (h : gD K js (tgT ts) v σ H Q) : gTup K n (gDs K js (tgAll ts)) v σ H Q := by
  obtain ⟨G, s, d, s', r, dn, e, k⟩ := h
  cases d with
  | tup ds =>
    have e' : tgAll ts ds s = some s' := e
    unfold Den at dn
    obtain ⟨a, vs, rfl, ht, dl⟩ := dn
    exact ⟨a, vs, rfl, sub_t r.x.ba r.x.hs ht, by rw [dl.len, tgAll_len e', hn], G, s, ds, s', r, dl, e', k⟩
  | _ => cases e
end
theorem dg_tup {X : Cx} {es : List Expr} {k : Nat} {pos : Pos} {js : List Nat} {ts : List Tg} (hc : X.calm = true) (h : DGs X es js (tgAll ts)) (hn : (assignEach es X.env).length = ts.length := by rfl) (hst : (assignEach es X.env).findIdx? (·.1) = none := by rfl) :
    DG X (.Tuple es k pos) js (tgT ts) := (pg_tup hc h hn hst).imp fun v σ H Q q => d_tup rfl q
structure Gh.sb (G G' : Gh) : Prop where
  fx : Le G.Fx G'.Fx
  hs : Le G.Hs G'.Hs
theorem Gh.le.sb {G G' : Gh} (l : G.le G') : G.sb G' := ⟨by rw [l.fx]; exact Le.refl _, l.hs⟩
theorem Gh.sb.trans {a b c : Gh} (x : a.sb b) (y : b.sb c) : a.sb c := ⟨x.fx.trans y.fx, x.hs.trans y.hs⟩
structure ItOk (K : PySem.W.Frag) (G : Gh) (J : It) (ds : List D) : Prop where
  go : ∀ {i G1 σ H s}, i < ds.length → G.sb G1 → Rel K G1 σ H s → J.go i H
  stop : ∀ {i G1 σ H s}, ds.length ≤ i → G.sb G1 → Rel K G1 σ H s → J.stop i H
  yld : ∀ {i G1 σ H s x H'}, G.sb G1 → Rel K G1 σ H s → i < ds.length → J.yld i H x H' → ∃ d G2, ds[i]? = some d ∧ G1.le G2 ∧ Rel K G2 σ H' s ∧ Den K G2.Hs d x
theorem ItOk.le {K : PySem.W.Frag} {G G' : Gh} {J : It} {ds : List D} (h : ItOk K G J ds) (l : G.sb G') : ItOk K G' J ds := ⟨fun a b c => h.go a (l.trans b) c, fun a b c => h.stop a (l.trans b) c, fun a b c d => h.yld (l.trans a) b c d⟩
abbrev Lck := Option (Addr × Obj × HO)
def Gh.lk (G : Gh) : Lck → Gh
  | none => G
  | some (d, ob, u) => { G with Fx := upd G.Fx d (.frz ob u) }
theorem RsAt.reL {K : PySem.W.Frag} {G G' : Gh} {H H' : Hp} {r : Rs} {d : Addr} (z : RsAt K G H r) (es : G'.Hs = G.Hs) (hh : ∀ a, a ≠ d → H' a = H a) (hn : ∀ a, r.has a → G'.Fx a = none ∧ ¬ G'.Dm a)
    (hf : ∀ a, tgA G.Hs r.r0 a → G.Fx a = none → G'.Fx a = none) (dn : ¬ r.has d) (ha : ∀ k : Nat, G.Hs d = some (.own k) → k < r.r0)
    (hd : ∀ o, NoFrz o → (H d = some o ∨ (Lk o ∧ ∃ ob, H d = some (.frz ob o))) → (H' d = some o ∨ (Lk o ∧ ∃ ob, H' d = some (.frz ob o)))) : RsAt K G' H' r := by
  have hr : ∀ a, r.has a → H' a = H a := fun a h => hh a fun e => dn (e ▸ h)
  refine ⟨by rw [hr _ (.inl rfl)]; exact z.d, by rw [hr _ (.inr (.inl rfl))]; exact z.g, by rw [hr _ (.inr (.inr (.inl rfl)))]; exact z.c, fun p hp => ?_, fun a h => ⟨by rw [es]; exact (z.no a h).1, hn a h⟩, z.ne, z.a, z.u, fun k x e => ?_, fun k x e => ?_, fun a k h => ?_⟩
  · obtain ⟨ps, h1, h2, h3⟩ := z.t p hp
    refine ⟨ps, by rw [hr _ (.inr (.inr (.inr ⟨p.2, hp⟩)))]; exact h1, h2, fun pos cv q => ?_⟩
    obtain ⟨c, e1, e2⟩ := h3 pos cv q
    exact ⟨c, e1, by rw [es]; exact e2⟩
  · obtain ⟨a, o, h1, h2, h3⟩ := z.rg k x e
    have n : a ≠ d := fun y => by
      subst y
      exact absurd (ha _ h1) (Nat.not_lt.mpr (Nat.le_add_right _ _))
    exact ⟨a, o, by rw [es]; exact h1, by rw [hh a n]; exact h2, by rw [es]; exact h3⟩
  · obtain ⟨a, o, h1, h2, h3⟩ := z.fz k x e
    refine ⟨a, o, by rw [es]; exact h1, ?_, by rw [es]; exact h3⟩
    by_cases n : a = d
    · subst n; exact hd o h3.noFrz h2
    · rw [hh a n]; exact h2
  · rw [es] at h
    obtain ⟨t1, t2, t3⟩ := z.tg a k h
    exact ⟨t1, fun le => hf a ⟨k, h, le⟩ (t2 le), fun a' h' => t3 a' (by rw [es] at h'; exact h')⟩
def LkOk (X : Cx) (G : Gh) : Lck → Prop
  | none => True
  | some (d, _, u) => (G.Hs d = some u ∨ isTg G.Hs d) ∧ (∀ o, G.Fx d = some o → o = u) ∧ NoFz X d ∧ Lk u
def Gh.wh (G G2 : Gh) : Gh := { G with Hs := G2.Hs }
section
variable {K : PySem.W.Frag} {X : Cx} {G G2 : Gh} {σ : St} {H : Hp} {s : S} {L : Lck}
def unH (L : Lck) (H : Hp) : Hp := match L with
  | none => H
  | some (d, _, u) => upd H d u
theorem unl_of {rs : Option Rs} (l : (G.lk L).le G2) (hl : LkOk X G L) (r : RelX K G2 H rs) {Q : Hp → Prop} (q : Q (unH L H)) : Unl X H Q := by
  cases L with
  | none => exact .inl q
  | some z =>
    obtain ⟨d, ob, u⟩ := z
    exact .inr ⟨d, ob, u, r.fx d _ (by rw [l.fx]; exact upd_same), hl.2.2.1, q⟩
theorem RelX.unlk {rs : Option Rs} (l : (G.lk L).le G2) (hl : LkOk X G L) (r : RelX K G2 H rs) : RelX K (G.wh G2) (unH L H) rs := by
  cases L with
  | none =>
    have e : G.wh G2 = G2 := by
      obtain ⟨a, b, c⟩ := G; obtain ⟨a', b', c'⟩ := G2
      have e1 : a' = a := l.fx
      have e2 : b' = b := l.dm
      subst e1 e2; rfl
    rw [e]; exact r
  | some z =>
    obtain ⟨d, ob, u⟩ := z
    obtain ⟨h1, h2, h3⟩ := hl
    have hd : H d = some (.frz ob u) := r.fx d _ (by rw [l.fx]; exact upd_same)
    have hs2 : G2.Hs d = some u ∨ isTg G2.Hs d := h1.imp (l.hs d u) fun ⟨k, t⟩ => ⟨k, l.hs _ _ t⟩
    have fx : ∀ a, a ≠ d → G2.Fx a = G.Fx a := fun a n => by rw [l.fx]; exact upd_ne n
    show RelX K (G.wh G2) (upd H d u) rs
    refine ⟨fun a o e => ?_, fun a o e => ?_, r.ba, fun a q => r.dm a (by rw [l.dm]; exact q), fun a q => ?_, fun a ob' u' e => ?_, ?_⟩
    · by_cases n : a = d
      · subst n; rw [upd_same, h2 o e]
      · rw [upd_ne n]; exact r.fx a o (by rw [fx a n]; exact e)
    · by_cases n : a = d
      · subst n
        have e' : G2.Hs a = some o := e
        rcases hs2 with hs2 | ⟨k, hs2⟩
        · rw [hs2] at e'; cases e'
          exact .inl upd_same
        · rw [hs2] at e'; cases e'
          exact .inr (.inr ⟨⟨k, rfl⟩, by rw [upd_same]; exact fun z => nomatch z⟩)
      · rw [upd_ne n]; exact r.hs a o e
    · by_cases n : a = d
      · subst n; rw [upd_same]; exact fun z => nomatch z
      · rw [upd_ne n]; exact r.dh a (by rw [l.dm]; exact q)
    · intro nt
      by_cases n : a = d
      · subst n
        rw [upd_same] at e
        cases e
        exact h3.2.elim
      · rw [upd_ne n] at e
        have := r.lo a ob' u' e nt
        rw [fx a n] at this
        exact this
    · cases rs with
      | none => trivial
      | some q =>
        have z : RsAt K G2 H q := r.rs
        have n : ¬ q.has d := fun h => by
          have := (z.no d h).1
          rcases hs2 with hs2 | ⟨k, hs2⟩ <;> (rw [hs2] at this; cases this)
        refine RsAt.reL (d := d) z rfl (fun a h => upd_ne h) (fun a h => ⟨?_, by rw [show (G.wh G2).Dm = G2.Dm from l.dm.symm]; exact (z.no a h).2.2⟩) (fun a t f => ?_) n (fun k hk => ?_) fun o no h => ?_
        · have na : a ≠ d := fun y => n (y ▸ h)
          rw [show (G.wh G2).Fx = G.Fx from rfl, ← fx _ na]; exact (z.no a h).2.1
        · show G.Fx a = none
          by_cases na : a = d
          · subst na
            have := r.fx a
            rw [l.fx] at f
            have f' : upd G.Fx a (.frz ob u) a = none := f
            rw [upd_same] at f'; cases f'
          · rw [← fx a na]; exact f
        · refine Nat.lt_of_not_le fun le => ?_
          have lt : k - q.r0 < q.rg.length := Nat.sub_lt_left_of_lt_add le (z.tg d k hk).1
          obtain ⟨a0, o, g1, g2, g3⟩ := z.rg (k - q.r0) (q.rg[k - q.r0]) (List.getElem?_eq_getElem lt)
          have ek : q.r0 + (k - q.r0) = k := Nat.add_sub_cancel' le
          rw [ek] at g1
          have := (z.tg d k hk).2.2 a0 g1
          subst this
          rw [hd] at g2; cases g2
          obtain ⟨xs, eu⟩ := g3.noFrz.tup
          rw [eu] at h3; exact h3.2
        · rcases h with h | ⟨_, ob', h⟩
          · rw [hd] at h; cases h
            obtain ⟨xs, eu⟩ := no.tup
            rw [eu] at h3; exact h3.2.elim
          · rw [hd] at h; cases h
            exact .inl upd_same
theorem Gh.le_wh (l : (G.lk L).le G2) : G.le (G.wh G2) := ⟨rfl, rfl, fun a o e => l.hs a o (by cases L with | none => exact e | some z => exact e)⟩
theorem MeOk.unlk {rs : Option Rs} {m : Option Me} (l : (G.lk L).le G2) (hl : LkOk X G L) (z : MeOk K G2 H rs m) : MeOk K (G.wh G2) (unH L H) rs m := by
  cases m with
  | none => trivial
  | some q =>
    have z' : MeAt K G2 H rs q := z
    obtain ⟨gs, h1, h2⟩ := z'.o
    cases L with
    | none => exact ⟨⟨gs, h1, h2⟩, z'.ns, by rw [show (G.wh G2).Fx = G2.Fx from l.fx.symm]; exact z'.nf, by rw [show (G.wh G2).Dm = G2.Dm from l.dm.symm]; exact z'.nd, z'.nr⟩
    | some w =>
      obtain ⟨d', ob, u⟩ := w
      have n : q.x ≠ d' := fun y => by
        have := z'.ns
        rcases hl.1 with h | ⟨k, h⟩ <;> (rw [y, l.hs _ _ h] at this; cases this)
      refine ⟨⟨gs, by show upd H d' u q.x = _; rw [upd_ne n]; exact h1, h2⟩, z'.ns, ?_, by rw [show (G.wh G2).Dm = G2.Dm from l.dm.symm]; exact z'.nd, z'.nr⟩
      show G.Fx q.x = none
      have e2 : G2.Fx q.x = G.Fx q.x := by rw [l.fx]; exact upd_ne n
      rw [← e2]; exact z'.nf
theorem Rel.unlk (l : (G.lk L).le G2) (hl : LkOk X G L) (r : Rel K G2 σ H s) : Rel K (G.wh G2) σ (unH L H) s := by
  refine ⟨r.x.unlk l hl, r.fr, fun i d e => ?_, r.ap, r.ln, MeOk.unlk l hl r.me⟩
  obtain ⟨p, o, a1, a2, a3, a4, a5, a6, a7, a8⟩ := r.ow i d e
  cases L with
  | none => exact ⟨p, o, a1, a2, a3, a4, a5, by rw [show (G.wh G2).Fx = G2.Fx from l.fx.symm]; exact a6, by rw [show (G.wh G2).Dm = G2.Dm from l.dm.symm]; exact a7, a8⟩
  | some z =>
    obtain ⟨d', ob, u⟩ := z
    have n : p ≠ d' := fun y => by
      rcases hl.1 with h | ⟨k, h⟩ <;> (rw [y, l.hs _ _ h] at a5; cases a5)
    refine ⟨p, o, a1, by show upd H d' u p = some o; rw [upd_ne n]; exact a2, a3, a4, a5, ?_, by rw [show (G.wh G2).Dm = G2.Dm from l.dm.symm]; exact a7, a8⟩
    show G.Fx p = none
    have e2 : G2.Fx p = G.Fx p := by rw [l.fx]; exact upd_ne n
    rw [← e2]; exact a6
theorem Rel.lock2 {d : Addr} {u : HO} {ob : Obj} (r : Rel K G σ H s) (hd : H d = some u) (hs : G.Hs d = some u ∨ (isTg G.Hs d ∧ ∀ q, s.rs = some q → ∀ k : Nat, G.Hs d = some (.own k) → k < q.r0)) (lk : Lk u) (nf : NoFz X d) : Rel K (G.lk (some (d, ob, u))) σ (upd H d (.frz ob u)) s ∧ LkOk X G (some (d, ob, u)) := by
  refine ⟨⟨⟨fun a o e => ?_, fun a o e => ?_, r.x.ba, r.x.dm, fun a q => ?_, fun a ob' u' e => ?_, ?_⟩, r.fr, fun i x e => ?_, r.ap, r.ln, ?_⟩, hs.imp id fun h => h.1, fun o e => ?_, nf, lk⟩
  · by_cases n : a = d
    · subst n
      have e' : upd G.Fx a (.frz ob u) a = some o := e
      rw [upd_same] at e'; cases e'; exact upd_same
    · have e' : upd G.Fx d (.frz ob u) a = some o := e
      rw [upd_ne n] at e' ⊢; exact r.x.fx a o e'
  · by_cases n : a = d
    · subst n
      have e' : G.Hs a = some o := e
      rcases hs with hs | ⟨⟨k, hs⟩, _⟩
      · rw [hs] at e'; cases e'
        exact .inr (.inl ⟨lk, ob, upd_same⟩)
      · rw [hs] at e'; cases e'
        exact .inr (.inr ⟨⟨k, rfl⟩, by rw [upd_same]; exact fun z => nomatch z⟩)
    · rw [upd_ne n]; exact r.x.hs a o e
  · by_cases n : a = d
    · subst n; rw [upd_same]; exact fun z => nomatch z
    · rw [upd_ne n]; exact r.x.dh a q
  · intro nt
    by_cases n : a = d
    · subst n
      rw [upd_same] at e; cases e
      exact upd_same
    · rw [upd_ne n] at e
      show upd G.Fx d (.frz ob u) a = _
      rw [upd_ne n]
      exact r.x.lo a ob' u' e nt
  · have w : RsOk K G H s.rs := r.x.rs
    cases e : s.rs with
    | none => trivial
    | some q =>
      rw [e] at w
      have z : RsAt K G H q := w
      have n : ¬ q.has d := fun h => by
        have := (z.no d h).1
        rcases hs with hs | ⟨⟨k, hs⟩, _⟩ <;> (rw [hs] at this; cases this)
      have hk : ∀ k : Nat, G.Hs d = some (.own k) → k < q.r0 := fun k h => by
        rcases hs with hs | ⟨_, hs⟩
        · rw [hs] at h; cases h; exact lk.elim
        · exact hs q e k h
      refine RsAt.reL (d := d) z rfl (fun a h => upd_ne h) (fun a h => ⟨?_, (z.no a h).2.2⟩) (fun a t f => ?_) n hk fun o no h => ?_
      · show upd G.Fx d _ _ = none
        rw [upd_ne fun (y : a = d) => n (y ▸ h)]; exact (z.no a h).2.1
      · have na : a ≠ d := fun y => by
          obtain ⟨k, t1, t2⟩ := t
          rw [y] at t1
          exact absurd (hk k t1) (Nat.not_lt.mpr t2)
        show upd G.Fx d _ _ = none
        rw [upd_ne na]; exact f
      · rcases h with h | ⟨_, ob', h⟩
        · rw [hd] at h; cases h
          exact .inr ⟨lk, ob, upd_same⟩
        · rw [hd] at h; cases h; exact lk.elim
  · obtain ⟨p, o, a1, a2, a3, a4, a5, a6, a7, a8⟩ := r.ow i x e
    have n : p ≠ d := fun y => by
      rcases hs with hs | ⟨⟨k, hs⟩, _⟩ <;> (rw [y, hs] at a5; cases a5)
    exact ⟨p, o, a1, by rw [upd_ne n]; exact a2, a3, a4, a5, by show upd G.Fx d _ p = none; rw [upd_ne n]; exact a6, a7, a8⟩
  · have w := r.me
    cases e : s.me with
    | none => trivial
    | some q =>
      rw [e] at w
      have z : MeAt K G H s.rs q := w
      obtain ⟨gs, h1, h2⟩ := z.o
      have n : q.x ≠ d := fun y => by
        have := z.ns
        rcases hs with hs | ⟨⟨k, hs⟩, _⟩ <;> (rw [y, hs] at this; cases this)
      exact ⟨⟨gs, by rw [upd_ne n]; exact h1, h2⟩, z.ns, by show upd G.Fx d _ _ = none; rw [upd_ne n]; exact z.nf, z.nd, z.nr⟩
  · have := r.x.fx d o e
    rw [hd] at this; cases this; rfl
theorem Rel.lock {d : Addr} {u : HO} {ob : Obj} (r : Rel K G σ H s) (hd : H d = some u) (hs : G.Hs d = some u) (lk : Lk u) (nf : NoFz X d) : Rel K (G.lk (some (d, ob, u))) σ (upd H d (.frz ob u)) s ∧ LkOk X G (some (d, ob, u)) := r.lock2 hd (.inl hs) lk nf
end
def PostI (X : Cx) (E : XK) (G : Gh) (σ : St) (Q : It → Hp → Prop) : R (List D) → Prop
  | .ok ds s => ∀ J H' G' L, G.le G' → LkOk X G' L → Rel X.K (G'.lk L) σ H' s → ItOk X.K (G'.lk L) J ds → Q J H'
  | .exc c fs s => PostX X.K E G c fs s.rs
  | .bad => False
def iD (X : Cx) (E : XK) (g : M (List D)) : TI := fun σ H R => ∃ G s, Rel X.K G σ H s ∧ PostI X E G σ R (g s)
abbrev DI (X : Cx) (E : XK) (tg it : Expr) (g : M (List D)) : Prop := PI X tg it (iD X E g)
theorem _root_.L2.PI.imp {X : Cx} {tg e : Expr} {t t' : TI} (h : PI X tg e t) (i : ∀ σ H Q, t' σ H Q → t σ H Q) : PI X tg e t' := ⟨fun pins s σ H Q I q => h.run pins s σ H Q I (i σ H Q q)⟩
theorem ipI {X : Cx} {E : XK} {σ : St} {Q : It → Hp → Prop} : IsPost X.K E (fun G => PostI X E G σ Q) := ⟨fun h => h, fun h => h, fun {G G' r} h l => by
  cases r with
  | ok a s => exact fun J H' G2 L l2 => h J H' G2 L (l.trans l2)
  | exc c fs s => exact PostX.mono h l
  | bad => exact h⟩
def loop (tg : Tg) (b : M Fl) : List D → M Fl
  | [] => pur .nx
  | d :: r => fun s => match tg d s with
    | none => .bad
    | some s1 => bnd b (fun f => match f with
      | .nx => loop tg b r
      | .ct => loop tg b r
      | .bk => pur .nx
      | .rt d => pur (.rt d)) s1
def noX {α : Type} (g : M α) : M α := fun s => match g s with
  | .exc _ _ _ => .bad
  | r => r
def PostJ (X : Cx) (E : XK) (G : Gh) (σ : St) (Q : It → Hp → Prop) : R (List D) → Prop
  | .ok ds s => ∀ J H' G', G.le G' → Rel X.K G' σ H' s → ItOk X.K G' J ds → Q J H'
  | .exc c fs s => PostX X.K E G c fs s.rs
  | .bad => False
def iJ (X : Cx) (E : XK) (g : M (List D)) : TI := fun σ H R => ∃ G s, Rel X.K G σ H s ∧ PostJ X E G σ R (g s)
abbrev DJ (X : Cx) (E : XK) (tg it : Expr) (g : M (List D)) : Prop := PI X tg it (iJ X E g)
theorem ipJ {X : Cx} {E : XK} {σ : St} {Q : It → Hp → Prop} : IsPost X.K E (fun G => PostJ X E G σ Q) := ⟨fun h => h, fun h => h, fun {G G' r} h l => by
  cases r with
  | ok a s => exact fun J H' G2 l2 => h J H' G2 (l.trans l2)
  | exc c fs s => exact PostX.mono h l
  | bad => exact h⟩
def sForJ (it : M (List D)) (tg : Tg) (b : M Fl) : M Fl := bnd it fun ds => loop tg b ds
section
variable {X : Cx} {E : XK} {tg it : Expr} {sts : List Stmt} {g : M (List D)} {t : Tg} {b : M Fl} {pos : Pos}
theorem d_loop {K : PySem.W.Frag} {js : List Nat} {G : Gh} {σ : St} {H : Hp} {s : S} {J : It} {ds : List D} {Dn : Ends} (r : Rel K G σ H s) (ok : ItOk K G J ds) (h : PostS K E G Dn (loop t b ds s)) :
    ∃ W : Nat → Nat → St → Hp → Prop, (∃ m, W 0 m σ H) ∧ ∀ i m σ H, W i m σ H →
      (J.stop i H ∧ Dn.nx σ H) ∨ (J.go i H ∧ ∃ N : St → Hp → Prop, (∀ σ' H', N σ' H' → ∃ m', m' < m ∧ W (i + 1) m' σ' H') ∧ ∀ x H', J.yld i H x H' → gD K js t x σ H' fun σ2 H2 => tS K E b { Dn with nx := N, ct := N, bk := Dn.nx } σ2 H2) := by
  refine ⟨fun i m σ H => m = ds.length - i ∧ i ≤ ds.length ∧ ∃ G1 s1, G.le G1 ∧ Rel K G1 σ H s1 ∧ PostS K E G1 Dn (loop t b (ds.drop i) s1), ⟨_, rfl, Nat.zero_le _, G, s, .refl G, r, h⟩, ?_⟩
  rintro i m σ H ⟨rfl, hi, G1, s1, l1, r1, h1⟩
  by_cases lt : i < ds.length
  · refine .inr ⟨ok.go lt l1.sb r1, fun σ' H' => ∃ G2 s2, G.le G2 ∧ Rel K G2 σ' H' s2 ∧ PostS K E G2 Dn (loop t b (ds.drop (i + 1)) s2), fun σ' H' q => ⟨_, by omega, rfl, lt, q⟩, fun x H' y => ?_⟩
    obtain ⟨d, G2, e, l2, r2, dn⟩ := ok.yld l1.sb r1 lt y
    have ed : ds.drop i = d :: ds.drop (i + 1) := by
      rw [List.drop_eq_getElem_cons lt]
      rw [List.getElem?_eq_getElem lt] at e
      rw [Option.some.inj e]
    rw [ed] at h1
    have h2 : PostS K E G1 Dn (match t d s1 with
      | none => .bad
      | some s1 => bnd b (fun f => match f with
        | .nx => loop t b (ds.drop (i + 1))
        | .ct => loop t b (ds.drop (i + 1))
        | .bk => pur .nx
        | .rt d => pur (.rt d)) s1) := h1
    cases q : t d s1 with
    | none => rw [q] at h2; exact h2.elim
    | some s2 =>
      rw [q] at h2
      refine ⟨G2, s1, d, s2, r2, dn, q, fun σ2 r3 _ => ⟨G2, s2, r3, ?_⟩⟩
      have h3 := ipS.mono h2 l2
      unfold bnd at h3
      dsimp only at h3
      cases q2 : b s2 with
      | ok f s3 =>
        rw [q2] at h3
        cases f with
        | nx => exact fun σ' H' G' l r' => ⟨G', s3, (l1.trans l2).trans l, r', ipS.mono h3 l⟩
        | ct => exact fun σ' H' G' l r' => ⟨G', s3, (l1.trans l2).trans l, r', ipS.mono h3 l⟩
        | bk => exact h3
        | rt d => exact h3
      | exc c fs s3 => rw [q2] at h3; exact h3
      | bad => rw [q2] at h3; exact h3
  · have e : i = ds.length := by omega
    subst e
    refine .inl ⟨ok.stop (Nat.le_refl _) l1.sb r1, ?_⟩
    rw [List.drop_length] at h1
    exact h1 σ H G1 (.refl G1) r1
theorem ds_forJ (hp : PassesOwn (model X.prog X.w) X.A X.env X.xe) (hc : X.calm = true) (hi : DJ X E tg it g) {js : List Nat} (hg : DG X tg js t) (hb : DSs X E sts b) (hs : ∀ x, foldedSetIterable it X.env x = pure x := by intro _; rfl) :
    DS X E (.For tg it sts [] pos) (sForJ g t b) := (ps_for hp hc hi hg hb hs).imp fun Dn σ H ⟨G, s, r, h⟩ => by
  refine ⟨G, s, r, ?_⟩
  unfold sForJ bnd at h
  cases q : g s with
  | exc c fs s1 => rw [q] at h; exact h
  | bad => rw [q] at h; exact h
  | ok ds s1 =>
    rw [q] at h
    exact fun J H' G' l r' ok => d_loop r' ok (ipS.mono h l)
end
end DL
end
section
namespace L2
open PySem PySem.Spec PyProof.Rows
theorem PI.or {X : Cx} {tg e : Expr} {t t' : TI} (h : PI X tg e t) (h' : PI X tg e t') : PI X tg e (fun σ H Q => t σ H Q ∨ t' σ H Q) := ⟨fun pins s σ H Q I q => by
  rcases q with q | q
  · exact h.run pins s σ H Q I q
  · exact h'.run pins s σ H Q I q⟩
theorem PE.or {X : Cx} {e : Expr} {t t' : TE} (h : PE X e t) (h' : PE X e t') : PE X e (fun σ H Q => t σ H Q ∨ t' σ H Q) := ⟨fun pins s σ H Q I q => by
  rcases q with q | q
  · exact h.run pins s σ H Q I q
  · exact h'.run pins s σ H Q I q⟩
theorem PS.or {X : Cx} {e : Stmt} {t t' : TS} (h : PS X e t) (h' : PS X e t') : PS X e (fun D σ H => t D σ H ∨ t' D σ H) := ⟨fun pins s σ H Q I q => by
  rcases q with q | q
  · exact h.run pins s σ H Q I q
  · exact h'.run pins s σ H Q I q⟩
end L2
namespace DL
open PySem PySem.Spec PyProof.Rows L2
def signs (x : Str) : List D := x.cps.toList.map fun c => .str ⟨#[c]⟩
def gItAny (ga : M A) : M (List D) := bnd ga fun a => bnd (force a) fun d => match d with
  | .lst ds => pur ds
  | .tup ds => pur ds
  | .str x => pur (signs x)
  | _ => bad
def kD : Key → D
  | .inl i => .int i
  | .inr x => .str x
def gKeys (ga : M A) : M (List D) := bnd ga fun a => bnd (force a) fun d => match d with
  | .dic ks => pur (ks.map fun p => kD p.1)
  | _ => bad
def gVals (ga : M A) : M (List D) := bnd ga fun a => bnd (force a) fun d => match d with
  | .dic ks => pur (ks.map fun p => p.2)
  | _ => bad
def gItems (ga : M A) : M (List D) := bnd ga fun a => bnd (force a) fun d => match d with
  | .dic ks => pur (ks.map fun p => .tup [kD p.1, p.2])
  | _ => bad
def gRange1 (ga : M A) : M (List D) := bnd ga fun a => bnd (pk a) fun d => match d with
  | .int j => if -(2 ^ 62) ≤ j ∧ j < 2 ^ 62 then pur ((List.range j.toNat).map fun i => .int (i : Nat)) else bad
  | _ => bad
def gRange2 (ga gb : M A) : M (List D) := bnd ga fun a => bnd gb fun b => bnd (pk a) fun d => bnd (pk b) fun e => match d, e with
  | .int i, .int j => if (-(2 ^ 62) ≤ i ∧ i < 2 ^ 62) ∧ -(2 ^ 62) ≤ j ∧ j < 2 ^ 62 then pur ((List.range (j - i).toNat).map fun k => .int (i + (k : Nat))) else bad
  | _, _ => bad
section
variable {K : PySem.W.Frag} {G : Gh}
theorem itok_list {a : Addr} {vs : List V} {ds : List D} (hl0 : G.Hs a = some (.lst vs)) (dl : DenL K G.Hs ds vs) : ItOk K G (Itl K a) ds := by
  have hl : SqL K G.Hs a vs := .of hl0
  refine ⟨fun {i G1 σ H s} lt l r => ?_, fun {i G1 σ H s} le l r => ?_, fun {i G1 σ H s x H'} l r lt y => ?_⟩
  · have hv := dl.len
    exact ⟨vs, vs[i]'(by omega), sub_l r.x.ba r.x.hs (le_l l.hs hl), List.getElem?_eq_getElem _⟩
  · exact ⟨vs, sub_l r.x.ba r.x.hs (le_l l.hs hl), by rw [dl.len]; exact le⟩
  · obtain ⟨rfl, y⟩ := y
    obtain ⟨d, e, dn⟩ := dl.getV (y vs (sub_l r.x.ba r.x.hs (le_l l.hs hl)))
    exact ⟨d, G1, e, .refl G1, r, dn.le l.hs⟩
theorem itok_tup {a : Addr} {vs : List V} {ds : List D} (hl : SqT K G.Hs a vs) (dl : DenL K G.Hs ds vs) : ItOk K G (Itt K a) ds := by
  refine ⟨fun {i G1 σ H s} lt l r => ?_, fun {i G1 σ H s} le l r => ?_, fun {i G1 σ H s x H'} l r lt y => ?_⟩
  · have hv := dl.len
    exact ⟨vs, vs[i]'(by omega), sub_t r.x.ba r.x.hs (le_t l.hs hl), List.getElem?_eq_getElem _⟩
  · exact ⟨vs, sub_t r.x.ba r.x.hs (le_t l.hs hl), by rw [dl.len]; exact le⟩
  · obtain ⟨rfl, y⟩ := y
    obtain ⟨d, e, dn⟩ := dl.getV (y vs (sub_t r.x.ba r.x.hs (le_t l.hs hl)))
    exact ⟨d, G1, e, .refl G1, r, dn.le l.hs⟩
theorem itok_str {x : Str} : ItOk K G (Its x) (signs x) := by
  have hl : (signs x).length = x.cps.size := by simp [signs]
  refine ⟨fun {i G1 σ H s} lt l r => ?_, fun {i G1 σ H s} le l r => ?_, fun {i G1 σ H s v H'} l r lt y => ?_⟩
  · show i < x.cps.size
    omega
  · show x.cps.size ≤ i
    omega
  · obtain ⟨rfl, c, hc, rfl⟩ := y
    refine ⟨.str ⟨#[c]⟩, G1, ?_, .refl G1, r, by unfold Den; rfl⟩
    simp only [signs, List.getElem?_map, Array.getElem?_toList, hc, Option.map_some]
theorem itok_range {lo : Int} {n : Nat} : ItOk K G (Itr lo n) ((List.range n).map fun k => .int (lo + (k : Nat))) := by
  refine ⟨fun {i G1 σ H s} lt l r => ?_, fun {i G1 σ H s} le l r => ?_, fun {i G1 σ H s v H'} l r lt y => ?_⟩
  · show i < n
    simpa using lt
  · show n ≤ i
    simpa using le
  · obtain ⟨rfl, rfl⟩ := y
    have lt' : i < n := by simpa using lt
    exact ⟨.int (lo + i), G1, by simp [lt'], .refl G1, r, by unfold Den; rfl⟩
theorem DenK.getV {Hs : Hp} : ∀ {ds : List (Key × D)} {vs : List (Key × V)} {i : Nat} {k : Key} {v : V}, DenK K Hs ds vs → vs[i]? = some (k, v) → ∃ d, ds[i]? = some (k, d) ∧ Den K Hs d v
  | [], _, _, _, _, h, e => by unfold DenK at h; subst h; simp at e
  | (k', d) :: ds, vs, 0, _, _, h, e => by
    unfold DenK at h
    obtain ⟨v, r, rfl, h1, _⟩ := h
    simp at e
    obtain ⟨rfl, rfl⟩ := e
    exact ⟨d, rfl, h1⟩
  | (k', d) :: ds, vs, i + 1, _, _, h, e => by
    unfold DenK at h
    obtain ⟨v, r, rfl, _, h2⟩ := h
    exact DenK.getV (i := i) h2 (by simpa using e)
theorem den_kD {Hs : Hp} (k : Key) : Den K Hs (kD k) (kV k) := by cases k <;> (unfold kD kV Den; rfl)
theorem den_tup2 {Hs : Hp} {T : Addr} {x y : D} {v w : V} (h : Hs T = some (.tup [v, w])) (hx : Den K Hs x v) (hy : Den K Hs y w) : Den K Hs (.tup [x, y]) (.ref T) := den_root (o := .tup [v, w]) h ⟨_, rfl, .cons hx (.cons hy .nil)⟩
theorem itok_items {d : Addr} {ob : Obj} {kvs : List (Key × V)} {ks : List (Key × D)} (hf : G.Fx d = some (.frz ob (.dK kvs))) (dk : DenK K G.Hs ks kvs) : ItOk K G (Iti d ob kvs) (ks.map fun p => .tup [kD p.1, p.2]) := by
  have hl := dk.len
  refine ⟨fun {i G1 σ H s} lt l r => ?_, fun {i G1 σ H s} le l r => ?_, fun {i G1 σ H s v H'} l r lt y => ?_⟩
  · exact ⟨r.x.fx _ _ (l.fx _ _ hf), by simp at lt; omega⟩
  · exact ⟨r.x.fx _ _ (l.fx _ _ hf), by simp at le; omega⟩
  · obtain ⟨T, k, v', hk, rfl, hT, rfl⟩ := y
    obtain ⟨d', e, dn⟩ := dk.getV hk
    obtain ⟨_, f2, _, _⟩ := r.x.fresh hT
    have l3 := Gh.le_add (G := G1) (p := T) (o := .tup [kV k, v']) f2
    exact ⟨.tup [kD k, d'], _, by simp [e], l3, r.new hT trivial, den_tup2 (by show upd G1.Hs T _ T = _; exact upd_same) (den_kD k) ((dn.le l.hs).le l3.hs)⟩
end
section
variable {X : Cx} {E : XK} {tg e : Expr} {es : List Expr} {ga gb : M A} {gs : M (List A)}
theorem dj_any (he : DE X E e ga) : DJ X E tg e (gItAny ga) := (((pi_list he).or (pi_tup he)).or (pi_str he)).imp fun σ H R ⟨G, s, r, h⟩ => by
  unfold gItAny bnd at h
  cases q : ga s with
  | exc c fs s1 =>
    rw [q] at h
    refine .inl (.inl ⟨G, s, r, ?_⟩)
    rw [q]; exact h
  | bad => rw [q] at h; exact h.elim
  | ok a s1 =>
    rw [q] at h
    dsimp only at h
    cases q2 : force a s1 with
    | exc c fs s2 => exact (force_exc q2).elim
    | bad => rw [q2] at h; exact h.elim
    | ok d s2 =>
      rw [q2] at h
      dsimp only at h
      cases d with
      | lst ds =>
        refine .inl (.inl ⟨G, s, r, ?_⟩)
        rw [q]
        intro v H' G' l r' ad
        obtain ⟨G2, l2, r2, dn⟩ := r'.force ad q2
        unfold Den at dn
        obtain ⟨p, vs, rfl, hl, dl⟩ := dn
        exact ⟨p, rfl, ⟨vs, .of (sub_raw r2.x.hs hl fun z => z)⟩, h _ H' G2 (l.trans l2) r2 (itok_list hl dl)⟩
      | tup ds =>
        refine .inl (.inr ⟨G, s, r, ?_⟩)
        rw [q]
        intro v H' G' l r' ad
        obtain ⟨G2, l2, r2, dn⟩ := r'.force ad q2
        unfold Den at dn
        obtain ⟨p, vs, rfl, hl, dl⟩ := dn
        exact ⟨p, rfl, ⟨vs, sub_t r2.x.ba r2.x.hs hl⟩, h _ H' G2 (l.trans l2) r2 (itok_tup hl dl)⟩
      | str x =>
        refine .inr ⟨G, s, r, ?_⟩
        rw [q]
        intro v H' G' l r' ad
        obtain ⟨G2, l2, r2, dn⟩ := r'.force ad q2
        unfold Den at dn
        subst dn
        exact ⟨x, rfl, h _ H' G2 (l.trans l2) r2 itok_str⟩
      | _ => exact h.elim
theorem lock_dict {te : TE} {σ : St} {H : Hp} {R : It → Hp → Prop} {sel : Addr → Obj → List (Key × V) → It} {ds : List (Key × D) → List D}
    (hok : ∀ {G : Gh} {d ob kvs ks}, G.Fx d = some (.frz ob (.dK kvs)) → DenK X.K G.Hs ks kvs → ItOk X.K G (sel d ob kvs) (ds ks))
    (h : iD X E (bnd ga fun a => bnd (force a) fun d => match d with | .dic ks => pur (ds ks) | _ => bad) σ H R) (T : V → Hp → Prop)
    (k : ∀ d ob kvs H', H' d = some (.frz ob (.dK kvs)) → R (sel d ob kvs) H' → T (.ref d) H') :
    tD X.K E ga σ H fun x H1 => T x H1 ∨ ∃ d u, x = .ref d ∧ H1 d = some u ∧ Mut (some u) ∧ ∀ ob, NoFz X d → T x (upd H1 d (.frz ob u)) := by
  obtain ⟨G, s, r, h⟩ := h
  refine stepE ipI h r fun v H1 G1 a s1 l1 r1 ad h1 => ?_
  obtain ⟨d, s2, G2, l2, r2, dn, h2⟩ := stepForce ipI h1 r1 ad
  cases d with
  | dic ks =>
    unfold Den at dn
    obtain ⟨p, kvs, rfl, hp, dk⟩ := dn
    rcases r2.x.hs p _ hp with e | ⟨_, ob, e⟩ | ⟨⟨_, z⟩, _⟩
    rotate_left 2
    · cases z
    · refine .inr ⟨p, _, rfl, e, trivial, fun ob nf => ?_⟩
      obtain ⟨r3, lok⟩ := r2.lock (ob := ob) e hp trivial nf
      refine k p ob kvs _ upd_same ?_
      exact h2 _ _ G2 _ (.refl G2) lok r3 (hok (G := G2.lk (some (p, ob, .dK kvs))) (by show upd G2.Fx p _ p = _; exact upd_same) dk)
    · refine .inl (k p ob kvs _ e ?_)
      exact h2 _ _ G2 none (.refl G2) trivial r2 (hok (G := G2) (r2.x.lo _ _ _ e fun _ z => nomatch z) dk)
  | _ => exact h2.elim
theorem di_items {apos cpos tpos : Pos} {elts : List Expr} {kk : Nat} (he : DE X E e ga) (hbase : attributeBase e "items" X.env (eval e X.env) = eval e X.env := by rfl) (hline : (apos.endLine == cpos.line) = true := by rfl) :
    DI X E (.Tuple elts kk tpos) (.Call (.Attribute e "items" apos) [] [] cpos) (gItems ga) :=
  (pi_items (PE.lockV he) hbase hline).imp fun σ H R h =>
  lock_dict (te := tD X.K E ga) (sel := fun d ob kvs => Iti d ob kvs) (ds := fun ks => ks.map fun p => .tup [kD p.1, p.2]) (fun a b => itok_items a b) h _ fun d ob kvs H' e q => ⟨d, ob, kvs, rfl, e, q⟩
theorem d1 {K : PySem.W.Frag} {σ : St} {H : Hp} {T : List V → Hp → Prop} {β : Type} {P : Gh → R β → Prop} (ip : IsPost K E P) {f : A → M β} {G : Gh} {s : S} (h : P G (bnd ga f s)) (r : Rel K G σ H s)
    (k : ∀ v H1 G1 a s1, G.le G1 → Rel K G1 σ H1 s1 → ADen K G1 σ a v → P G1 (f a s1) → T [v] H1) : tA K E (gCons ga (pur [])) σ H T := by
  refine ⟨G, s, r, ?_⟩
  unfold gCons
  unfold bnd at h ⊢
  cases q : ga s with
  | exc c fs s1 => rw [q] at h; exact ip.ex h
  | bad => rw [q] at h; exact (ip.bd h).elim
  | ok a s1 =>
    rw [q] at h
    intro vs H1 G1 l r1 ad
    obtain ⟨v, us, e, a1, a2⟩ := ad
    have a2' : us = [] := a2
    subst a2'
    rw [e]
    exact k v H1 G1 a s1 l r1 a1 (ip.mono h l)
theorem dj_range1 {p pos : Pos} (hg : Gl X "range") (hm : X.mg "range" = none) (ha : DE X E e ga) (hs : starEach [e] X.env = [(false, eval e X.env)] := by rfl) : DJ X E tg (.Call (.Name "range" p) [e] [] pos) (gRange1 ga) :=
  (pi_range1 hg hm (da_cons ha da_nil hs) hs).imp fun σ H R ⟨G, s, r, h⟩ => d1 ipJ h r fun v H1 G1 a s1 l r1 ad h1 => by
    obtain ⟨d, e1, h2⟩ := stepPk ipJ h1
    have dn := r1.peek ad e1
    cases d with
    | int j =>
      rw [denH_int dn]
      dsimp only at h2
      by_cases c : -(2 ^ 62) ≤ j ∧ j < 2 ^ 62
      · rw [if_pos c] at h2
        refine ⟨j, rfl, c.1, c.2, h2 _ H1 G1 (.refl G1) r1 ?_⟩
        have z := itok_range (K := X.K) (G := G1) (lo := 0) (n := j.toNat)
        have e2 : (List.range j.toNat).map (fun k => D.int (0 + (k : Nat))) = (List.range j.toNat).map (fun i => D.int (i : Nat)) := by
          apply List.map_congr_left
          intro k _
          rw [Int.zero_add]
        rw [e2] at z
        exact z
      · rw [if_neg c] at h2; exact h2.elim
    | _ => exact h2.elim
end
end DL
end
section
namespace DL
open PySem PySem.Spec PyProof.Rows L2
def wipeS : List Nat → S → S
  | [], s => s
  | v :: vs, s => setSl v .no (wipeS vs s)
def backS (s0 : S) : List Nat → S → S
  | [], s => s
  | v :: vs, s => backS s0 vs (setSl v (if v ∈ vs then .no else match s0.sl[v]? with
    | some (.fr d) => .fr d
    | _ => .no) s)
def lcLoop (vs : List Nat) (t : Tg) (c : M Bool) (e : M A) : List D → List D → M (List D)
  | [], acc => pur acc
  | d :: r, acc => fun s => match t d (wipeS vs s) with
    | none => .bad
    | some s1 => bnd c (fun b => if b = true then bnd e (fun a => bnd (force a) fun x => lcLoop vs t c e r (acc ++ [x])) else lcLoop vs t c e r acc) s1
def gLc (it : M (List D)) (vs : List Nat) (t : Tg) (c : M Bool) (e : M A) : M D := bnd it fun ds => fun s => if ds.length ≤ 100000 then match lcLoop vs t c e ds [] s with
  | .ok acc s' => .ok (.lst acc) (backS s vs s')
  | _ => .bad else .bad
def del (H : Hp) (p : Addr) : Hp := fun a => if a = p then none else H a
theorem del_ne {H : Hp} {p a : Addr} (h : a ≠ p) : del H p a = H a := if_neg h
theorem del_eq {H : Hp} {p : Addr} : del H p p = none := if_pos rfl
def Gh.hide (G : Gh) (p : Addr) (o : HO) : Gh := ⟨upd G.Fx p o, fun a => G.Dm a ∨ a = p, G.Hs⟩
section
variable {K : PySem.W.Frag} {G G2 : Gh} {σ : St} {H : Hp} {s : S} {p : Addr} {o o' : HO}
theorem Rel.hide (r : Rel K G σ H s) (hp : H p = none) (nf : NoFrz o) : Rel K (G.hide p o) σ (upd H p o) s := by
  obtain ⟨f1, f2, f3, f4⟩ := r.x.fresh hp
  have x := r.x.write (o := o) f1 f2 f4 nf
  refine ⟨⟨fun a u e => ?_, x.hs, x.ba, fun a q => ?_, fun a q => ?_, fun a ob u e => ?_, ?_⟩, r.fr, fun i d e => ?_, r.ap, r.ln, ?_⟩
  · by_cases z : a = p
    · subst z
      have e' : upd G.Fx a o a = some u := e
      rw [upd_same] at e'; cases e'; exact upd_same
    · have e' : upd G.Fx p o a = some u := e
      rw [upd_ne z] at e' ⊢; exact r.x.fx a u e'
  · rcases q with q | q
    · exact r.x.dm a q
    · rw [q]; exact f2
  · rcases q with q | q
    · exact x.dh a q
    · rw [q, upd_same]; exact fun z => nomatch z
  · intro nt
    have e1 := x.lo a ob u e nt
    have z : a ≠ p := fun z => by rw [z, f1] at e1; cases e1
    show upd G.Fx p o a = _
    rw [upd_ne z]; exact e1
  · have w := x.rs
    cases e : s.rs with
    | none => trivial
    | some q =>
      rw [e] at w
      have z : RsAt K G (upd H p o) q := w
      have n : ∀ a, q.has a → a ≠ p := fun a h y => f4 q e (y ▸ h)
      exact z.re (fun _ _ => rfl) (Le.refl _) (fun a h => ⟨(z.no a h).1, by show upd G.Fx p o _ = none; rw [upd_ne (n a h)]; exact (z.no a h).2.1, fun y => y.elim (z.no a h).2.2 (n a h)⟩) ⟨fun _ _ => rfl, fun a t f => by show upd G.Fx p o _ = none; rw [upd_ne (tg_ne t.tg f2)]; exact f, fun _ t => t⟩
  · obtain ⟨q, u, a1, a2, a3, a4, a5, a6, a7, a8⟩ := r.ow i d e
    have nq : q ≠ p := ne_of_none a2 hp
    exact ⟨q, u, a1, by rw [upd_ne nq]; exact a2, a3, a4, a5, by show upd G.Fx p o q = none; rw [upd_ne nq]; exact a6, fun z => z.elim a7 nq, a8⟩
  · have w := r.me
    cases e : s.me with
    | none => trivial
    | some q =>
      have n := r.meNe e hp
      rw [e] at w
      have z : MeAt K G H s.rs q := w
      obtain ⟨gs, h1, h2⟩ := z.o
      exact ⟨⟨gs, by rw [upd_ne n]; exact h1, h2⟩, z.ns, by show upd G.Fx p o _ = none; rw [upd_ne n]; exact z.nf, fun y => y.elim z.nd n, z.nr⟩
theorem Rel.unhide (r : Rel K (G.hide p o) σ H s) (f1 : G.Fx p = none) (f3 : ¬ G.Dm p) (nf : NoFrz o) : ∃ H0, H0 p = none ∧ H = upd H0 p o ∧ Rel K G σ H0 s := by
  have hp : H p = some o := r.x.fx p o (show upd G.Fx p o p = some o from upd_same)
  have f2 : G.Hs p = none := r.x.dm p (.inr rfl)
  have f4 : RsNe s.rs p := fun q e => by
    have w := r.x.rs
    rw [e] at w
    have z : RsAt K (G.hide p o) H q := w
    intro y
    have t : upd G.Fx p o p = none := (z.no p y).2.1
    rw [upd_same] at t; cases t
  have ne0 : ∀ a, a ≠ p → del H p a = H a := fun a n => del_ne n
  refine ⟨del H p, del_eq, ?_, ⟨⟨fun a u e => ?_, fun a u e => ?_, r.x.ba, fun a q => r.x.dm a (.inl q), fun a q => ?_, fun a ob u e => ?_, ?_⟩, r.fr, fun i d e => ?_, r.ap, r.ln, ?_⟩⟩
  · funext a
    by_cases z : a = p
    · subst z; rw [upd_same, hp]
    · rw [upd_ne z]; exact (ne0 a z).symm
  · have z : a ≠ p := fun z => by rw [z, f1] at e; cases e
    rw [ne0 a z]
    exact r.x.fx a u (show upd G.Fx p o a = some u by rw [upd_ne z]; exact e)
  · have z : a ≠ p := fun z => by rw [z, f2] at e; cases e
    rw [ne0 a z]
    exact r.x.hs a u e
  · have z : a ≠ p := fun z => f3 (z ▸ q)
    rw [ne0 a z]
    exact r.x.dh a (.inl q)
  · intro nt
    have z : a ≠ p := fun z => by rw [z, del_eq] at e; cases e
    rw [ne0 a z] at e
    have t : upd G.Fx p o a = some (.frz ob u) := r.x.lo a ob u e nt
    rw [upd_ne z] at t; exact t
  · have w := r.x.rs
    cases e : s.rs with
    | none => trivial
    | some q =>
      rw [e] at w
      have z : RsAt K (G.hide p o) H q := w
      have n : ∀ a, q.has a → a ≠ p := fun a h y => f4 q e (y ▸ h)
      exact z.re (fun a h => ne0 a (n a h)) (Le.refl _) (fun a h => ⟨(z.no a h).1, by
        have t1 : upd G.Fx p o a = none := (z.no a h).2.1
        rw [upd_ne (n a h)] at t1; exact t1, fun y => (z.no a h).2.2 (.inl y)⟩) ⟨fun a t => ne0 a (tg_ne t f2), fun a t f => by
        have f' : upd G.Fx p o a = none := f
        rw [upd_ne (tg_ne t.tg f2)] at f'; exact f', fun _ t => t⟩
  · obtain ⟨q, u, a1, a2, a3, a4, a5, a6, a7, a8⟩ := r.ow i d e
    have nq : q ≠ p := fun z => a7 (.inr z)
    have t : upd G.Fx p o q = none := a6
    rw [upd_ne nq] at t
    exact ⟨q, u, a1, by rw [ne0 _ nq]; exact a2, a3, a4, a5, t, fun z => a7 (.inl z), a8⟩
  · have w := r.me
    cases e : s.me with
    | none => trivial
    | some q =>
      rw [e] at w
      have z : MeAt K (G.hide p o) H s.rs q := w
      obtain ⟨gs, h1, h2⟩ := z.o
      have n : q.x ≠ p := fun y => z.nd (.inr y)
      have t : upd G.Fx p o q.x = none := z.nf
      rw [upd_ne n] at t
      exact ⟨⟨gs, by rw [ne0 _ n]; exact h1, h2⟩, z.ns, t, fun y => z.nd (.inl y), z.nr⟩
theorem Gh.le_hide (l : (G.hide p o).le G2) : G2 = (G.wh G2).hide p o := by
  obtain ⟨a, b, c⟩ := G2
  have e1 : a = upd G.Fx p o := l.fx
  have e2 : b = fun a => G.Dm a ∨ a = p := l.dm
  subst e1 e2
  rfl
theorem Gh.le_whh (l : (G.hide p o).le G2) : G.le (G.wh G2) := ⟨rfl, rfl, l.hs⟩
theorem Rel.wipe (r : Rel K G σ H s) : ∀ vs, Rel K G (L2.wipe σ vs) H (wipeS vs s)
  | [] => r
  | v :: vs => (Rel.wipe r vs).setNo none
theorem set_get_self {α : Type} {l : List α} {i : Nat} {x : α} (h : l[i]? = some x) : l.set i x = l := by
  apply List.ext_getElem?
  intro j
  by_cases z : j = i
  · subst z
    rw [List.getElem?_set_self (List.getElem?_eq_some_iff.mp h).1, h]
  · rw [get_set_ne z]
theorem Rel.back {s0 : S} (hf : ∀ (v : Nat) d, s0.sl[v]? = some (.fr d) → ∃ w, σ[v]? = some (some w) ∧ Den K G.Hs d w) : ∀ (vs : List Nat) {s : S}, Rel K G (L2.wipe σ vs) H s → Rel K G σ H (backS s0 vs s)
  | [], s, r => r
  | v :: vs, s, r => by
    unfold backS
    refine Rel.back hf vs ?_
    have r' : Rel K G ((L2.wipe σ vs).set v none) H s := r
    by_cases lt : v < σ.length
    · have lt' : v < (L2.wipe σ vs).length := by rw [wipe_length]; exact lt
      have e2 : ∀ x, (L2.wipe σ vs)[v]? = some x → ((L2.wipe σ vs).set v none).set v x = L2.wipe σ vs := fun x hx => by rw [List.set_set, set_get_self hx]
      have no : Rel K G (L2.wipe σ vs) H (setSl v .no s) := by
        have := r'.setNo (i := v) ((L2.wipe σ vs)[v]'lt')
        rw [e2 _ (List.getElem?_eq_getElem lt')] at this
        exact this
      by_cases hv : v ∈ vs
      · rw [if_pos hv]; exact no
      · rw [if_neg hv]
        cases q : s0.sl[v]? with
        | none => exact no
        | some z =>
          cases z with
          | no => exact no
          | ow d => exact no
          | fr d =>
            obtain ⟨w, e1, dn⟩ := hf v d q
            have this := r'.setFr (i := v) dn
            rw [e2 _ (by rw [wipe_out σ vs v hv]; exact e1)] at this
            exact this
    · have e1 : (L2.wipe σ vs).set v none = L2.wipe σ vs := List.set_eq_of_length_le (by rw [wipe_length]; omega)
      rw [e1] at r'
      have e3 : ∀ x, setSl v x s = s := fun x => by
        have hl := r'.ln
        rw [wipe_length] at hl
        unfold setSl
        rw [List.set_eq_of_length_le (by omega)]
      rw [e3]; exact r'
end
theorem back_sl (s0 : S) : ∀ (vs : List Nat) (s s' : S), s.rs = s'.rs → s.me = s'.me → s.sl.length = s'.sl.length → (∀ j, j ∉ vs → s.sl[j]? = s'.sl[j]?) → backS s0 vs s = backS s0 vs s'
  | [], s, s', h1, h0, h2, h3 => by
    obtain ⟨a, b, c⟩ := s; obtain ⟨a', b', c'⟩ := s'
    have e : a = a' := List.ext_getElem? fun j => h3 j (by simp)
    have e2 : b = b' := h1
    have e3 : c = c' := h0
    subst e e2 e3; rfl
  | v :: vs, s, s', h1, h0, h2, h3 => by
    unfold backS
    refine back_sl s0 vs _ _ h1 h0 (by simp [setSl, h2]) fun j hj => ?_
    by_cases e : j = v
    · subst e
      by_cases lt : j < s.sl.length
      · simp only [setSl]
        rw [List.getElem?_set_self lt, List.getElem?_set_self (by omega)]
      · rw [List.getElem?_eq_none (by simp [setSl]; omega), List.getElem?_eq_none (by simp [setSl]; omega)]
    · simp only [setSl]
      rw [List.getElem?_set_ne (Ne.symm e), List.getElem?_set_ne (Ne.symm e)]
      exact h3 j (by simp [e, hj])
theorem wipeS_rs : ∀ (vs : List Nat) (s : S), (wipeS vs s).rs = s.rs
  | [], _ => rfl
  | v :: vs, s => by unfold wipeS; simp only [setSl]; exact wipeS_rs vs s
theorem wipeS_me : ∀ (vs : List Nat) (s : S), (wipeS vs s).me = s.me
  | [], _ => rfl
  | v :: vs, s => by unfold wipeS; simp only [setSl]; exact wipeS_me vs s
theorem wipeS_len : ∀ (vs : List Nat) (s : S), (wipeS vs s).sl.length = s.sl.length
  | [], _ => rfl
  | v :: vs, s => by unfold wipeS; simp only [setSl, List.length_set]; exact wipeS_len vs s
theorem wipeS_out : ∀ (vs : List Nat) (s : S) (j : Nat), j ∉ vs → (wipeS vs s).sl[j]? = s.sl[j]?
  | [], _, _, _ => rfl
  | v :: vs, s, j, h => by
    simp only [List.mem_cons, not_or] at h
    unfold wipeS
    simp only [setSl]
    rw [List.getElem?_set_ne (Ne.symm h.1)]
    exact wipeS_out vs s j h.2
theorem back_wipe (s0 : S) (vs : List Nat) (s : S) : backS s0 vs (wipeS vs s) = backS s0 vs s := back_sl s0 vs _ _ (wipeS_rs vs s) (wipeS_me vs s) (wipeS_len vs s) (wipeS_out vs s)
section
variable {X : Cx} {js vs : List Nat} {g : M (List D)} {t : Tg} {c : M Bool} {e : M A} {tE : XK}
theorem d_lcloop {K : PySem.W.Frag} {G : Gh} {σ : St} {H1 : Hp} {s : S} {J : It} {ds acc : List D} {sE : S} {Pq : Addr → Hp → Prop} (hj : ∀ j ∈ js, j ∈ vs) (hn : ds.length ≤ 100000) (r : Rel K G σ H1 s) (ok : ItOk K G J ds)
    (h : lcLoop vs t c e ds [] s = .ok acc sE) {p : Addr} (hp : H1 p = none)
    (q : ∀ H2 G2 o, G.le G2 → Rel K G2 (wipe σ vs) H2 (wipeS vs sE) → H2 p = none → DenO K G2.Hs (.lst acc) o → Pq p (upd H2 p o)) :
    ∃ W : Nat → Nat → Hp → Prop, (∃ m, W 0 m (upd H1 p (.lst []))) ∧ ∀ i m H, W i m H →
      (J.stop i H ∧ Pq p H) ∨ (J.go i H ∧ ∃ Nx : Hp → Prop, (∀ H', Nx H' → ∃ m', m' < m ∧ W (i + 1) m' H') ∧ ∀ x H', J.yld i H x H' → gD K js t x (wipe σ vs) H' fun σ2 H2 => wipe σ2 vs = wipe σ vs ∧ tT K (fun _ _ _ => False) c σ2 H2 fun b H3 =>
        if b = true then tD K (fun _ _ _ => False) e σ2 H3 fun y H4 => ∃ acc, H4 p = some (.lst acc) ∧ acc.length < sizeLine ∧ Nx (upd H4 p (.lst (acc ++ [y]))) else Nx H3) := by
  obtain ⟨f1, f2, f3, f4⟩ := r.x.fresh hp
  refine ⟨fun i m H => m = ds.length - i ∧ i ≤ ds.length ∧ ∃ G1 s1 ac vs', G.le G1 ∧ Rel K (G1.hide p (.lst vs')) (wipe σ vs) H (wipeS vs s1) ∧ DenL K G1.Hs ac vs' ∧ ac.length ≤ i ∧ lcLoop vs t c e (ds.drop i) ac s1 = .ok acc sE, ⟨_, rfl, Nat.zero_le _, G, s, [], [], .refl G, (r.wipe vs).hide hp trivial, .nil, Nat.le_refl _, h⟩, ?_⟩
  rintro i m H ⟨rfl, hi, G1, s1, ac, vs', l1, r1, da, hac, h1⟩
  have f1' : G1.Fx p = none := by rw [l1.fx]; exact f1
  have f3' : ¬ G1.Dm p := by rw [l1.dm]; exact f3
  have sb : ∀ {G2 : Gh} {o : HO}, G.le G2 → G.sb (G2.hide p o) := fun {G2 o} l => ⟨fun a u e => by
    have z : a ≠ p := ne_of_none e f1
    show upd G2.Fx p o a = some u
    rw [upd_ne z, l.fx]; exact e, l.hs⟩
  by_cases lt : i < ds.length
  · refine .inr ⟨ok.go lt (sb l1) r1, fun H' => ∃ G1 s1 ac vs', G.le G1 ∧ Rel K (G1.hide p (.lst vs')) (wipe σ vs) H' (wipeS vs s1) ∧ DenL K G1.Hs ac vs' ∧ ac.length ≤ i + 1 ∧ lcLoop vs t c e (ds.drop (i + 1)) ac s1 = .ok acc sE,
      fun H' z => ⟨_, by omega, rfl, lt, z⟩, fun x H' y => ?_⟩
    obtain ⟨d, G2, e0, l2, r2, dn⟩ := ok.yld (sb l1) r1 lt y
    have ed : ds.drop i = d :: ds.drop (i + 1) := by
      rw [List.drop_eq_getElem_cons lt]
      rw [List.getElem?_eq_getElem lt] at e0
      rw [Option.some.inj e0]
    rw [ed] at h1
    have h2 : (match t d (wipeS vs s1) with
      | none => .bad
      | some s1 => bnd c (fun b => if b = true then bnd e (fun a => bnd (force a) fun x => lcLoop vs t c e (ds.drop (i + 1)) (ac ++ [x])) else lcLoop vs t c e (ds.drop (i + 1)) ac) s1) = R.ok acc sE := h1
    cases q1 : t d (wipeS vs s1) with
    | none => rw [q1] at h2; cases h2
    | some s2 =>
      rw [q1] at h2
      dsimp only at h2
      refine ⟨G2, wipeS vs s1, d, s2, r2, dn, q1, fun σ2 r3 b2 => ?_⟩
      have ew : wipe σ2 vs = wipe σ vs := by rw [But.wipe b2 hj, wipe_wipe]
      refine ⟨ew, G2, s2, r3, ?_⟩
      unfold bnd at h2
      cases q2 : c s2 with
      | exc c' fs s3 => rw [q2] at h2; cases h2
      | bad => rw [q2] at h2; cases h2
      | ok b s3 =>
        rw [q2] at h2
        dsimp only at h2
        intro H3 G3 l3 r4
        have eh2 : (G1.hide p (.lst vs')).le G3 := l2.trans l3
        cases b with
        | false =>
          rw [if_neg (by decide)] at h2 ⊢
          have e3 := Gh.le_hide eh2
          have lw := Gh.le_whh eh2
          rw [e3] at r4
          have r5 := Rel.wipe r4 vs
          rw [ew] at r5
          exact ⟨G1.wh G3, s3, ac, vs', l1.trans lw, r5, da.le lw.hs, Nat.le_succ_of_le hac, h2⟩
        | true =>
          rw [if_pos rfl] at h2 ⊢
          refine ⟨G3, s3, r4, ?_⟩
          cases q3 : e s3 with
          | exc c' fs s4 => rw [q3] at h2; cases h2
          | bad => rw [q3] at h2; cases h2
          | ok a s4 =>
            rw [q3] at h2
            dsimp only at h2
            intro v H4 G4 l4 r5 ad
            cases q4 : force a s4 with
            | exc c' fs s5 => exact (force_exc q4).elim
            | bad => rw [q4] at h2; cases h2
            | ok x5 s5 =>
              rw [q4] at h2
              dsimp only at h2
              obtain ⟨G5, l5, r6, dn5⟩ := r5.force ad q4
              have eh5 : (G1.hide p (.lst vs')).le G5 := (eh2.trans l4).trans l5
              have e5 := Gh.le_hide eh5
              have lw := Gh.le_whh eh5
              rw [e5] at r6
              have hlen : vs'.length = ac.length := da.len
              refine ⟨vs', r6.x.fx p _ (show upd (G1.wh G5).Fx p (.lst vs') p = _ from upd_same), Nat.lt_of_lt_of_le (by omega : vs'.length < 100001) (by rw [sizeLine_eq]; decide), ?_⟩
              have f1w : (G1.wh G5).Fx p = none := f1'
              obtain ⟨H0, hp0, eH, r7⟩ := r6.unhide f1w f3' trivial
              have r8 : Rel K ((G1.wh G5).hide p (.lst (vs' ++ [v]))) σ2 (upd H0 p (.lst (vs' ++ [v]))) s5 := r7.hide hp0 trivial
              have r9 := Rel.wipe r8 vs
              rw [ew] at r9
              refine ⟨G1.wh G5, s5, ac ++ [x5], vs' ++ [v], l1.trans lw, ?_, (da.le lw.hs).snoc dn5, by simp; omega, h2⟩
              rw [eH, upd_upd]
              exact r9
  · have e0 : i = ds.length := by omega
    refine .inl ⟨ok.stop (by omega) (sb l1) r1, ?_⟩
    rw [List.drop_eq_nil_of_le (by omega)] at h1
    have h2 : R.ok ac s1 = R.ok acc sE := h1
    cases h2
    obtain ⟨H0, hp0, rfl, r0⟩ := r1.unhide f1' f3' trivial
    exact q H0 G1 (.lst vs') l1 r0 hp0 (den_lst da)
end
section
variable {X : Cx} {E : XK} {elt tg iter : Expr} {ifs : List Expr} {scope : Scope} {own : List (Str × Nat)} {pos : Pos} {js : List Nat} {g : M (List D)} {t : Tg} {c : M Bool} {e : M A}
abbrev E00 : XK := fun _ _ _ => False
theorem d_lcJ {vs : List Nat} (hj : ∀ j ∈ js, j ∈ vs) {σ : St} {H : Hp} {Q : VK} (h : tF X.K E (gLc g vs t c e) σ H Q) : tLc (iJ X E g) (gD X.K js t) (tT X.K E00 c) (tD X.K E00 e) vs σ H Q := by
  obtain ⟨G, s, r, h⟩ := h
  refine ⟨G, s, r, ?_⟩
  unfold gLc bnd at h
  cases q : g s with
  | exc c fs s1 => rw [q] at h; exact h
  | bad => rw [q] at h; exact h
  | ok ds s1 =>
    rw [q] at h
    dsimp only at h
    by_cases hn : ds.length ≤ 100000
    · rw [if_pos hn] at h
      cases q2 : lcLoop vs t c e ds [] s1 with
      | exc c fs s2 => rw [q2] at h; exact h.elim
      | bad => rw [q2] at h; exact h.elim
      | ok acc sE =>
        rw [q2] at h
        intro J H' G' l r' ok p hp
        refine d_lcloop (Pq := fun p H => Q (.ref p) H) hj hn r' ok q2 hp fun H2 G2 o l2 r2 hp2 ho => ?_
        have r3 := Rel.back (s0 := s1) (fun v d hv => by
          obtain ⟨w, e1, dn⟩ := r'.fr v d hv
          exact ⟨w, e1, dn.le l2.hs⟩) vs r2
        have e3 : backS s1 vs (wipeS vs sE) = backS s1 vs sE := back_wipe s1 vs sE
        rw [e3] at r3
        exact h p o H2 G2 (l.trans l2) r3 hp2 ho (by obtain ⟨vs', rfl, _⟩ := ho; trivial)
    · rw [if_neg hn] at h; exact h.elim
theorem d_lcI {vs : List Nat} (hj : ∀ j ∈ js, j ∈ vs) {σ : St} {H : Hp} {Q : VK} (h : tF X.K E (gLc g vs t c e) σ H Q) : tLc (iD X E g) (gD X.K js t) (tT X.K E00 c) (tD X.K E00 e) vs σ H fun v H' => Unl X H' (Q v) := by
  obtain ⟨G, s, r, h⟩ := h
  refine ⟨G, s, r, ?_⟩
  unfold gLc bnd at h
  cases q : g s with
  | exc c fs s1 => rw [q] at h; exact h
  | bad => rw [q] at h; exact h
  | ok ds s1 =>
    rw [q] at h
    dsimp only at h
    by_cases hn : ds.length ≤ 100000
    · rw [if_pos hn] at h
      cases q2 : lcLoop vs t c e ds [] s1 with
      | exc c fs s2 => rw [q2] at h; exact h.elim
      | bad => rw [q2] at h; exact h.elim
      | ok acc sE =>
        rw [q2] at h
        intro J H' G' L l hl r' ok p hp
        refine d_lcloop (Pq := fun p H => Unl X H (Q (.ref p))) hj hn r' ok q2 hp fun H2 G2 o l2 r2 hp2 ho => ?_
        have r3 := Rel.back (s0 := s1) (fun v d hv => by
          obtain ⟨w, e1, dn⟩ := r'.fr v d hv
          exact ⟨w, e1, dn.le l2.hs⟩) vs r2
        have e3 : backS s1 vs (wipeS vs sE) = backS s1 vs sE := back_wipe s1 vs sE
        rw [e3] at r3
        have mu : MutO o := by obtain ⟨vs', rfl, _⟩ := ho; trivial
        have r4 := (r3.newH hp2 ho.noFrz)
        refine unl_of l2 hl r4.x ?_
        have pn : unH L H2 p = none ∧ unH L (upd H2 p o) = upd (unH L H2) p o := by
          cases L with
          | none => exact ⟨hp2, rfl⟩
          | some z =>
            obtain ⟨d, ob, u⟩ := z
            have hd : H2 d = some (.frz ob u) := r3.x.fx d _ (by rw [l2.fx]; exact upd_same)
            have nd : p ≠ d := fun z => by rw [z, hd] at hp2; cases hp2
            refine ⟨by show upd H2 d u p = none; rw [upd_ne nd]; exact hp2, ?_⟩
            show upd (upd H2 p o) d u = upd (upd H2 d u) p o
            funext a
            by_cases e1 : a = d
            · subst e1; rw [upd_same, upd_ne (Ne.symm nd), upd_same]
            · by_cases e2 : a = p
              · subst e2; rw [upd_ne e1, upd_same, upd_same]
              · rw [upd_ne e1, upd_ne e2, upd_ne e2, upd_ne e1]
        rw [pn.2]
        exact h p o _ (G'.wh G2) (l.trans (Gh.le_wh l2)) (r3.unlk l2 hl) pn.1 ho mu
    · rw [if_neg hn] at h; exact h.elim
abbrev DtS (X : Cx) (ifs : List Expr) (c : M Bool) : Prop := PTs X ifs (tT X.K E00 c)
theorem dts_nil : DtS X [] (pur true) := ⟨fun _ _ _ H Q I ⟨G, s, r, h⟩ => wpAny_tests_nil ⟨H, I, h H G (.refl G) r⟩⟩
theorem dts_one {a : Expr} (h : DT X E00 a c) : DtS X [a] c := pts_one h
theorem df_lcJ (hc : X.calm = true) (hN : X.N.Nodup) (hi : DJ X E tg iter g) (ok : BlkOk X.N X.env.scope scope own)
    (hg : ∀ (s : Shared) (H : Hp) (C : Addr) (cl : List (Str × Addr)) (fp : List Addr), DG (X.blk s H scope (compEnvC scope cl C X.env) fp) tg js t) (ht : ∀ (s : Shared) (H : Hp) (C : Addr) (cl : List (Str × Addr)) (fp : List Addr), DtS (X.blk s H scope (compEnvC scope cl C X.env) fp) ifs c)
    (he : ∀ (s : Shared) (H : Hp) (C : Addr) (cl : List (Str × Addr)) (fp : List Addr), DE (X.blk s H scope (compEnvC scope cl C X.env) fp) E00 elt e) (hj : ∀ j ∈ js, j ∈ own.map (·.2) := by decide) (hs : ∀ x, foldedSetIterable iter X.env x = pure x := by intro _; rfl) :
    DF X E (.ListComp elt [⟨tg, iter, ifs, 0⟩] scope pos) (gLc g (own.map (·.2)) t c e) := (pe_lc hc hN hi ok hg ht he hs).imp fun σ H Q h => d_lcJ hj h
theorem df_lcI (hc : X.calm = true) (hN : X.N.Nodup) (hi : DI X E tg iter g) (ok : BlkOk X.N X.env.scope scope own)
    (hg : ∀ (s : Shared) (H : Hp) (C : Addr) (cl : List (Str × Addr)) (fp : List Addr), DG (X.blk s H scope (compEnvC scope cl C X.env) fp) tg js t) (ht : ∀ (s : Shared) (H : Hp) (C : Addr) (cl : List (Str × Addr)) (fp : List Addr), DtS (X.blk s H scope (compEnvC scope cl C X.env) fp) ifs c)
    (he : ∀ (s : Shared) (H : Hp) (C : Addr) (cl : List (Str × Addr)) (fp : List Addr), DE (X.blk s H scope (compEnvC scope cl C X.env) fp) E00 elt e) (hj : ∀ j ∈ js, j ∈ own.map (·.2) := by decide) (hs : ∀ x, foldedSetIterable iter X.env x = pure x := by intro _; rfl) :
    DF X E (.ListComp elt [⟨tg, iter, ifs, 0⟩] scope pos) (gLc g (own.map (·.2)) t c e) := (pe_lc hc hN hi ok hg ht he hs).unl.imp fun σ H Q h => d_lcI hj h
end
end DL
end
section
namespace DL
open PySem PySem.Spec PyProof.Rows L2
theorem NoG.deeper {A : Around} (h : NoG A) (env : Env) : NoG (A.deeper env) := h
theorem NoG.in1 {A : Around} (h : NoG A) : NoG A.in1 := h
theorem NoG.make {A : Around} (h : NoG A) (C : Addr) (us : List Value) (kw : List (Str × Value)) : NoG (A.under (.builtin "type.__call__" ⟨.ref C :: us, kw⟩)) := by
  unfold NoG at h ⊢
  first
    | exact h
    | (simp [Around.under, Code.guards, Code.isGuard, pushGuards, guardIds]; exact h)
    | (simp [Around.under, Code.guards, Code.isGuard, pushGuards, guardIds, h])
section
variable {P : Program} {w : World} {K : PySem.W.Frag} {mg : Str → Option Value} {base : Heap} {CX : CXT} {j k : Nat} {f : Addr} {fd : FuncData} {ps : List Str} {sp sp' : Sp}
theorem FnG.mono (F : FnG P w K mg base CX j f fd ps sp) (h : j ≤ k) : FnG P w K mg base CX k f fd ps sp := ⟨F.len, fun A outer s H args us vs Q E hr => F.run A outer s H args us vs Q E (hr.mono h)⟩
theorem FnG.imp (F : FnG P w K mg base CX k f fd ps sp) (h : ∀ vs H Q E, sp' vs H Q E → sp vs H Q E) : FnG P w K mg base CX k f fd ps sp' :=
  ⟨fun vs H Q E q => F.len vs H Q E (h _ _ _ _ q), fun A outer s H args us vs Q E hr hg he hb hv hs => F.run A outer s H args us vs Q E hr hg he hb hv (h _ _ _ _ hs)⟩
end
section
variable {X : Cx} {CX : CXT} {k n : Nat} {f C pa : Addr} {fd : FuncData} {ps ks : List Str} {sp : Sp} {dvs : List V} {ds : List Value} {E : XK} {x m fl : Str} {p pos apos : Pos} {e o : Expr} {es : List Expr} {kws : List Keyword} {ta : TE} {t tk : TA}
variable {g : List Value → List Value → List Value} {gV : List V → List V → List V}
theorem rung_fn {pins : List (Addr × Obj)} {σ : St} {H : Hp} {s : Shared} {Q : VK} {us : List Value} {vs : List V} (F : FnG X.prog X.w X.K X.mg X.base CX k f fd ps sp) (hr : Room k X.A) (ng : NoG X.A) (hb : Binds X.K fd ps ds) (hd : Vals dvs ds) (hx : Passes CX X E)
    (I : Inv X pins σ H s) (r : Vals vs us) (h : sp (vs ++ dvs) H Q E) : wpAny (model X.prog X.w) X.A (call (.ref f) us) (EP X pins σ Q) X.xe s := by
  have r2 := r.append hd
  exact wpAny_call (codeAny_mono (F.run X.A X.stack s H ⟨us, []⟩ (us ++ ds) (vs ++ dvs) Q E hr ng I.env0 (hb s us I.kIn (by rw [← r2.length]; exact F.len _ _ _ _ h)) r2 h) fun r s' hq => by
    cases r with
    | error e => exact hx pins σ _ _ e s' I hq
    | ok fl =>
      cases fl with
      | ret u => exact I.after hq
      | next => exact False.elim hq
      | brk => exact False.elim hq
      | cont => exact False.elim hq)
theorem peg_call (F : FnG X.prog X.w X.K X.mg X.base CX k f fd ps sp) (hr : Room k X.A) (ng : NoG X.A) (hg : Gl X x) (hm : X.mg x = some (.ref f)) (hk : PySem.W.keepIn X.K (.ref f) = true) (hb : Binds X.K fd ps ds) (hd : Vals dvs ds) (hx : Passes CX X E)
    (ha : PA X (e :: es) t) (hdb : (x == ("__debug__" : Str)) = false := by decide) (he : starEach (e :: es) X.env = (false, eval e X.env) :: starEach es X.env := by rfl) (hpl : (backTo pos (starEach es X.env)).any (·.1) = false := by rfl) :
    PE X (.Call (.Name x p) (e :: es) [] pos) (tCall sp dvs E t) := ⟨fun pins s σ H Q I h =>
  wpAny_Call_Name_kw (ld_glob I hg hm (PySem.W.callWith_K (h₀ := X.base) I.ok.mod.kin hk (thn (ha.run pos pins s σ H _ I h) fun us s1 ⟨vs, H1, I1, r, q⟩ => ⟨I1.kIn, rung_fn F hr ng hb hd hx I1 r q⟩) he hpl) hdb)⟩
theorem peg_meth {pl : Sem Bool} (he : PE X o ta) (c : Cls X.K C) (hm : Meth X.K C m f) (F : FnG X.prog X.w X.K X.mg X.base CX k f fd ps sp) (hr : Room k X.A) (ng : NoG X.A) (hb : Binds X.K fd ps ds) (hd : Vals dvs ds) (hx : Passes CX X E) (ha : PA X (e :: es) t)
    (hst : starEach (e :: es) X.env = (false, eval e X.env) :: starEach es X.env := by rfl) (hpl : (backTo pos (starEach es X.env)).any (·.1) = false := by rfl)
    (ht : eval (.Call (.Attribute o m apos) (e :: es) [] pos) X.env = (do
      let ov ← eval o X.env
      standAt apos.atName
      let (f, first) ← holding [ov] (getMethod ov m pl)
      callWith pos f first (backTo pos (starEach (e :: es) X.env)) (backToKw pos (keywordEach [] X.env))) := by rfl) :
    PE X (.Call (.Attribute o m apos) (e :: es) [] pos) (tMeth C m sp dvs E ta t) := ⟨fun pins s σ H Q I h =>
  PySem.W.methodCall_KW (pl := pl) (thn (he.run pins s σ H _ I h) fun u s1 ⟨x, H1, I1, rx, a, dx, fs, ex, ea, l, q⟩ => by
    subst ex
    cases (show u = Value.ref a from rx)
    exact getmeth_ok I1 ea c hm l (PySem.W.callWith_K (first := [.ref a]) (h₀ := X.base) I.ok.mod.kin hm.kp (thn (ha.run pos pins s1 σ H1 _ I1 q) fun us s2 ⟨vs, H2, I2, r, q2⟩ =>
      ⟨I2.kIn, rung_fn (us := .ref a :: us) (vs := .ref a :: vs) F hr ng hb hd hx I2 (.cons rfl r) q2⟩) hst hpl)) ht⟩
theorem rung_fnk {pins : List (Addr × Obj)} {σ : St} {H : Hp} {s : Shared} {Q : VK} {us ws : List Value} {vs zs : List V} (F : FnG X.prog X.w X.K X.mg X.base CX k f fd ps sp) (hr : Room k X.A) (ng : NoG X.A) (hb : KBn X.K fd ps n ks g gV) (hx : Passes CX X E)
    (I : Inv X pins σ H s) (r : Vals vs us) (rz : Vals zs ws) (l1 : vs.length = n) (l2 : zs.length = ks.length) (h : sp (gV vs zs) H Q E) : wpAny (model X.prog X.w) X.A (call (.ref f) us (ks.zip ws)) (EP X pins σ Q) X.xe s :=
  wpAny_call (codeAny_mono (F.run X.A X.stack s H ⟨us, ks.zip ws⟩ (g us ws) (gV vs zs) Q E hr ng I.env0 (hb.to s us ws I.kIn (r.length.symm.trans l1) (rz.length.symm.trans l2)) (hb.rel r rz) h) fun r s' hq => by
    cases r with
    | error e => exact hx pins σ _ _ e s' I hq
    | ok fl =>
      cases fl with
      | ret u => exact I.after hq
      | next => exact False.elim hq
      | brk => exact False.elim hq
      | cont => exact False.elim hq)
theorem gprop_ok {dx a : Addr} {fs : List (Str × V)} {pins : List (Addr × Obj)} {σ : St} {H : Hp} {s : Shared} {Q : VK} {b : Bool} {E' : Value → Shared → Prop} (I : Inv X pins σ H s) (ea : H a = some (.ins C dx fs)) (c : Cls X.K C) (hp : PropOf X.K C fl pa f)
    (F : FnG X.prog X.w X.K X.mg X.base CX k f fd ps sp) (hr : Room (k + 1) X.A) (ng : NoG X.A) (hb : Binds X.K fd ps ds) (hd : Vals dvs ds) (hx : Passes CX X.nox E) (h : sp (.ref a :: dvs) H Q E) :
    wpAny (model X.prog X.w) X.A (getAttr (.ref a) fl b) (EP X pins σ Q) E' s := by
  obtain ⟨mA, O, _, _, _, _⟩ := ins_get I.hok ea
  obtain ⟨od, J, _⟩ := O.look
  obtain ⟨rest, hrec⟩ := hp.rec_
  have I1 := I.tok (s.toks + 1)
  have hl : ([Value.ref a] ++ ds).length = ps.length := by
    have e := F.len _ _ _ _ h
    rw [List.length_cons, hd.length] at e
    rw [← e, List.length_append, List.length_cons, List.length_nil]
    omega
  have hc : (PySem.W.clsIn X.K C).isSome = true := by
    obtain ⟨cd, hc, _⟩ := PySem.W.any_some c.hd
    rw [hc]; rfl
  refine PySem.W.get_bind I.kIn J (PySem.W.plainGet_of (c.get fl)).1 (PySem.W.findObj_data hc hp.at_ hp.get hp.tak) (PySem.W.plainGet_of (c.get fl)).2 (wpAny_call (PySem.W.prop_get (s := { s with toks := s.toks + 1 }) I.kIn hrec ?_))
  refine codeAny_mono (F.run X.A.in1 X.stack { s with toks := s.toks + 1 } H ⟨[.ref a], []⟩ (.ref a :: ds) (.ref a :: dvs) Q E hr.in1 ng.in1 I1.env0.in1 (hb _ [.ref a] I1.kIn hl) (.cons rfl hd) h) fun r s' hq => ?_
  cases r with
  | error er => exact False.elim (hx pins σ H { s with toks := s.toks + 1 } er s' (I1.wish _) hq)
  | ok fl =>
    cases fl with
    | ret u =>
      obtain ⟨v, H', I3, rv, q3⟩ := I1.after hq
      show wpAny _ _ (handedOut u) _ _ _
      rw [PySem.W.handedOut_of (handed_of rv)]
      exact wpAny_pure ⟨v, H', I3, rv, q3⟩
    | next => exact False.elim hq
    | brk => exact False.elim hq
    | cont => exact False.elim hq
theorem peg_prop (he : PE X e ta) (c : Cls X.K C) (hp : PropOf X.K C fl pa f) (F : FnG X.prog X.w X.K X.mg X.base CX k f fd ps sp) (hr : Room (k + 1) X.A) (ng : NoG X.A) (hb : Binds X.K fd ps ds) (hd : Vals dvs ds) (hx : Passes CX X.nox E)
    (hab : attributeBase e fl X.env (eval e X.env) = eval e X.env) : PE X (.Attribute e fl pos) (tProp C sp dvs E ta) := ⟨fun pins s σ H Q I h =>
  attr_of hab (thn (he.run pins s σ H _ I h) fun u s1 ⟨x, H1, I1, rx, a, dx, fs, ex, ea, q⟩ => by
    subst ex
    cases (show u = Value.ref a from rx)
    exact gprop_ok I1 ea c hp F hr ng hb hd hx q)⟩
theorem rung_makeK {pins : List (Addr × Obj)} {σ : St} {H : Hp} {s : Shared} {Q : VK} {us ws : List Value} {vs zs : List V} (M : Mk X.K C f) (F : FnG X.prog X.w X.K X.mg X.base CX k f fd ps sp) (hr : Room (k + 1) X.A) (ng : NoG X.A) (hb : KBn X.K fd ps (n + 1) ks g gV) (hx : Passes CX X E)
    (I : Inv X pins σ H s) (r : Vals vs us) (rz : Vals zs ws) (l1 : vs.length = n) (l2 : zs.length = ks.length)
    (h : ∀ x dx, H x = none → H dx = none → dx ≠ x → sp (gV (.ref x :: vs) zs) (upd (upd H dx (.own x)) x (.ins C dx [])) (fun v H2 => v = .non ∧ Q (.ref x) H2) E) :
    wpAny (model X.prog X.w) X.A (call (.ref C) us (ks.zip ws)) (EP X pins σ Q) X.xe s := by
  have hq := h (s.heap.objs.size + 1) s.heap.objs.size (I.hok.fresh (Nat.le_succ _)) (I.hok.fresh (Nat.le_refl _)) (Nat.ne_of_lt (Nat.lt_succ_self _))
  have I2 := Inv.made (C := C) I
  have r1 : Vals (V.ref (s.heap.objs.size + 1) :: vs) (Value.ref (s.heap.objs.size + 1) :: us) := .cons rfl r
  have n1 : (Value.ref (s.heap.objs.size + 1) :: us).length = n + 1 := by rw [List.length_cons, ← r.length, l1]
  exact wpAny_call (make_map (f := f) I.kIn M.makes M.init (beq_iff_eq.mp M.fn) (codeAny_mono (F.run _ X.stack _ _ ⟨Value.ref (s.heap.objs.size + 1) :: us, ks.zip ws⟩ (g (Value.ref (s.heap.objs.size + 1) :: us) ws) _ _ E (hr.make C us (ks.zip ws)) (ng.make C us (ks.zip ws))
    (I2.env0.make C us (ks.zip ws)) (hb.to _ (Value.ref (s.heap.objs.size + 1) :: us) ws I2.kIn n1 (rz.length.symm.trans l2)) (hb.rel r1 rz) hq) fun r s' hq => by
    cases r with
    | error e => exact hx pins σ _ _ e s' I2 hq
    | ok fl =>
      cases fl with
      | ret u =>
        obtain ⟨v, H', I3, rv, ev, q3⟩ := I2.after hq
        subst ev
        exact ⟨rv, ⟨V.ref (s.heap.objs.size + 1), H', I3, rfl, q3⟩⟩
      | next => exact False.elim hq
      | brk => exact False.elim hq
      | cont => exact False.elim hq))
theorem peg_makeK0 (M : Mk X.K C f) (F : FnG X.prog X.w X.K X.mg X.base CX k f fd ps sp) (hr : Room (k + 1) X.A) (ng : NoG X.A) (hg : Gl X x) (hm : X.mg x = some (.ref C)) (hb : KBn X.K fd ps 1 ks g gV) (hx : Passes CX X E) (hkw : PK X kws tk)
    (hall : (backToKw pos (keywordEach kws X.env)).all (·.1.isSome) = true := by rfl) (hks : (backToKw pos (keywordEach kws X.env)).filterMap (·.1) = ks := by rfl) (hdb : (x == ("__debug__" : Str)) = false := by decide)
    (hpl : ((backTo pos (starEach [] X.env)).any (·.1) || (backToKw pos (keywordEach kws X.env)).any (·.1.isNone)) = false := by rfl) :
    PE X (.Call (.Name x p) [] kws pos) (tMakeK C 0 ks.length sp gV E tNil tk) := ⟨fun pins s σ H Q I h =>
  wpAny_Call_Name_kw (ld_glob I hg hm (PySem.W.callWith_KW0 (h₀ := X.base) I.ok.mod.kin M.kp hall (thn (hkw.run pos pins s σ H _ I h) fun ws s2 ⟨zs, H2, I2, rz, l1, l2, q2⟩ => ⟨I2.kIn, by rw [hks]; exact rung_makeK (us := []) (vs := []) M F hr ng hb hx I2 .nil rz rfl l2 q2⟩) hpl) hdb)⟩
theorem peg_makeK (M : Mk X.K C f) (F : FnG X.prog X.w X.K X.mg X.base CX k f fd ps sp) (hr : Room (k + 1) X.A) (ng : NoG X.A) (hg : Gl X x) (hm : X.mg x = some (.ref C)) (hb : KBn X.K fd ps (n + 1) ks g gV) (hx : Passes CX X E) (ha : PA X (e :: es) t) (hkw : PK X kws tk)
    (hall : (backToKw pos (keywordEach kws X.env)).all (·.1.isSome) = true := by rfl) (hks : (backToKw pos (keywordEach kws X.env)).filterMap (·.1) = ks := by rfl) (hdb : (x == ("__debug__" : Str)) = false := by decide)
    (he : starEach (e :: es) X.env = (false, eval e X.env) :: starEach es X.env := by rfl) (hpl : ((backTo pos (starEach (e :: es) X.env)).any (·.1) || (backToKw pos (keywordEach kws X.env)).any (·.1.isNone)) = false := by rfl) :
    PE X (.Call (.Name x p) (e :: es) kws pos) (tMakeK C n ks.length sp gV E t tk) := ⟨fun pins s σ H Q I h =>
  wpAny_Call_Name_kw (ld_glob I hg hm (PySem.W.callWith_KW (h₀ := X.base) I.ok.mod.kin M.kp hall (thn (ha.run pos pins s σ H _ I h) fun us s1 ⟨vs, H1, I1, r, q⟩ =>
    thn (hkw.run pos pins s1 σ H1 _ I1 q) fun ws s2 ⟨zs, H2, I2, rz, l1, l2, q2⟩ => ⟨I2.kIn, by rw [hks]; exact rung_makeK M F hr ng hb hx I2 r rz l1 l2 q2⟩) hpl he) hdb)⟩
theorem rung_make {pins : List (Addr × Obj)} {σ : St} {H : Hp} {s : Shared} {Q : VK} {us : List Value} {vs : List V} (M : Mk X.K C f) (F : FnG X.prog X.w X.K X.mg X.base CX k f fd ps sp) (hr : Room (k + 1) X.A) (ng : NoG X.A) (hb : Binds X.K fd ps ds) (hd : Vals dvs ds) (hx : Passes CX X E)
    (I : Inv X pins σ H s) (r : Vals vs us)
    (h : ∀ x dx, H x = none → H dx = none → dx ≠ x → sp (.ref x :: (vs ++ dvs)) (upd (upd H dx (.own x)) x (.ins C dx [])) (fun v H2 => v = .non ∧ Q (.ref x) H2) E) :
    wpAny (model X.prog X.w) X.A (call (.ref C) us) (EP X pins σ Q) X.xe s := by
  have hq := h (s.heap.objs.size + 1) s.heap.objs.size (I.hok.fresh (Nat.le_succ _)) (I.hok.fresh (Nat.le_refl _)) (Nat.ne_of_lt (Nat.lt_succ_self _))
  have I2 := Inv.made (C := C) I
  have r2 : Vals (V.ref (s.heap.objs.size + 1) :: (vs ++ dvs)) (Value.ref (s.heap.objs.size + 1) :: (us ++ ds)) := .cons rfl (r.append hd)
  have hl : (Value.ref (s.heap.objs.size + 1) :: us ++ ds).length = ps.length := by
    have e := r2.length
    rw [F.len _ _ _ _ hq] at e
    exact e.symm
  exact wpAny_call (make_map (f := f) I.kIn M.makes M.init (beq_iff_eq.mp M.fn) (codeAny_mono (F.run _ X.stack _ _ ⟨Value.ref (s.heap.objs.size + 1) :: us, []⟩ (Value.ref (s.heap.objs.size + 1) :: (us ++ ds)) _ _ E (hr.make C us []) (ng.make C us [])
    (I2.env0.make C us []) (hb _ (Value.ref (s.heap.objs.size + 1) :: us) I2.kIn hl) r2 hq) fun r s' hq => by
    cases r with
    | error e => exact hx pins σ _ _ e s' I2 hq
    | ok fl =>
      cases fl with
      | ret u =>
        obtain ⟨v, H', I3, rv, ev, q3⟩ := I2.after hq
        subst ev
        exact ⟨rv, ⟨V.ref (s.heap.objs.size + 1), H', I3, rfl, q3⟩⟩
      | next => exact False.elim hq
      | brk => exact False.elim hq
      | cont => exact False.elim hq))
theorem peg_make (M : Mk X.K C f) (F : FnG X.prog X.w X.K X.mg X.base CX k f fd ps sp) (hr : Room (k + 1) X.A) (ng : NoG X.A) (hg : Gl X x) (hm : X.mg x = some (.ref C)) (hb : Binds X.K fd ps ds) (hd : Vals dvs ds) (hx : Passes CX X E)
    (ha : PA X (e :: es) t) (hdb : (x == ("__debug__" : Str)) = false := by decide) (he : starEach (e :: es) X.env = (false, eval e X.env) :: starEach es X.env := by rfl) (hpl : (backTo pos (starEach es X.env)).any (·.1) = false := by rfl) :
    PE X (.Call (.Name x p) (e :: es) [] pos) (tMake C sp dvs E t) := ⟨fun pins s σ H Q I h =>
  wpAny_Call_Name_kw (ld_glob I hg hm (PySem.W.callWith_K (h₀ := X.base) I.ok.mod.kin M.kp (thn (ha.run pos pins s σ H _ I h) fun us s1 ⟨vs, H1, I1, r, q⟩ => ⟨I1.kIn, rung_make M F hr ng hb hd hx I1 r q⟩) he hpl) hdb)⟩
end
theorem fnG_ofC {CX : CXT} {P : Program} {w : World} {K : PySem.W.Frag} {mg : Str → Option Value} {base : Heap} {x qual : Str} {params : Arguments} {body : List Stmt} {scope : Scope} {dvs : List V} {kws : List (Str × V)} {f : Addr} {fd : FuncData} {N ps : List Str} {k : Nat} {sp : Sp}
    (F : FunD K x qual params body scope dvs kws f fd) (S : FnScope N ps scope) (len : ∀ vs H Q E, sp vs H Q E → vs.length = ps.length)
    (hbody : ∀ (cdv : Value), fd.code = cdv → ∀ (A : Around) (outer : List Env) (s : Shared) (H : Hp) (vs : List V) (Q : VK) (E : XK), Room k (A.deeper (envOfC qual scope s.heap.objs.size f cdv)) → NoG (A.deeper (envOfC qual scope s.heap.objs.size f cdv)) → sp vs H Q E →
      ∃ t, PSs (cxOf CX P w K mg base N qual scope f cdv A outer s H E) body t ∧ t { nx := fun _ H' => Q .non H', rt := Q } (L2.start N vs) H) : FnG P w K mg base CX (k + 1) f fd ps sp := by
  obtain ⟨oc, od, dV, kV, doc, pm, an, cdv, ct, osl, rfl, lk, hcd, _, _⟩ := F.ex
  refine ⟨len, fun A outer s H args us vs Q E hr hg e0 hb r hsp => ?_⟩
  have hl := len _ _ _ _ hsp
  have KX : K.In s.heap := e0.mod.kin.keeps fun b o e => (e0.bs b o e).1
  have lim : s.heap.NoLimit := e0.mod.nolimit.keeps fun b o e => (e0.bs b o e).1
  have hkind : ∀ y ∈ ps.zip us, scope.names.lookup y.1 = some .local ∨ (scope.names.lookup y.1 = some .cell ∧ ((cellsFrom (s.heap.objs.size + 1) scope.names []).lookup y.1).isSome = true) := fun ⟨n, v⟩ hy => by
    rcases S.par n (List.of_mem_zip hy).1 with q | q
    · exact .inl q
    · exact .inr ⟨q, PySem.W.cellsFrom_some _ _ _ (.inl q)⟩
  refine codeAny_call_function hr.depth (KX _ _ lk) rfl S.co S.gen rfl (PySem.W.codeRec_of KX hcd) (hb _ _ _ _ (wpAny_newFunctionEnv_cells S.kind hkind fun env he s1 x1 => ?_))
  subst he
  refine ⟨lim.keeps x1.toInCall.keep, codeAny_func ?_⟩
  obtain ⟨t, ht, hq⟩ := hbody cdv rfl A outer s H vs Q E (hr.deeper _) (hg.deeper _) hsp
  refine wpAny_mono (ht.run [] s1 (L2.start N vs) H _ (inv_start S hr.hd e0 hl r x1) hq) (fun fl s' hs => ?_) fun e s' hs => hs
  cases fl with
  | ret u => obtain ⟨v, σ', H', J, rv, q⟩ := hs; exact ⟨v, H', J.os, J.bare, J.base, J.hok, rv, q⟩
  | next => obtain ⟨σ', H', J, q⟩ := hs; exact ⟨V.non, H', J.os, J.bare, J.base, J.hok, rfl, q⟩
  | brk => obtain ⟨_, _, _, q⟩ := hs; exact False.elim q
  | cont => obtain ⟨_, _, _, q⟩ := hs; exact False.elim q
theorem fnG_of {CX : CXT} {P : Program} {w : World} {K : PySem.W.Frag} {mg : Str → Option Value} {base : Heap} {x qual : Str} {params : Arguments} {body : List Stmt} {scope : Scope} {dvs : List V} {kws : List (Str × V)} {f : Addr} {fd : FuncData} {N ps : List Str} {k : Nat} {sp : Sp}
    (F : FunD K x qual params body scope dvs kws f fd) (S : FnScope N ps scope) (len : ∀ vs H Q E, sp vs H Q E → vs.length = ps.length)
    (hbody : ∀ (cdv : Value) (A : Around) (outer : List Env) (s : Shared) (H : Hp) (vs : List V) (Q : VK) (E : XK), Room k (A.deeper (envOfC qual scope s.heap.objs.size f cdv)) → NoG (A.deeper (envOfC qual scope s.heap.objs.size f cdv)) → sp vs H Q E →
      ∃ t, PSs (cxOf CX P w K mg base N qual scope f cdv A outer s H E) body t ∧ t { nx := fun _ H' => Q .non H', rt := Q } (L2.start N vs) H) : FnG P w K mg base CX (k + 1) f fd ps sp :=
  fnG_ofC F S len fun cdv _ => hbody cdv
end DL
end
section
namespace DL
open PySem PySem.Spec PyProof.Rows L2
def PostR (K : PySem.W.Frag) (E : XK) (G : Gh) (Q : VK) : Rf → Prop
  | .ok d rs => ∀ v H' G', G.le G' → RelX K G' H' rs → Den K G'.Hs d v → Q v H'
  | .exc c fs rs => PostX K E G c fs rs
  | .bad => False
def spD (K : PySem.W.Frag) (n : Nat) (m : Mir) : Sp := fun vs H Q E => vs.length = n ∧ ∃ G ds rs, RelX K G H rs ∧ DenL K G.Hs ds vs ∧ PostR K E G Q (m ds rs)
def isRs (Hs : Hp) (rs : Option Rs) (a : Addr) : Prop := ∃ r, rs = some r ∧ (r.has a ∨ tgA Hs r.r0 a)
noncomputable instance isRsDec (Hs : Hp) (rs : Option Rs) (a : Addr) : Decidable (isRs Hs rs a) := Classical.propDecidable _
noncomputable def callGh (G : Gh) (H : Hp) (rs : Option Rs) (Hs : Hp) : Gh := ⟨fun a => if isRs Hs rs a then none else H a, fun a => H a ≠ none ∧ Hs a = none ∧ ¬ isRs Hs rs a, Hs⟩
theorem isRs.le {Hs Hs' : Hp} {rs : Option Rs} {a : Addr} (h : isRs Hs rs a) (l : Le Hs Hs') : isRs Hs' rs a := by
  obtain ⟨r, e, h⟩ := h
  exact ⟨r, e, h.imp id fun ⟨k, q, z⟩ => ⟨k, l _ _ q, z⟩⟩
section
variable {K : PySem.W.Frag} {E : XK} {G Gc : Gh} {σ : St} {H H' : Hp} {s : S} {rs rs' : Option Rs} {Q : VK} {Hs : Hp}
theorem RelX.noRs (x : RelX K G H rs) {a : Addr} (h : isRs G.Hs rs a) : G.Fx a = none ∧ ¬ G.Dm a := by
  obtain ⟨r, e, h⟩ := h
  subst e
  have z : RsAt K G H r := x.rs
  rcases h with h | ⟨k, q, le⟩
  · obtain ⟨z1, z2, z3⟩ := z.no a h
    exact ⟨z2, z3⟩
  · exact ⟨(z.tg a k q).2.1 le, fun d => by have := x.dm a d; rw [q] at this; cases this⟩
theorem RelX.callee (x : RelX K G H rs) (hl : Le G.Hs Hs) (hh : ∀ a o, Hs a = some o → G.Hs a = none → H a = some o ∧ NoFrz o ∧ ¬ isRs G.Hs rs a) : RelX K (callGh G H rs Hs) H rs := by
  have cs : ∀ a o, Hs a = some o → G.Hs a = some o ∨ (G.Hs a = none ∧ H a = some o ∧ NoFrz o ∧ ¬ isRs G.Hs rs a) := fun a o e => by
    cases q : G.Hs a with
    | none => exact .inr ⟨rfl, hh a o e q⟩
    | some u => have := hl a u q; rw [e] at this; cases this; exact .inl rfl
  have tgs : ∀ a, isTg Hs a → isTg G.Hs a := fun a ⟨k, e⟩ => by
    rcases cs a _ e with q | ⟨_, _, q, _⟩
    · exact ⟨k, q⟩
    · exact q.elim
  have isB : ∀ a, isRs Hs rs a → isRs G.Hs rs a := fun a ⟨r, e, h⟩ => ⟨r, e, h.imp id fun ⟨k, q, le⟩ => by
    obtain ⟨k', q'⟩ := tgs a ⟨k, q⟩
    have := hl _ _ q'
    rw [q] at this; cases this
    exact ⟨k, q', le⟩⟩
  refine ⟨fun a o e => ?_, fun a o e => ?_, fun a o u e => ?_, fun a q => q.2.1, fun a q => q.1, fun a ob u e => ?_, ?_⟩
  · by_cases z : isRs Hs rs a
    · have e' : (if isRs Hs rs a then none else H a) = some o := e
      rw [if_pos z] at e'; cases e'
    · have e' : (if isRs Hs rs a then none else H a) = some o := e
      rw [if_neg z] at e'; exact e'
  · rcases cs a o e with q | ⟨_, q, _⟩
    · exact x.hs a o q
    · exact .inl q
  · rcases cs a _ e with q | ⟨_, _, q, _⟩
    · exact x.ba _ _ _ q
    · exact q.tup
  · intro nt
    show (if isRs Hs rs a then none else H a) = _
    rw [if_neg]
    · exact e
    · intro ir
      have := x.lo a ob u e nt
      rw [(x.noRs (isB a ir)).1] at this; cases this
  · cases rs with
    | none => trivial
    | some r =>
      have z : RsAt K G H r := x.rs
      have hn : ∀ a, r.has a → Hs a = none := fun a i => by
        cases q : Hs a with
        | none => rfl
        | some o =>
          rcases cs a o q with y | ⟨_, _, _, y⟩
          · rw [(z.no a i).1] at y; cases y
          · exact absurd ⟨r, rfl, .inl i⟩ y
      exact z.re (fun _ _ => rfl) hl (fun a h => by
        have i1 : isRs Hs (some r) a := ⟨r, rfl, .inl h⟩
        exact ⟨hn _ h, by show (if isRs Hs (some r) a then none else H a) = none; rw [if_pos i1], fun y => y.2.2 i1⟩) ⟨fun _ _ => rfl, fun a t f => by
        have i1 : isRs Hs (some r) a := ⟨r, rfl, .inr ⟨t.choose, hl _ _ t.choose_spec.1, t.choose_spec.2⟩⟩
        show (if isRs Hs (some r) a then none else H a) = none
        rw [if_pos i1], tgs⟩
theorem call_keep {a : Addr} {o : HO} (l : (callGh G H rs Hs).le Gc) (x' : RelX K Gc H' rs') (h : H a = some o) (n : ¬ isRs Hs rs a) : H' a = some o := x'.fx a o (by
  rw [l.fx]
  show (if isRs Hs rs a then none else H a) = some o
  rw [if_neg n]; exact h)
theorem call_rsne {a : Addr} {o : HO} (l : (callGh G H rs Hs).le Gc) (x' : RelX K Gc H' rs') (h : H a = some o) (n : ¬ isRs Hs rs a) : RsNe rs' a := fun r e => by
  subst e
  have z : RsAt K Gc H' r := x'.rs
  have f : Gc.Fx a = some o := by
    rw [l.fx]
    show (if isRs Hs rs a then none else H a) = some o
    rw [if_neg n]; exact h
  exact fun y => by have := (z.no a y).2.1; rw [f] at this; cases this
theorem RelX.backC (x : RelX K G H rs) (l : (callGh G H rs G.Hs).le Gc) (x' : RelX K Gc H' rs') {Hs2 : Hp} (h1 : Sub Hs2 H') (h2 : Bare Hs2) (h3 : Hs2 = Gc.Hs) (h4 : ∀ a, G.Dm a → Hs2 a = none) : RelX K ⟨G.Fx, G.Dm, Hs2⟩ H' rs' := by
  have nRs : ∀ a, (∃ o, G.Fx a = some o) ∨ G.Dm a → ¬ isRs G.Hs rs a := fun a h i => by
    obtain ⟨q1, q3⟩ := x.noRs i
    rcases h with ⟨o, h⟩ | h
    · rw [q1] at h; cases h
    · exact q3 h
  refine ⟨fun a o e => call_keep l x' (x.fx a o e) (nRs a (.inl ⟨o, e⟩)), h1, h2, h4, fun a q => ?_, fun a ob u e => ?_, ?_⟩
  · cases e : H a with
    | none => exact absurd e (x.dh a q)
    | some o => rw [call_keep l x' e (nRs a (.inr q))]; exact fun z => nomatch z
  · intro nt
    have e1 := x'.lo a ob u e nt
    rw [l.fx] at e1
    have e2 : (if isRs G.Hs rs a then none else H a) = some (.frz ob u) := e1
    by_cases z : isRs G.Hs rs a
    · rw [if_pos z] at e2; cases e2
    · rw [if_neg z] at e2; exact x.lo a ob u e2 nt
  · cases rs' with
    | none => trivial
    | some r =>
      have z : RsAt K Gc H' r := x'.rs
      have fx : ∀ a, Gc.Fx a = none → G.Fx a = none := fun a q => by
        cases e : G.Fx a with
        | none => rfl
        | some o =>
          rw [l.fx] at q
          have q' : (if isRs G.Hs rs a then none else H a) = none := q
          rw [if_neg (nRs a (.inl ⟨o, e⟩)), x.fx a o e] at q'; cases q'
      have dm : ∀ a, Gc.Fx a = none → ¬ G.Dm a := fun a q y => by
        rw [l.fx] at q
        have q' : (if isRs G.Hs rs a then none else H a) = none := q
        rw [if_neg (nRs a (.inr y))] at q'
        exact x.dh a y q'
      exact z.re (fun _ _ => rfl) (by show Le Gc.Hs Hs2; rw [h3]; exact Le.refl _) (fun a h => ⟨by show Hs2 a = none; rw [h3]; exact (z.no a h).1, fx _ (z.no a h).2.1, dm _ (z.no a h).2.1⟩) ⟨fun _ _ => rfl, fun a _ f => fx a f, fun a t => by have t' : isTg Hs2 a := t; rw [h3] at t'; exact t'⟩
theorem Rel.notRs (r : Rel K G σ H s) {i : Nat} {d : D} {p : Addr} (hi : s.sl[i]? = some (.ow d)) (hs : OwnA G.Hs σ i d p) : ¬ isRs G.Hs s.rs p := by
  rintro ⟨q, e, h⟩
  obtain ⟨p', o, a1, _, _, _, a5, _, _, a8⟩ := r.ow i d hi
  have := a1.fn hs
  subst this
  rcases h with h | h
  · exact a8 q e h
  · exact tg_ne h.tg a5 rfl
theorem Rel.backC (r : Rel K G σ H s) (l : (callGh G H s.rs G.Hs).le Gc) (x' : RelX K Gc H' rs') {Hs2 : Hp} (h1 : Sub Hs2 H') (h2 : Bare Hs2) (h3 : Hs2 = Gc.Hs) (h4 : ∀ a, G.Dm a → Hs2 a = none) (h5 : Le G.Hs Hs2)
    (h6 : ∀ (i : Nat) (d : D) (p : Addr), s.sl[i]? = some (.ow d) → OwnA G.Hs σ i d p → Hs2 p = none) (h7 : ∀ q, s.me = some q → Hs2 q.x = none) : Rel K ⟨G.Fx, G.Dm, Hs2⟩ σ H' { s with rs := rs' } := by
  refine ⟨r.x.backC l x' h1 h2 h3 h4, fun i d e => ?_, fun i d e => ?_, r.apLe h5, r.ln, ?_⟩
  · obtain ⟨v, e1, dn⟩ := r.fr i d e
    exact ⟨v, e1, dn.le h5⟩
  · obtain ⟨p, o, a1, a2, a3, a4, a5, a6, a7, a8⟩ := r.ow i d e
    have n := r.notRs e a1
    exact ⟨p, o, a1.mono h5, call_keep l x' a2 n, a3, a4.le h5, h6 i d p e a1, a6, a7, call_rsne l x' a2 n⟩
  · have w := r.me
    cases e : s.me with
    | none => trivial
    | some q =>
      rw [e] at w
      have z : MeAt K G H s.rs q := w
      obtain ⟨gs, g1, g2⟩ := z.o
      have n : ¬ isRs G.Hs s.rs q.x := fun ⟨y, ey, h⟩ => h.elim (z.nr y ey) fun h => tg_ne h.tg z.ns rfl
      exact ⟨⟨gs, call_keep l x' g1 n, g2.le h5⟩, h7 q e, z.nf, z.nd, call_rsne l x' g1 n⟩
theorem RelX.callee0 (x : RelX K G H rs) : RelX K (callGh G H rs G.Hs) H rs := x.callee (Le.refl _) fun a o e n => by rw [e] at n; cases n
theorem Rel.back0 (r : Rel K G σ H s) (l : (callGh G H s.rs G.Hs).le Gc) (x' : RelX K Gc H' rs') : Rel K (G.wh Gc) σ H' { s with rs := rs' } ∧ G.le (G.wh Gc) := by
  have dm : ∀ a, H a ≠ none → G.Hs a = none → ¬ isRs G.Hs s.rs a → Gc.Hs a = none := fun a h1 h2 h3 => x'.dm a (by rw [l.dm]; exact ⟨h1, h2, h3⟩)
  refine ⟨r.backC l x' x'.hs x'.ba rfl (fun a q => dm a (r.x.dh a q) (r.x.dm a q) fun i => (r.x.noRs i).2 q) l.hs (fun i d p e1 e2 => ?_) (fun q e => ?_), ⟨rfl, rfl, l.hs⟩⟩
  · obtain ⟨p', o, a1, a2, _, _, a5, _⟩ := r.ow i d e1
    have := a1.fn e2
    subst this
    exact dm p' (by rw [a2]; exact fun z => nomatch z) a5 (r.notRs e1 e2)
  · have w := r.me
    rw [e] at w
    have z : MeAt K G H s.rs q := w
    obtain ⟨gs, g1, g2⟩ := z.o
    exact dm q.x (by rw [g1]; exact fun z => nomatch z) z.ns fun ⟨y, ey, h⟩ => h.elim (z.nr y ey) fun h => tg_ne h.tg z.ns rfl
end
def doCall (m : Mir) (ds : List D) : M A := fun s => match m ds s.rs with
  | .ok d rs => .ok (.d d) { s with rs := rs }
  | .exc c fs rs => .exc c fs { s with rs := rs }
  | .bad => .bad
theorem XDen.back {K : PySem.W.Frag} {G Gc : Gh} {H H' : Hp} {rs : Option Rs} {fs : Option (List (Str × D))} {od : Option Addr} (r : RelX K G H rs) (l : (callGh G H rs G.Hs).le Gc) (xd : XDen K Gc H' fs od) : XDen K (G.wh Gc) H' fs od := by
  cases fs with
  | none => exact xd
  | some fs =>
    obtain ⟨d, gs, e, h1, h2, h3⟩ := xd
    exact ⟨d, gs, e, h1, ⟨fun q => h2.1 (by rw [l.dm]; exact ⟨r.dh d q, r.dm d q, fun i => (r.noRs i).2 q⟩), h2.2⟩, h3⟩
theorem Rel.call {K : PySem.W.Frag} {E : XK} {G : Gh} {σ : St} {H : Hp} {s : S} {Q : VK} {m : Mir} {ds : List D} {vs : List V} {n : Nat} (r : Rel K G σ H s) (dl : DenL K G.Hs ds vs) (hn : vs.length = n) (h : PostE K E G σ Q (doCall m ds s)) : spD K n m vs H Q E := by
  refine ⟨hn, callGh G H s.rs G.Hs, ds, s.rs, r.x.callee0, dl, ?_⟩
  unfold doCall at h
  cases q : m ds s.rs with
  | bad => rw [q] at h; exact h
  | ok d rs' =>
    rw [q] at h
    intro v H' Gc l x' dn
    obtain ⟨r', l'⟩ := r.back0 l x'
    exact h v H' _ l' r' dn
  | exc c fs rs' =>
    rw [q] at h
    intro H' Gc od l x' xd
    obtain ⟨r', l'⟩ := r.back0 l x'
    exact h H' _ od l' r'.x (xd.back r.x l)
def gCall (m : Mir) (dds : List D) (gs : M (List A)) : M A := bnd gs fun as => bnd (forceL as) fun ds => doCall m (ds ++ dds)
section
variable {X : Cx} {E : XK} {k : Nat} {f C : Addr} {fd : FuncData} {ps : List Str} {m : Mir} {dvs : List V} {dds : List D} {dus : List Value} {x mn : Str} {p pos apos : Pos} {e o : Expr} {es : List Expr} {ga : M A} {gs : M (List A)} {n n1 : Nat}
theorem d_call {K : PySem.W.Frag} {σ : St} {H : Hp} {Q : VK} (hdd : ∀ Hs, DenL K Hs dds dvs) (hl : LenA n1 gs) (hn : n1 + dvs.length = n) (h : tD K E (gCall m dds gs) σ H Q) : tCall (spD K n m) dvs E (tA K E gs) σ H Q := by
  obtain ⟨G, s, r, h⟩ := h
  have h0 : PostE K E G σ Q (bnd gs (fun as => bnd (forceL as) fun ds => doCall m (ds ++ dds)) s) := h
  refine ⟨G, s, r, ?_⟩
  unfold bnd at h0
  cases q : gs s with
  | exc c fs s1 => rw [q] at h0; exact h0
  | bad => rw [q] at h0; exact h0
  | ok as s1 =>
    rw [q] at h0
    intro vs H1 G1 l r1 ad
    obtain ⟨ds, s2, G2, l2, r2, d2, h2⟩ := stepForceL (P := fun G => PostE K E G σ Q) ipE (ipE.mono h0 l) r1 ad
    exact r2.call (d2.append (hdd _)) (by rw [List.length_append, ad.len, hl _ _ _ q, hn]) h2
theorem de_call (F : FnG X.prog X.w X.K X.mg X.base (L2.CX X.prog X.w) k f fd ps (spD X.K n m)) (hr : Room k X.A) (ng : NoG X.A) (hg : Gl X x) (hm : X.mg x = some (.ref f)) (hk : PySem.W.keepIn X.K (.ref f) = true) (hb : Binds X.K fd ps dus) (hd : Vals dvs dus) (hdd : ∀ Hs, DenL X.K Hs dds dvs)
    (hx : Passes (L2.CX X.prog X.w) X E) (ha : DA X E (e :: es) gs) (hl : LenA n1 gs) (hn : n1 + dvs.length = n := by rfl) (hdb : (x == ("__debug__" : Str)) = false := by decide) (he : starEach (e :: es) X.env = (false, eval e X.env) :: starEach es X.env := by rfl)
    (hpl : (backTo pos (starEach es X.env)).any (·.1) = false := by rfl) : DE X E (.Call (.Name x p) (e :: es) [] pos) (gCall m dds gs) := (peg_call F hr ng hg hm hk hb hd hx ha hdb he hpl).imp fun σ H Q h => d_call hdd hl hn h
def isIns (c : Str) : D → Bool
  | .ins c' _ => decide (c' = c)
  | _ => false
def okM (c mn : Str) : D → Bool
  | .ins c' fs => decide (c' = c) && (fs.lookup mn).isNone
  | _ => false
def getF (c f : Str) : D → Option D
  | .ins c' fs => if c' = c then fs.lookup f else none
  | _ => none
def gMeth (c mn : Str) (m : Mir) (dds : List D) (ga : M A) (gs : M (List A)) : M A := bnd ga fun a => bnd (force a) fun d0 => if okM c mn d0 = true then bnd gs fun as => bnd (forceL as) fun ds => doCall m (d0 :: (ds ++ dds)) else bad
def gProp (c : Str) (m : Mir) (ga : M A) : M A := bnd ga fun a => bnd (force a) fun d0 => if isIns c d0 = true then fun s => match m [d0] s.rs with
  | .ok d rs => .ok (.d d) { s with rs := rs }
  | _ => .bad else bad
def gFld (c f : Str) (ga : M A) : M A := bnd ga fun a => bnd (pk a) fun d0 => match getF c f d0 with
  | some d => pur (.d d)
  | none => bad
theorem DenF.look {K : PySem.W.Frag} {Hs : Hp} {f : Str} : ∀ {fs : List (Str × D)} {gs : List (Str × V)}, DenF K Hs fs gs → (∀ d, fs.lookup f = some d → ∃ v, gs.lookup f = some v ∧ Den K Hs d v) ∧ (fs.lookup f = none → gs.lookup f = none)
  | [], gs, h => by
    unfold DenF at h; subst h
    exact ⟨fun d e => (by cases e), fun _ => rfl⟩
  | (k, d0) :: fs, gs, h => by
    unfold DenF at h
    obtain ⟨v, r, rfl, h1, h2⟩ := h
    have ih := DenF.look (f := f) h2
    simp only [List.lookup]
    cases e : f == k with
    | true => exact ⟨fun d q => ⟨v, rfl, (by cases q; exact h1)⟩, fun q => (by cases q)⟩
    | false => exact ih
theorem de_fld {c fl : Str} (he : DE X E e ga) (T : Cls X.K (He.ga X.K c)) (nf : NoAttr X.K (He.ga X.K c) fl) (hb : attributeBase e fl X.env (eval e X.env) = eval e X.env := by rfl) : DE X E (.Attribute e fl pos) (gFld c fl ga) := (pe_fld he hb).imp fun σ H Q ⟨G, s, r, h⟩ =>
  stepE ipE h r fun v H1 G1 a s1 l1 r1 ad h1 => by
    obtain ⟨d, e1, h2⟩ := stepPk ipE h1
    have dn := r1.peek ad e1
    cases d with
    | ins c' fs =>
      have g : getF c fl (.ins c' fs) = if c' = c then fs.lookup fl else none := rfl
      by_cases ec : c' = c
      · subst ec
        rw [if_pos rfl] at g
        rw [g] at h2
        cases q : fs.lookup fl with
        | none => rw [q] at h2; exact h2.elim
        | some x =>
          rw [q] at h2
          unfold DenH Den at dn
          obtain ⟨p, dx, gs, rfl, hp0, df⟩ := dn
          have hp := sub_raw r1.x.hs hp0 fun z => z
          obtain ⟨w, e3, dw⟩ := df.look.1 x q
          exact ⟨p, _, dx, gs, w, rfl, hp, T, nf, e3, h2 w H1 G1 (.refl G1) r1 dw⟩
      · rw [if_neg ec] at g
        rw [g] at h2; exact h2.elim
    | _ => exact h2.elim
theorem de_meth {pl : Sem Bool} {c : Str} (ho : DE X E o ga) (T : Cls X.K (He.ga X.K c)) (hm : Meth X.K (He.ga X.K c) mn f) (F : FnG X.prog X.w X.K X.mg X.base (L2.CX X.prog X.w) k f fd ps (spD X.K n m)) (hr : Room k X.A) (ng : NoG X.A) (hb : Binds X.K fd ps dus) (hd : Vals dvs dus) (hdd : ∀ Hs, DenL X.K Hs dds dvs)
    (hx : Passes (L2.CX X.prog X.w) X E) (ha : DA X E (e :: es) gs) (hl : LenA n1 gs) (hn : n1 + 1 + dvs.length = n := by rfl) (hst : starEach (e :: es) X.env = (false, eval e X.env) :: starEach es X.env := by rfl) (hpl : (backTo pos (starEach es X.env)).any (·.1) = false := by rfl)
    (ht : eval (.Call (.Attribute o mn apos) (e :: es) [] pos) X.env = (do
      let ov ← eval o X.env
      standAt apos.atName
      let (f, first) ← holding [ov] (getMethod ov mn pl)
      callWith pos f first (backTo pos (starEach (e :: es) X.env)) (backToKw pos (keywordEach [] X.env))) := by rfl) :
    DE X E (.Call (.Attribute o mn apos) (e :: es) [] pos) (gMeth c mn m dds ga gs) := (peg_meth ho T hm F hr ng hb hd hx ha hst hpl ht).imp fun σ H Q ⟨G, s, r, h⟩ =>
  stepE ipE h r fun v H1 G1 a s1 l1 r1 ad h1 => by
    obtain ⟨d, s2, G2, l2, r2, dn, h2⟩ := stepForce ipE h1 r1 ad
    cases d with
    | ins c' fs =>
      by_cases ok : okM c mn (.ins c' fs) = true
      · rw [if_pos ok] at h2
        have ok' : (decide (c' = c) && (fs.lookup mn).isNone) = true := ok
        simp only [Bool.and_eq_true, decide_eq_true_eq, Option.isNone_iff_eq_none] at ok'
        obtain ⟨ec, en⟩ := ok'
        subst ec
        have dn0 := dn
        unfold Den at dn
        obtain ⟨p, dx, gs', rfl, hp, df⟩ := dn
        have hp' : H1 p = some (.ins (He.ga X.K c') dx gs') := by
          rcases r2.x.hs p _ hp with z | ⟨z, _⟩ | ⟨⟨_, z⟩, _⟩
          · exact z
          · exact z.elim
          · cases z
        refine ⟨p, dx, gs', rfl, hp', df.look.2 en, ?_⟩
        refine ⟨G2, s2, r2, ?_⟩
        have h3 : PostE X.K E G2 σ Q (bnd gs (fun as => bnd (forceL as) fun ds => doCall m (.ins c' fs :: (ds ++ dds))) s2) := h2
        unfold bnd at h3
        cases q : gs s2 with
        | exc c fs s1 => rw [q] at h3; exact h3
        | bad => rw [q] at h3; exact h3
        | ok as s3 =>
          rw [q] at h3
          intro vs H3 G3 l3 r3 ad3
          obtain ⟨ds, s4, G4, l4, r4, d4, h4⟩ := stepForceL (P := fun G => PostE X.K E G σ Q) ipE (ipE.mono h3 l3) r3 ad3
          refine r4.call (.cons ((dn0.le l3.hs).le l4.hs) (d4.append (hdd _))) ?_ h4
          rw [List.length_cons, List.length_append, ad3.len, hl _ _ _ q]
          omega
      · rw [if_neg ok] at h2; exact h2.elim
    | _ => exact h2.elim
theorem de_prop {c fl : Str} {pa g : Addr} (he : DE X E e ga) (T : Cls X.K (He.ga X.K c)) (hp : PropOf X.K (He.ga X.K c) fl pa g) (F : FnG X.prog X.w X.K X.mg X.base (L2.CX X.prog X.w) k g fd ps (spD X.K 1 m)) (hr : Room (k + 1) X.A) (ng : NoG X.A) (hb : Binds X.K fd ps [])
    (hab : attributeBase e fl X.env (eval e X.env) = eval e X.env := by rfl) : DE X E (.Attribute e fl pos) (gProp c m ga) := (peg_prop (E := E00) he T hp F hr ng hb .nil passL hab).imp fun σ H Q ⟨G, s, r, h⟩ =>
  stepE ipE h r fun v H1 G1 a s1 l1 r1 ad h1 => by
    obtain ⟨d, s2, G2, l2, r2, dn, h2⟩ := stepForce ipE h1 r1 ad
    cases d with
    | ins c' fs =>
      by_cases ok : isIns c (.ins c' fs) = true
      · rw [if_pos ok] at h2
        have ec : c' = c := of_decide_eq_true ok
        subst ec
        have dn0 := dn
        unfold Den at dn
        obtain ⟨p, dx, gs', rfl, hp, df⟩ := dn
        have hp' : H1 p = some (.ins (He.ga X.K c') dx gs') := by
          rcases r2.x.hs p _ hp with z | ⟨z, _⟩ | ⟨⟨_, z⟩, _⟩
          · exact z
          · exact z.elim
          · cases z
        refine ⟨p, dx, gs', rfl, hp', ?_⟩
        refine r2.call (ds := [.ins c' fs]) (E := E00) (.cons dn0 .nil) rfl ?_
        unfold doCall
        cases q : m [.ins c' fs] s2.rs with
        | bad => rw [q] at h2; exact h2.elim
        | exc _ _ _ => rw [q] at h2; exact h2.elim
        | ok d rs' => rw [q] at h2; exact h2
      · rw [if_neg ok] at h2; exact h2.elim
    | _ => exact h2.elim
end
theorem start_rel {K : PySem.W.Frag} {G : Gh} {H : Hp} {rs : Option Rs} {N : List Str} {ds : List D} {vs : List V} (x : RelX K G H rs) (dl : DenL K G.Hs ds vs) : Rel K G (L2.start N vs) H ⟨ds.map .fr ++ List.replicate (N.length - ds.length) .no, rs, none⟩ := by
  have hl := dl.len
  refine ⟨x, fun i d e => ?_, fun i d e => ?_, fun i j d e p h1 h2 => ?_, ?_, trivial⟩
  · have e' : (ds.map Sl.fr ++ List.replicate (N.length - ds.length) Sl.no)[i]? = some (.fr d) := e
    by_cases lt : i < ds.length
    · rw [List.getElem?_append_left (by simpa using lt), List.getElem?_map] at e'
      cases q : ds[i]? with
      | none => rw [q] at e'; cases e'
      | some d' =>
        rw [q] at e'
        cases e'
        obtain ⟨v, hv, dn⟩ := dl.get q
        refine ⟨v, ?_, dn⟩
        unfold L2.start
        rw [List.getElem?_append_left (by simp; omega), List.getElem?_map, hv]
        rfl
    · rw [List.getElem?_append_right (by simpa using lt), List.getElem?_replicate] at e'
      split at e' <;> cases e'
  · have e' : (ds.map Sl.fr ++ List.replicate (N.length - ds.length) Sl.no)[i]? = some (.ow d) := e
    by_cases lt : i < ds.length
    · rw [List.getElem?_append_left (by simpa using lt), List.getElem?_map] at e'
      cases q : ds[i]? with
      | none => rw [q] at e'; cases e'
      | some d' => rw [q] at e'; cases e'
    · rw [List.getElem?_append_right (by simpa using lt), List.getElem?_replicate] at e'
      split at e' <;> cases e'
  · exfalso
    have e' : (ds.map Sl.fr ++ List.replicate (N.length - ds.length) Sl.no)[i]? = some (.ow d) := h1
    by_cases lt : i < ds.length
    · rw [List.getElem?_append_left (by simpa using lt), List.getElem?_map] at e'
      cases q : ds[i]? with
      | none => rw [q] at e'; cases e'
      | some d' => rw [q] at e'; cases e'
    · rw [List.getElem?_append_right (by simpa using lt), List.getElem?_replicate] at e'
      split at e' <;> cases e'
  · unfold L2.start
    simp [hl]
section
variable {P : Program} {w : World} {K : PySem.W.Frag} {mg : Str → Option Value} {base : Heap} {x qual : Str} {st : Stmt} {dvs : List V} {kws : List (Str × V)} {f : Addr} {fd : FuncData} {N ps : List Str} {k : Nat} {b : M Fl}
abbrev FnD (P : Program) (w : World) (K : PySem.W.Frag) (mg : Str → Option Value) (base : Heap) (k : Nat) (f : Addr) (fd : FuncData) (ps : List Str) (m : Mir) : Prop := FnG P w K mg base (L2.CX P w) k f fd ps (spD K ps.length m)
theorem fnD_of (F : FunD K x qual (defArgs st) (defBody st) (defScope st) dvs kws f fd) (S : FnScope N ps (defScope st))
    (hb : ∀ (cdv : Value) (A : Around) (outer : List Env) (s : Shared) (H : Hp) (E : XK), Room k (A.deeper (envOfC qual (defScope st) s.heap.objs.size f cdv)) → NoG (A.deeper (envOfC qual (defScope st) s.heap.objs.size f cdv)) → DSs (cxOf (L2.CX P w) P w K mg base N qual (defScope st) f cdv A outer s H E) E (defBody st) b) :
    FnD P w K mg base (k + 1) f fd ps (mk N.length b) := by
  refine fnG_of F S (fun vs H Q E h => h.1) fun cdv A outer s H vs Q E hr hg h => ⟨_, hb cdv A outer s H E hr hg, ?_⟩
  obtain ⟨_, G, ds, rs, x, dl, h⟩ := h
  refine ⟨G, _, start_rel x dl, ?_⟩
  unfold mk at h
  cases q : b ⟨ds.map .fr ++ List.replicate (N.length - ds.length) .no, rs, none⟩ with
  | bad => rw [q] at h; exact h
  | exc c fs s => rw [q] at h; exact h
  | ok fl s =>
    rw [q] at h
    cases fl with
    | nx => exact fun σ' H' G' l r' => h .non H' G' l r'.x (by unfold Den; rfl)
    | rt d => exact fun v H' G' l r' dn => h v H' G' l r' dn
    | bk => exact h.elim
    | ct => exact h.elim
end
def scEq : D → D → Option Bool
  | .non, .non => some true
  | .non, .bl _ => some false
  | .non, .int _ => some false
  | .non, .str _ => some false
  | .bl a, .bl b => some (a == b)
  | .bl a, .int b => some ((if a then 1 else 0) == b)
  | .bl _, .non => some false
  | .bl _, .str _ => some false
  | .int a, .int b => some (a == b)
  | .int a, .bl b => some (a == (if b then 1 else 0))
  | .int _, .non => some false
  | .int _, .str _ => some false
  | .str a, .str b => some (a == b)
  | .str _, .non => some false
  | .str _, .bl _ => some false
  | .str _, .int _ => some false
  | _, _ => none
def isSc : D → Bool
  | .non => true
  | .bl _ => true
  | .int _ => true
  | .str _ => true
  | _ => false
def eqAllD (f : D → D → Option Bool) : List D → List D → Option Bool
  | x :: xs, y :: ys => match f x y, eqAllD f xs ys with
    | some a, some b => some (a && b)
    | _, _ => none
  | _, _ => some true
def lookD (ks : List (Key × D)) (k : Key) : Option D := (ks.find? fun p => decide (p.1 = k)).map (·.2)
def eqKvD (f : D → D → Option Bool) (ls : List (Key × D)) : List (Key × D) → Option Bool
  | (k, d) :: r => match eqKvD f ls r with
    | none => none
    | some b => match lookD ls k with
      | none => some false
      | some e => (f d e).map fun a => a && b
  | [] => some true
def dEqN : Nat → D → D → Option Bool
  | 0, x, y => scEq x y
  | n + 1, .lst xs, .lst ys => if xs.length = ys.length then eqAllD (dEqN n) xs ys else some false
  | n + 1, .tup xs, .tup ys => (eqAllD (dEqN n) xs ys).map fun b => b && decide (xs.length = ys.length)
  | n + 1, .dic ks, .dic ls => (eqKvD (dEqN n) ls ks).map fun b => decide (ks.length = ls.length) && b
  | n + 1, .lst _, .tup _ => some false
  | n + 1, .tup _, .lst _ => some false
  | n + 1, .lst _, y => if isSc y then some false else none
  | n + 1, .tup _, y => if isSc y then some false else none
  | n + 1, x, .lst _ => if isSc x then some false else none
  | n + 1, x, .tup _ => if isSc x then some false else none
  | n + 1, x, y => scEq x y
theorem eqAllD_get {f : D → D → Option Bool} : ∀ {xs ys : List D} {b : Bool}, eqAllD f xs ys = some b → ∃ bs : List Bool, bs.length = min xs.length ys.length ∧ b = bs.all id ∧ ∀ (j : Nat) x y, xs[j]? = some x → ys[j]? = some y → ∃ c, bs[j]? = some c ∧ f x y = some c
  | [], ys, b, h => ⟨[], by simp, by unfold eqAllD at h; cases h; rfl, fun j x y e => by simp at e⟩
  | x :: xs, [], b, h => ⟨[], by simp, by unfold eqAllD at h; cases h; rfl, fun j x y _ e => by simp at e⟩
  | x :: xs, y :: ys, b, h => by
    unfold eqAllD at h
    cases q : f x y with
    | none => rw [q] at h; cases h
    | some a =>
      cases q2 : eqAllD f xs ys with
      | none => rw [q, q2] at h; cases h
      | some b2 =>
        rw [q, q2] at h
        cases h
        obtain ⟨bs, h1, h2, h3⟩ := eqAllD_get q2
        refine ⟨a :: bs, by rw [List.length_cons, List.length_cons, List.length_cons, h1]; omega, by simp [h2], fun j u v e1 e2 => ?_⟩
        cases j with
        | zero => simp at e1 e2; subst e1 e2; exact ⟨a, rfl, q⟩
        | succ j => exact h3 j u v (by simpa using e1) (by simpa using e2)
theorem lookD_mem {ks : List (Key × D)} (nd : (ks.map (·.1)).Nodup) {k : Key} {d : D} (h : (k, d) ∈ ks) : lookD ks k = some d := by
  induction ks with
  | nil => cases h
  | cons p r ih =>
    obtain ⟨k', d'⟩ := p
    unfold lookD
    rw [List.map_cons, List.nodup_cons] at nd
    by_cases e : k' = k
    · subst e
      rcases List.mem_cons.mp h with q | q
      · cases q; simp
      · exact absurd (List.mem_map.mpr ⟨_, q, rfl⟩) nd.1
    · rcases List.mem_cons.mp h with q | q
      · cases q; exact absurd rfl e
      · have := ih nd.2 q
        unfold lookD at this
        simp only [List.find?_cons]
        rw [decide_eq_false e]
        exact this
theorem eqKvD_get {f : D → D → Option Bool} {ls : List (Key × D)} : ∀ {ks : List (Key × D)} {b : Bool}, eqKvD f ls ks = some b → (∀ p ∈ ks, ∀ e, lookD ls p.1 = some e → ∃ c, f p.2 e = some c) ∧
    b = ks.all fun p => match lookD ls p.1 with
      | some e => (f p.2 e).getD true
      | none => false
  | [], b, h => ⟨fun p hp => by simp at hp, by unfold eqKvD at h; cases h; rfl⟩
  | (k, d) :: r, b, h => by
    unfold eqKvD at h
    cases q : eqKvD f ls r with
    | none => rw [q] at h; cases h
    | some b2 =>
      rw [q] at h
      obtain ⟨h1, h2⟩ := eqKvD_get q
      dsimp only at h
      cases q2 : lookD ls k with
      | none =>
        rw [q2] at h
        cases h
        refine ⟨fun p hp e he => ?_, by simp [q2]⟩
        rcases List.mem_cons.mp hp with z | z
        · subst z; rw [q2] at he; cases he
        · exact h1 p z e he
      | some e =>
        rw [q2] at h
        dsimp only at h
        cases q3 : f d e with
        | none => rw [q3] at h; cases h
        | some a =>
          rw [q3] at h
          cases h
          refine ⟨fun p hp e' he => ?_, by simp [q2, q3, h2]⟩
          rcases List.mem_cons.mp hp with z | z
          · subst z; rw [q2] at he; cases he; exact ⟨a, q3⟩
          · exact h1 p z e' he
section
variable {X : Cx} {pins : List (Addr × Obj)} {σ : St} {H Hs : Hp} {s : Shared}
theorem DenK.look {K : PySem.W.Frag} {k : Key} : ∀ {ks : List (Key × D)} {kvs : List (Key × V)}, DenK K Hs ks kvs → (∀ d, lookD ks k = some d → ∃ v, valV kvs k = some v ∧ Den K Hs d v) ∧ (lookD ks k = none → valV kvs k = none)
  | [], kvs, h => by
    unfold DenK at h; subst h
    exact ⟨fun d e => (by cases e), fun _ => rfl⟩
  | (k', d0) :: ks, kvs, h => by
    unfold DenK at h
    obtain ⟨v, r, rfl, h1, h2⟩ := h
    have ih := DenK.look (k := k) h2
    unfold lookD valV at ih ⊢
    simp only [List.find?_cons]
    by_cases e : k' = k
    · rw [decide_eq_true e]
      exact ⟨fun d q => ⟨v, rfl, (by cases q; exact h1)⟩, fun q => (by cases q)⟩
    · rw [decide_eq_false e]
      exact ih
theorem DenK.keys {K : PySem.W.Frag} : ∀ {ks : List (Key × D)} {kvs : List (Key × V)}, DenK K Hs ks kvs → ks.map (·.1) = kvs.map (·.1)
  | [], kvs, h => by unfold DenK at h; subst h; rfl
  | (k', d0) :: ks, kvs, h => by
    unfold DenK at h
    obtain ⟨v, r, rfl, h1, h2⟩ := h
    rw [List.map_cons, List.map_cons, DenK.keys h2]
theorem kv_keys : ∀ {kvs : List (Key × V)} {vs : List (Key × Value)}, KV kvs vs → kvs.map (·.1) = vs.map (·.1)
  | _, _, .nil => rfl
  | _, _, .cons h t => by rw [List.map_cons, List.map_cons, kv_keys t, h.1]
theorem val_look : ∀ {kvs : List (Key × V)} {vs : List (Key × Value)} {k : Key}, KV kvs vs → (∀ v, valV kvs k = some v → ∃ u, valueAt vs k = some u ∧ RelV v u) ∧ (valV kvs k = none → valueAt vs k = none)
  | _, _, k, .nil => ⟨fun v e => (by cases e), fun _ => rfl⟩
  | _, _, k, .cons (a := a) (b := b) h t => by
    have ih := val_look (k := k) t
    unfold valV valueAt at ih ⊢
    simp only [List.find?_cons]
    rw [← h.1]
    by_cases e : a.1 = k
    · rw [decide_eq_true e]
      exact ⟨fun v q => ⟨_, rfl, (by cases q; exact h.2)⟩, fun q => (by cases q)⟩
    · rw [decide_eq_false e]
      exact ih
theorem den_sc {K : PySem.W.Frag} {d : D} {x : V} (h : Den K Hs d x) (hs : isSc d = true) : (d = .non ∧ x = .non) ∨ (∃ b, d = .bl b ∧ x = .bl b) ∨ (∃ i, d = .int i ∧ x = .int i) ∨ ∃ z, d = .str z ∧ x = .str z := by
  cases d with
  | non => unfold Den at h; exact .inl ⟨rfl, h⟩
  | bl b => unfold Den at h; exact .inr (.inl ⟨b, rfl, h⟩)
  | int i => unfold Den at h; exact .inr (.inr (.inl ⟨i, rfl, h⟩))
  | str z => unfold Den at h; exact .inr (.inr (.inr ⟨z, rfl, h⟩))
  | _ => cases hs
theorem sc_both {d e : D} {b : Bool} (h : scEq d e = some b) : isSc d = true ∧ isSc e = true := by
  cases d <;> cases e <;> simp [scEq, isSc] at h ⊢
theorem sc_at {K : PySem.W.Frag} {d e : D} {x y : V} {v u : Value} {b : Bool} (hd : Den K Hs d x) (he : Den K Hs e y) (rx : RelV x v) (ry : RelV y u) (h : scEq d e = some b) (A : Around) (s : Shared) : SeqAt.EqAt A s v u b := by
  obtain ⟨h1, h2⟩ := sc_both h
  rcases den_sc hd h1 with ⟨rfl, rfl⟩ | ⟨a, rfl, rfl⟩ | ⟨a, rfl, rfl⟩ | ⟨a, rfl, rfl⟩ <;> rcases den_sc he h2 with ⟨rfl, rfl⟩ | ⟨c, rfl, rfl⟩ | ⟨c, rfl, rfl⟩ | ⟨c, rfl, rfl⟩ <;> simp only [scEq, Option.some.injEq] at h <;> subst h
  · cases rx; cases ry; exact SeqAt.EqAt.same _
  · cases rx; cases ry; exact SeqAt.EqAt.none_bool _
  · cases rx; obtain ⟨t, rfl⟩ := ry; exact SeqAt.EqAt.none_int _ _
  · cases rx; obtain ⟨t, rfl⟩ := ry; exact SeqAt.EqAt.none_str _ _
  · cases rx; cases ry; exact SeqAt.EqAt.bool_none _
  · cases rx; cases ry; exact SeqAt.EqAt.bool_bool _ _
  · cases rx; obtain ⟨t, rfl⟩ := ry; exact SeqAt.EqAt.bool_int _ _ _
  · cases rx; obtain ⟨t, rfl⟩ := ry; exact SeqAt.EqAt.bool_str _ _ _
  · obtain ⟨t, rfl⟩ := rx; cases ry; exact SeqAt.EqAt.int_none _ _
  · obtain ⟨t, rfl⟩ := rx; cases ry; exact SeqAt.EqAt.int_bool _ _ _
  · obtain ⟨t, rfl⟩ := rx; obtain ⟨t', rfl⟩ := ry; exact SeqAt.EqAt.int_int _ _ _ _
  · obtain ⟨t, rfl⟩ := rx; obtain ⟨t', rfl⟩ := ry; exact SeqAt.EqAt.int_str _ _ _ _
  · obtain ⟨t, rfl⟩ := rx; cases ry; exact SeqAt.EqAt.str_none _ _
  · obtain ⟨t, rfl⟩ := rx; cases ry; exact SeqAt.EqAt.str_bool _ _ _
  · obtain ⟨t, rfl⟩ := rx; obtain ⟨t', rfl⟩ := ry; exact SeqAt.EqAt.str_int _ _ _ _
  · obtain ⟨t, rfl⟩ := rx; obtain ⟨t', rfl⟩ := ry; exact SeqAt.EqAt.str_str _ _ _ _
theorem eq_same (I : Inv X pins σ H s) (hb : Bare Hs) (hs : Sub Hs H) : ∀ (n : Nat) (d e : D) (x : V) (b : Bool), Den X.K Hs d x → Den X.K Hs e x → dEqN n d e = some b → b = true := by
  have sc : ∀ (d e : D) (x : V) (b : Bool), Den X.K Hs d x → Den X.K Hs e x → scEq d e = some b → b = true := fun d e x b hd he h => by
    obtain ⟨h1, h2⟩ := sc_both h
    rcases den_sc hd h1 with ⟨rfl, rfl⟩ | ⟨a, rfl, rfl⟩ | ⟨a, rfl, rfl⟩ | ⟨a, rfl, rfl⟩ <;> rcases den_sc he h2 with ⟨rfl, e2⟩ | ⟨c, rfl, e2⟩ | ⟨c, rfl, e2⟩ | ⟨c, rfl, e2⟩ <;> cases e2 <;> simp only [scEq, Option.some.injEq] at h <;> subst h <;> simp
  intro n
  induction n with
  | zero => exact fun d e x b hd he h => sc d e x b hd he h
  | succ n ih =>
    have all : ∀ (ds es : List D) (vs : List V) (b : Bool), DenL X.K Hs ds vs → DenL X.K Hs es vs → eqAllD (dEqN n) ds es = some b → b = true := fun ds es vs b h1 h2 h => by
      obtain ⟨bs, l, rfl, k⟩ := eqAllD_get h
      rw [List.all_eq_true]
      intro c hc
      obtain ⟨j, lt, e⟩ := List.mem_iff_getElem.mp hc
      have l1 := h1.len
      have l2 := h2.len
      have lt1 : j < ds.length := by omega
      have lt2 : j < es.length := by omega
      obtain ⟨c', k1, k2⟩ := k j _ _ (List.getElem?_eq_getElem lt1) (List.getElem?_eq_getElem lt2)
      rw [List.getElem?_eq_getElem lt] at k1
      obtain ⟨v, v1, d1⟩ := h1.get (List.getElem?_eq_getElem lt1)
      obtain ⟨v', v2, d2⟩ := h2.get (List.getElem?_eq_getElem lt2)
      rw [v1] at v2; cases v2
      have := ih _ _ _ _ d1 d2 k2
      rw [← e]
      cases k1
      exact this
    intro d e x b hd he h
    have nl : ∀ {a : Addr} {vs ws : List V}, H a = some (.lst vs) → SqT X.K H a ws → False := fun h1 h2 => by
      obtain ⟨_, _, p1, _⟩ := I.list (.of h1)
      obtain ⟨_, _, p2, _⟩ := I.tuple h2
      exact SeqAt.ne_of_list_tuple p1.isList p2 rfl
    cases d with
    | lst ds =>
      cases e with
      | lst es =>
        unfold Den at hd he
        obtain ⟨a, vs, rfl, p1, q1⟩ := hd
        obtain ⟨a', vs', e2, p2, q2⟩ := he
        cases e2
        rw [p1] at p2; cases p2
        unfold dEqN at h
        rw [if_pos (by rw [← q1.len, ← q2.len])] at h
        exact all _ _ _ _ q1 q2 h
      | tup es =>
        unfold Den at hd he
        obtain ⟨a, vs, rfl, p1, q1⟩ := hd
        obtain ⟨a', vs', e2, p2, q2⟩ := he
        cases e2
        exact (nl (sub_raw hs p1 fun z => z) (sub_t hb hs p2)).elim
      | non => unfold Den at hd he; obtain ⟨a, vs, rfl, _⟩ := hd; cases he
      | bl _ => unfold Den at hd he; obtain ⟨a, vs, rfl, _⟩ := hd; cases he
      | int _ => unfold Den at hd he; obtain ⟨a, vs, rfl, _⟩ := hd; cases he
      | str _ => unfold Den at hd he; obtain ⟨a, vs, rfl, _⟩ := hd; cases he
      | dic _ => cases h
      | dit _ => cases h
      | tpl _ => cases h
      | twr _ => cases h
      | ins _ _ => cases h
      | exc _ _ => cases h
      | lam _ _ => cases h
      | adr _ => cases h
      | rg _ => cases h
    | tup ds =>
      cases e with
      | tup es =>
        unfold Den at hd he
        obtain ⟨a, vs, rfl, p1, q1⟩ := hd
        obtain ⟨a', vs', e2, p2, q2⟩ := he
        cases e2
        have ev := I.tuple_inj (sub_t hb hs p1) (sub_t hb hs p2)
        subst ev
        have el : ds.length = es.length := by rw [← q1.len, ← q2.len]
        unfold dEqN at h
        cases q : eqAllD (dEqN n) ds es with
        | none => rw [q] at h; cases h
        | some c =>
          rw [q] at h
          have := all _ _ _ _ q1 q2 q
          subst this
          simp [el] at h
          exact h
      | lst es =>
        unfold Den at hd he
        obtain ⟨a, vs, rfl, p1, q1⟩ := hd
        obtain ⟨a', vs', e2, p2, q2⟩ := he
        cases e2
        exact (nl (sub_raw hs p2 fun z => z) (sub_t hb hs p1)).elim
      | non => unfold Den at hd he; obtain ⟨a, vs, rfl, _⟩ := hd; cases he
      | bl _ => unfold Den at hd he; obtain ⟨a, vs, rfl, _⟩ := hd; cases he
      | int _ => unfold Den at hd he; obtain ⟨a, vs, rfl, _⟩ := hd; cases he
      | str _ => unfold Den at hd he; obtain ⟨a, vs, rfl, _⟩ := hd; cases he
      | dic _ => cases h
      | dit _ => cases h
      | tpl _ => cases h
      | twr _ => cases h
      | ins _ _ => cases h
      | exc _ _ => cases h
      | lam _ _ => cases h
      | adr _ => cases h
      | rg _ => cases h
    | dic ks =>
      cases e with
      | dic ls =>
        unfold Den at hd he
        obtain ⟨a, kvs, rfl, p1, q1⟩ := hd
        obtain ⟨a', kvs', e2, p2, q2⟩ := he
        cases e2
        rw [p1] at p2; cases p2
        obtain ⟨_, _, vs, kv, dd⟩ := dk_rd I.hok (sub_rd hs p1)
        have nd : (kvs.map (·.1)).Nodup := by
          obtain ⟨_, _, _, _, _, _, _, _, nd⟩ := dd
          rw [kv_keys kv]; exact nd
        have ek : ks.map (·.1) = ls.map (·.1) := by rw [q1.keys, q2.keys]
        have el : ks.length = ls.length := by
          have := congrArg List.length ek
          simpa using this
        unfold dEqN at h
        cases q : eqKvD (dEqN n) ls ks with
        | none => rw [q] at h; cases h
        | some c =>
          rw [q] at h
          obtain ⟨k1, k2⟩ := eqKvD_get q
          have ct : c = true := by
            rw [k2, List.all_eq_true]
            intro p hp
            have inl : p.1 ∈ ls.map (·.1) := by rw [← ek]; exact List.mem_map.mpr ⟨p, hp, rfl⟩
            cases q3 : lookD ls p.1 with
            | none =>
              exfalso
              obtain ⟨r, hr, er⟩ := List.mem_map.mp inl
              have nd2 : (ls.map (·.1)).Nodup := by rw [← ek, q1.keys]; exact nd
              have := lookD_mem nd2 (k := p.1) (d := r.2) (by rw [← er]; exact hr)
              rw [this] at q3; cases q3
            | some e' =>
              obtain ⟨c', hc⟩ := k1 p hp e' q3
              simp only [hc, Option.getD_some]
              obtain ⟨v1, e1, d1⟩ := (q2.look (k := p.1)).1 e' q3
              have nd1 : (ks.map (·.1)).Nodup := by rw [q1.keys]; exact nd
              obtain ⟨v2, e3, d2⟩ := (q1.look (k := p.1)).1 p.2 (lookD_mem nd1 hp)
              rw [e1] at e3; cases e3
              exact ih _ _ _ _ d2 d1 hc
          subst ct
          simp [el] at h
          exact h
      | lst _ => cases h
      | tup _ => cases h
      | non => cases h
      | bl _ => cases h
      | int _ => cases h
      | str _ => cases h
      | dit _ => cases h
      | tpl _ => cases h
      | twr _ => cases h
      | ins _ _ => cases h
      | exc _ _ => cases h
      | lam _ _ => cases h
      | adr _ => cases h
      | rg _ => cases h
    | dit _ => cases e <;> cases h
    | tpl _ => cases e <;> cases h
    | twr _ => cases e <;> cases h
    | ins _ _ => cases e <;> cases h
    | exc _ _ => cases e <;> cases h
    | lam _ _ => cases e <;> cases h
    | adr _ => cases e <;> cases h
    | rg _ => cases e <;> cases h
    | non =>
      cases e with
      | lst _ => unfold Den at hd he; obtain ⟨a, vs, e1, _⟩ := he; rw [hd] at e1; cases e1
      | tup _ => unfold Den at hd he; obtain ⟨a, vs, e1, _⟩ := he; rw [hd] at e1; cases e1
      | _ => exact sc _ _ _ _ hd he h
    | bl _ =>
      cases e with
      | lst _ => unfold Den at hd he; obtain ⟨a, vs, e1, _⟩ := he; rw [hd] at e1; cases e1
      | tup _ => unfold Den at hd he; obtain ⟨a, vs, e1, _⟩ := he; rw [hd] at e1; cases e1
      | _ => exact sc _ _ _ _ hd he h
    | int _ =>
      cases e with
      | lst _ => unfold Den at hd he; obtain ⟨a, vs, e1, _⟩ := he; rw [hd] at e1; cases e1
      | tup _ => unfold Den at hd he; obtain ⟨a, vs, e1, _⟩ := he; rw [hd] at e1; cases e1
      | _ => exact sc _ _ _ _ hd he h
    | str _ =>
      cases e with
      | lst _ => unfold Den at hd he; obtain ⟨a, vs, e1, _⟩ := he; rw [hd] at e1; cases e1
      | tup _ => unfold Den at hd he; obtain ⟨a, vs, e1, _⟩ := he; rw [hd] at e1; cases e1
      | _ => exact sc _ _ _ _ hd he h
end
section
variable {X : Cx} {pins : List (Addr × Obj)} {σ : St} {H Hs : Hp} {s : Shared}
theorem vAt_mem {kvs : List (Key × Value)} (hn : (kvs.map (·.1)).Nodup) {k : Key} {v : Value} (h : (k, v) ∈ kvs) : valueAt kvs k = some v := by
  induction kvs with
  | nil => cases h
  | cons p kvs ih =>
    rw [List.map_cons, List.nodup_cons] at hn
    unfold valueAt
    rw [List.find?_cons]
    rcases List.mem_cons.mp h with rfl | h
    · simp
    · have : ¬ (p.1 = k) := fun e => hn.1 (List.mem_map.mpr ⟨(k, v), h, e.symm⟩)
      have := ih hn.2 h
      unfold valueAt at this
      simp_all
theorem seq_sc {K : PySem.W.Frag} {a : Addr} {its : Array Value} {e : D} {y : V} {u : Value} (he : Den K Hs e y) (sc : isSc e = true) (ry : RelV y u) (p : s.heap.IsList a its ∨ s.heap.IsTuple a its) {A : Around} (hu : A.units < cLine) : SeqAt.EqAt A s (.ref a) u false ∧ SeqAt.EqAt A s u (.ref a) false := by
  rcases den_sc he sc with ⟨rfl, rfl⟩ | ⟨c, rfl, rfl⟩ | ⟨c, rfl, rfl⟩ | ⟨c, rfl, rfl⟩
  · cases ry
    rcases p with p | p
    · exact ⟨SeqAt.EqAt.list_none p hu, SeqAt.EqAt.none_list p hu⟩
    · exact ⟨SeqAt.EqAt.tuple_none p hu, SeqAt.EqAt.none_tuple p hu⟩
  · cases ry
    rcases p with p | p
    · exact ⟨SeqAt.EqAt.list_bool _ p hu, SeqAt.EqAt.bool_list _ p hu⟩
    · exact ⟨SeqAt.EqAt.tuple_bool _ p hu, SeqAt.EqAt.bool_tuple _ p hu⟩
  · obtain ⟨t, rfl⟩ := ry
    rcases p with p | p
    · exact ⟨SeqAt.EqAt.list_int _ _ p hu, SeqAt.EqAt.int_list _ _ p hu⟩
    · exact ⟨SeqAt.EqAt.tuple_int _ _ p hu, SeqAt.EqAt.int_tuple _ _ p hu⟩
  · obtain ⟨t, rfl⟩ := ry
    rcases p with p | p
    · exact ⟨SeqAt.EqAt.list_str _ _ p hu, SeqAt.EqAt.str_list _ _ p hu⟩
    · exact ⟨SeqAt.EqAt.tuple_str _ _ p hu, SeqAt.EqAt.str_tuple _ _ p hu⟩
theorem dEqN_sc {n : Nat} {d e : D} {b : Bool} (h1 : isSc d = true) (h2 : isSc e = true) (h : dEqN n d e = some b) : scEq d e = some b := by
  cases n <;> cases d <;> cases h1 <;> cases e <;> cases h2 <;> exact h
theorem bs_of {bs : List Bool} {f : D → D → Option Bool} {ds es : List D} (hl : bs.length = min ds.length es.length) (j : Nat) (h1 : j < ds.length) (h2 : j < es.length) (k : ∀ (j : Nat) x y, ds[j]? = some x → es[j]? = some y → ∃ c, bs[j]? = some c ∧ f x y = some c) : f ds[j] es[j] = some (bs.getD j true) := by
  obtain ⟨c, k1, k2⟩ := k j _ _ (List.getElem?_eq_getElem h1) (List.getElem?_eq_getElem h2)
  rw [k2, List.getD_eq_getElem?_getD, k1]
  rfl
theorem all_range : ∀ (bs : List Bool), (List.range bs.length).all (fun j => bs.getD j true) = bs.all id := by
  intro bs
  rw [Bool.eq_iff_iff, List.all_eq_true, List.all_eq_true]
  constructor
  · intro h b hb
    obtain ⟨j, lt, e⟩ := List.mem_iff_getElem.mp hb
    have := h j (List.mem_range.mpr lt)
    rw [List.getD_eq_getElem?_getD, List.getElem?_eq_getElem lt] at this
    rw [← e]; exact this
  · intro h j hj
    have lt := List.mem_range.mp hj
    rw [List.getD_eq_getElem?_getD, List.getElem?_eq_getElem lt]
    exact h _ (List.getElem_mem lt)
theorem vals_at {vs : List V} {its : List Value} (r : Vals vs its) {j : Nat} (h : j < its.length) {v : V} (e : vs[j]? = some v) : RelV v its[j] := by
  obtain ⟨u, h1, h2⟩ := r.get e
  rw [List.getElem?_eq_getElem h] at h1
  cases h1
  exact h2
theorem pair_trees {n : Nat} (ih : ∀ (d e : D) (x y : V) (v u : Value) (b : Bool), Den X.K Hs d x → Den X.K Hs e y → RelV x v → RelV y u → dEqN n d e = some b → PySem.W.EqTree X.prog X.w s n v u b) {ds es : List D} {vs ws : List V} {its jts : List Value} {bs : List Bool}
    (q1 : DenL X.K Hs ds vs) (q2 : DenL X.K Hs es ws) (r1 : Vals vs its) (r2 : Vals ws jts) (hl : bs.length = min ds.length es.length) (k : ∀ (j : Nat) x y, ds[j]? = some x → es[j]? = some y → ∃ c, bs[j]? = some c ∧ dEqN n x y = some c)
    (j : Nat) (h1 : j < its.toArray.size) (h2 : j < jts.toArray.size) : PySem.W.EqTree X.prog X.w s n its.toArray[j] jts.toArray[j] (bs.getD j true) := by
  have l1 := q1.len
  have l2 := q2.len
  have l3 := r1.length
  have l4 := r2.length
  have h1' : j < its.length := by simpa using h1
  have h2' : j < jts.length := by simpa using h2
  have hd : j < ds.length := by omega
  have he : j < es.length := by omega
  obtain ⟨x, ex, dx⟩ := q1.get (List.getElem?_eq_getElem hd)
  obtain ⟨y, ey, dy⟩ := q2.get (List.getElem?_eq_getElem he)
  have := ih _ _ x y its[j] jts[j] _ dx dy (vals_at r1 h1' ex) (vals_at r2 h2' ey) (bs_of hl j hd he k)
  simpa using this
theorem dict_trees {P : Program} {w : World} {n : Nat} (ih : ∀ (d e : D) (x y : V) (v u : Value) (b : Bool), Den X.K Hs d x → Den X.K Hs e y → RelV x v → RelV y u → dEqN n d e = some b → PySem.W.EqTree X.prog X.w s n v u b) {ks ls : List (Key × D)} {kvs lvs : List (Key × V)} {vs ws : List (Key × Value)} {a : Addr} {c : Bool}
    (q1 : DenK X.K Hs ks kvs) (q2 : DenK X.K Hs ls lvs) (kv : KV kvs vs) (lv : KV lvs ws) (dd : s.heap.DictOf (mixKind P w) a vs) (q : eqKvD (dEqN n) ls ks = some c) :
    (∀ k v y, (k, v) ∈ vs → valueAt ws k = some y → PySem.W.EqTree X.prog X.w s n v y (match lookD ks k, lookD ls k with | some d, some e => (dEqN n d e).getD true | _, _ => true)) ∧
    (vs.length == ws.length && vs.all fun p => (valueAt ws p.1).isSome && (match lookD ks p.1, lookD ls p.1 with | some d, some e => (dEqN n d e).getD true | _, _ => true)) = (decide (ks.length = ls.length) && c) := by
  obtain ⟨k1, k2⟩ := eqKvD_get q
  have el0 : ∀ {k : Key} {v y : Value}, (k, v) ∈ vs → valueAt ws k = some y → PySem.W.EqTree X.prog X.w s n v y (match lookD ks k, lookD ls k with | some d, some e => (dEqN n d e).getD true | _, _ => true) := fun {k v y} hm hv => by
    have nd : (ks.map (·.1)).Nodup := by
      obtain ⟨_, _, _, _, _, _, _, _, nd⟩ := dd
      rw [q1.keys, kv_keys kv]; exact nd
    have ndv : (kvs.map (·.1)).Nodup := by rw [← q1.keys]; exact nd
    have ik : k ∈ ks.map (·.1) := by
      rw [q1.keys, kv_keys kv]
      exact List.mem_map.mpr ⟨_, hm, rfl⟩
    obtain ⟨p, hp, ep⟩ := List.mem_map.mp ik
    have lk : lookD ks k = some p.2 := lookD_mem nd (by rw [← ep]; exact hp)
    obtain ⟨xv, e1, d1⟩ := (q1.look (k := k)).1 _ lk
    obtain ⟨u1, e2, r1⟩ := (val_look (k := k) kv).1 _ e1
    have e3 : valueAt vs k = some v := by
      obtain ⟨_, _, _, _, _, _, _, _, ndd⟩ := dd
      exact vAt_mem ndd hm
    rw [e3] at e2; cases e2
    cases q3 : lookD ls k with
    | none =>
      have := (q2.look (k := k)).2 q3
      have := (val_look (k := k) lv).2 this
      rw [this] at hv; cases hv
    | some e' =>
      obtain ⟨yv, e4, d2⟩ := (q2.look (k := k)).1 _ q3
      obtain ⟨u2, e5, r2⟩ := (val_look (k := k) lv).1 _ e4
      rw [e5] at hv; cases hv
      obtain ⟨c', hc⟩ := k1 p hp e' (by rw [ep]; exact q3)
      rw [lk]
      dsimp only
      rw [hc]
      exact ih _ _ _ _ _ _ _ d1 d2 r1 r2 hc
  have el1 : vs.length = ks.length := by
    have := congrArg List.length (q1.keys.trans (kv_keys kv))
    simpa using this.symm
  have el2 : ws.length = ls.length := by
    have := congrArg List.length (q2.keys.trans (kv_keys lv))
    simpa using this.symm
  have ea2 : (vs.all fun p => (valueAt ws p.1).isSome && (match lookD ks p.1, lookD ls p.1 with | some d, some e => (dEqN n d e).getD true | _, _ => true)) = c := by
    have nd : (ks.map (·.1)).Nodup := by
      obtain ⟨_, _, _, _, _, _, _, _, nd⟩ := dd
      rw [q1.keys, kv_keys kv]; exact nd
    have m1 : (vs.all fun p => (valueAt ws p.1).isSome && (match lookD ks p.1, lookD ls p.1 with | some d, some e => (dEqN n d e).getD true | _, _ => true)) = ((vs.map (·.1)).all fun k => (valueAt ws k).isSome && (match lookD ks k, lookD ls k with | some d, some e => (dEqN n d e).getD true | _, _ => true)) := by
      rw [List.all_map]; rfl
    rw [m1, ← kv_keys kv, ← q1.keys, List.all_map, k2]
    apply Bool.eq_iff_iff.mpr
    rw [List.all_eq_true, List.all_eq_true]
    have pw : ∀ p ∈ ks, (((fun k => (valueAt ws k).isSome && (match lookD ks k, lookD ls k with | some d, some e => (dEqN n d e).getD true | _, _ => true)) ∘ (·.1)) p) = (match lookD ls p.1 with | some e => (dEqN n p.2 e).getD true | none => false) := by
      intro p hp
      show ((valueAt ws p.1).isSome && _) = _
      rw [lookD_mem nd (k := p.1) (d := p.2) hp]
      cases q3 : lookD ls p.1 with
      | none =>
        have := (q2.look (k := p.1)).2 q3
        have := (val_look (k := p.1) lv).2 this
        rw [this]; rfl
      | some e' =>
        obtain ⟨yv, e4, d2⟩ := (q2.look (k := p.1)).1 _ q3
        obtain ⟨u2, e5, r2⟩ := (val_look (k := p.1) lv).1 _ e4
        rw [e5]; simp
    exact ⟨fun z p hp => (pw p hp).symm.trans (z p hp), fun z p hp => (pw p hp).trans (z p hp)⟩
  refine ⟨fun k v y hm hv => el0 hm hv, ?_⟩
  rw [ea2, el1, el2, Bool.beq_eq_decide_eq]
theorem eq_tree (I : Inv X pins σ H s) (hb : Bare Hs) (hs : Sub Hs H) : ∀ (n : Nat) (d e : D) (x y : V) (v u : Value) (b : Bool), Den X.K Hs d x → Den X.K Hs e y → RelV x v → RelV y u → dEqN n d e = some b → PySem.W.EqTree X.prog X.w s n v u b := by
  intro n
  induction n with
  | zero => exact fun d e x y v u b hd he rx ry h => .leaf fun A _ => sc_at hd he rx ry h A s
  | succ n ih =>
    intro d e x y v u b hd he rx ry h
    have sc : isSc d = true → isSc e = true → PySem.W.EqTree X.prog X.w s (n + 1) v u b := fun h1 h2 => .leaf fun A _ => sc_at hd he rx ry (dEqN_sc h1 h2 h) A s
    cases d with
    | lst ds =>
      have hd0 := hd
      unfold Den at hd
      obtain ⟨a, vs, rfl, p1, q1⟩ := hd
      cases (show v = Value.ref a from rx)
      obtain ⟨its, r1, i1, _⟩ := I.list (.of (sub_raw hs p1 fun z => z))
      cases e with
      | lst es =>
        have he0 := he
        unfold Den at he
        obtain ⟨a', ws, rfl, p2, q2⟩ := he
        cases (show u = Value.ref a' from ry)
        obtain ⟨jts, r2, i2, _⟩ := I.list (.of (sub_raw hs p2 fun z => z))
        by_cases ea : a = a'
        · subst ea
          have := eq_same I hb hs (n + 1) _ _ _ _ hd0 he0 h
          subst this
          exact .same
        · unfold dEqN at h
          have l1 := q1.len
          have l2 := q2.len
          have l3 := r1.length
          have l4 := r2.length
          by_cases el : ds.length = es.length
          · rw [if_pos el] at h
            obtain ⟨bs, hl, rfl, k⟩ := eqAllD_get h
            have t := PySem.W.EqTree.lists (prog := X.prog) (w := X.w) (n := n) (e := fun j => bs.getD j true) ea i1.isList i2.isList (by simp; omega) (pair_trees ih q1 q2 r1 r2 hl k)
            have ez : its.toArray.size = bs.length := by simp; omega
            rw [ez, all_range] at t
            exact t
          · rw [if_neg el] at h
            cases h
            exact .listsLen ea i1.isList i2.isList (by simp; omega)
      | tup es =>
        unfold Den at he
        obtain ⟨a', ws, rfl, p2, q2⟩ := he
        cases (show u = Value.ref a' from ry)
        obtain ⟨jts, r2, i2, _⟩ := I.tuple (sub_t hb hs p2)
        cases h
        exact .leaf fun A hu => SeqAt.EqAt.list_tuple i1.isList i2 (by omega)
      | non => cases h; exact .leaf fun A hu => (seq_sc he rfl ry (.inl i1.isList) (by omega)).1
      | bl _ => cases h; exact .leaf fun A hu => (seq_sc he rfl ry (.inl i1.isList) (by omega)).1
      | int _ => cases h; exact .leaf fun A hu => (seq_sc he rfl ry (.inl i1.isList) (by omega)).1
      | str _ => cases h; exact .leaf fun A hu => (seq_sc he rfl ry (.inl i1.isList) (by omega)).1
      | dic _ => cases h
      | dit _ => cases h
      | tpl _ => cases h
      | twr _ => cases h
      | ins _ _ => cases h
      | exc _ _ => cases h
      | lam _ _ => cases h
      | adr _ => cases h
      | rg _ => cases h
    | tup ds =>
      have hd0 := hd
      unfold Den at hd
      obtain ⟨a, vs, rfl, p1, q1⟩ := hd
      cases (show v = Value.ref a from rx)
      obtain ⟨its, r1, i1, _⟩ := I.tuple (sub_t hb hs p1)
      cases e with
      | tup es =>
        have he0 := he
        unfold Den at he
        obtain ⟨a', ws, rfl, p2, q2⟩ := he
        cases (show u = Value.ref a' from ry)
        obtain ⟨jts, r2, i2, _⟩ := I.tuple (sub_t hb hs p2)
        by_cases ea : a = a'
        · subst ea
          have := eq_same I hb hs (n + 1) _ _ _ _ hd0 he0 h
          subst this
          exact .same
        · unfold dEqN at h
          have l1 := q1.len
          have l2 := q2.len
          have l3 := r1.length
          have l4 := r2.length
          cases q : eqAllD (dEqN n) ds es with
          | none => rw [q] at h; cases h
          | some c =>
            rw [q] at h
            cases h
            obtain ⟨bs, hl, rfl, k⟩ := eqAllD_get q
            have t := PySem.W.EqTree.tuples (prog := X.prog) (w := X.w) (n := n) (e := fun j => bs.getD j true) ea i1 i2 (pair_trees ih q1 q2 r1 r2 hl k)
            have ez : min its.toArray.size jts.toArray.size = bs.length := by simp; omega
            have ez2 : (its.toArray.size == jts.toArray.size) = decide (ds.length = es.length) := by
              rw [Bool.beq_eq_decide_eq]
              congr 1
              simp
              omega
            rw [ez, all_range, ez2] at t
            exact t
      | lst es =>
        unfold Den at he
        obtain ⟨a', ws, rfl, p2, q2⟩ := he
        cases (show u = Value.ref a' from ry)
        obtain ⟨jts, r2, i2, _⟩ := I.list (.of (sub_raw hs p2 fun z => z))
        cases h
        exact .leaf fun A hu => SeqAt.EqAt.tuple_list i1 i2.isList (by omega)
      | non => cases h; exact .leaf fun A hu => (seq_sc he rfl ry (.inr i1) (by omega)).1
      | bl _ => cases h; exact .leaf fun A hu => (seq_sc he rfl ry (.inr i1) (by omega)).1
      | int _ => cases h; exact .leaf fun A hu => (seq_sc he rfl ry (.inr i1) (by omega)).1
      | str _ => cases h; exact .leaf fun A hu => (seq_sc he rfl ry (.inr i1) (by omega)).1
      | dic _ => cases h
      | dit _ => cases h
      | tpl _ => cases h
      | twr _ => cases h
      | ins _ _ => cases h
      | exc _ _ => cases h
      | lam _ _ => cases h
      | adr _ => cases h
      | rg _ => cases h
    | dic ks =>
      cases e with
      | dic ls =>
        have hd0 := hd
        have he0 := he
        unfold Den at hd he
        obtain ⟨a, kvs, rfl, p1, q1⟩ := hd
        obtain ⟨a', lvs, rfl, p2, q2⟩ := he
        cases (show v = Value.ref a from rx)
        cases (show u = Value.ref a' from ry)
        by_cases ea : a = a'
        · subst ea
          have := eq_same I hb hs (n + 1) _ _ _ _ hd0 he0 h
          subst this
          exact .same
        · obtain ⟨_, n1, vs, kv, dd⟩ := dk_rd I.hok (sub_rd hs p1)
          obtain ⟨_, n2, ws, lv, de⟩ := dk_rd I.hok (sub_rd hs p2)
          unfold dEqN at h
          cases q : eqKvD (dEqN n) ls ks with
          | none => rw [q] at h; cases h
          | some c =>
            rw [q] at h
            cases h
            obtain ⟨tr, e1⟩ := dict_trees ih q1 q2 kv lv dd q
            have t := PySem.W.EqTree.dicts ea n1 n2 dd de tr
            rw [e1] at t
            exact t
      | lst _ => cases h
      | tup _ => cases h
      | non => cases h
      | bl _ => cases h
      | int _ => cases h
      | str _ => cases h
      | dit _ => cases h
      | tpl _ => cases h
      | twr _ => cases h
      | ins _ _ => cases h
      | exc _ _ => cases h
      | lam _ _ => cases h
      | adr _ => cases h
      | rg _ => cases h
    | dit _ => cases e <;> cases h
    | tpl _ => cases e <;> cases h
    | twr _ => cases e <;> cases h
    | ins _ _ => cases e <;> cases h
    | exc _ _ => cases e <;> cases h
    | lam _ _ => cases e <;> cases h
    | adr _ => cases e <;> cases h
    | rg _ => cases e <;> cases h
    | non =>
      cases e with
      | lst _ =>
        unfold Den at he
        obtain ⟨a', ws, rfl, p2, q2⟩ := he
        cases (show u = Value.ref a' from ry)
        obtain ⟨jts, r2, i2, _⟩ := I.list (.of (sub_raw hs p2 fun z => z))
        cases h
        exact .leaf fun A hu => (seq_sc hd rfl rx (.inl i2.isList) (by omega)).2
      | tup _ =>
        unfold Den at he
        obtain ⟨a', ws, rfl, p2, q2⟩ := he
        cases (show u = Value.ref a' from ry)
        obtain ⟨jts, r2, i2, _⟩ := I.tuple (sub_t hb hs p2)
        cases h
        exact .leaf fun A hu => (seq_sc hd rfl rx (.inr i2) (by omega)).2
      | dic _ => cases h
      | dit _ => cases h
      | tpl _ => cases h
      | twr _ => cases h
      | ins _ _ => cases h
      | exc _ _ => cases h
      | lam _ _ => cases h
      | adr _ => cases h
      | rg _ => cases h
      | _ => exact sc rfl rfl
    | bl _ =>
      cases e with
      | lst _ =>
        unfold Den at he
        obtain ⟨a', ws, rfl, p2, q2⟩ := he
        cases (show u = Value.ref a' from ry)
        obtain ⟨jts, r2, i2, _⟩ := I.list (.of (sub_raw hs p2 fun z => z))
        cases h
        exact .leaf fun A hu => (seq_sc hd rfl rx (.inl i2.isList) (by omega)).2
      | tup _ =>
        unfold Den at he
        obtain ⟨a', ws, rfl, p2, q2⟩ := he
        cases (show u = Value.ref a' from ry)
        obtain ⟨jts, r2, i2, _⟩ := I.tuple (sub_t hb hs p2)
        cases h
        exact .leaf fun A hu => (seq_sc hd rfl rx (.inr i2) (by omega)).2
      | dic _ => cases h
      | dit _ => cases h
      | tpl _ => cases h
      | twr _ => cases h
      | ins _ _ => cases h
      | exc _ _ => cases h
      | lam _ _ => cases h
      | adr _ => cases h
      | rg _ => cases h
      | _ => exact sc rfl rfl
    | int _ =>
      cases e with
      | lst _ =>
        unfold Den at he
        obtain ⟨a', ws, rfl, p2, q2⟩ := he
        cases (show u = Value.ref a' from ry)
        obtain ⟨jts, r2, i2, _⟩ := I.list (.of (sub_raw hs p2 fun z => z))
        cases h
        exact .leaf fun A hu => (seq_sc hd rfl rx (.inl i2.isList) (by omega)).2
      | tup _ =>
        unfold Den at he
        obtain ⟨a', ws, rfl, p2, q2⟩ := he
        cases (show u = Value.ref a' from ry)
        obtain ⟨jts, r2, i2, _⟩ := I.tuple (sub_t hb hs p2)
        cases h
        exact .leaf fun A hu => (seq_sc hd rfl rx (.inr i2) (by omega)).2
      | dic _ => cases h
      | dit _ => cases h
      | tpl _ => cases h
      | twr _ => cases h
      | ins _ _ => cases h
      | exc _ _ => cases h
      | lam _ _ => cases h
      | adr _ => cases h
      | rg _ => cases h
      | _ => exact sc rfl rfl
    | str _ =>
      cases e with
      | lst _ =>
        unfold Den at he
        obtain ⟨a', ws, rfl, p2, q2⟩ := he
        cases (show u = Value.ref a' from ry)
        obtain ⟨jts, r2, i2, _⟩ := I.list (.of (sub_raw hs p2 fun z => z))
        cases h
        exact .leaf fun A hu => (seq_sc hd rfl rx (.inl i2.isList) (by omega)).2
      | tup _ =>
        unfold Den at he
        obtain ⟨a', ws, rfl, p2, q2⟩ := he
        cases (show u = Value.ref a' from ry)
        obtain ⟨jts, r2, i2, _⟩ := I.tuple (sub_t hb hs p2)
        cases h
        exact .leaf fun A hu => (seq_sc hd rfl rx (.inr i2) (by omega)).2
      | dic _ => cases h
      | dit _ => cases h
      | tpl _ => cases h
      | twr _ => cases h
      | ins _ _ => cases h
      | exc _ _ => cases h
      | lam _ _ => cases h
      | adr _ => cases h
      | rg _ => cases h
      | _ => exact sc rfl rfl
end
mutual
def plD : D → Bool
  | .non => true
  | .bl _ => true
  | .int _ => true
  | .str _ => true
  | .lst xs => plAll xs
  | .tup xs => plAll xs
  | .dic _ => false
  | .dit _ => false
  | .tpl _ => false
  | .twr _ => false
  | .ins _ _ => false
  | .exc _ _ => false
  | .lam _ _ => false
  | .adr _ => false
  | .rg _ => false
def plAll : List D → Bool
  | [] => true
  | x :: xs => plD x && plAll xs
end
mutual
def py : D → PyData
  | .non => .none
  | .bl b => .bool b
  | .int i => .int i
  | .str x => .str x
  | .lst xs => .list (pyL xs)
  | .tup xs => .tuple (pyL xs)
  | .dic _ => .none
  | .dit _ => .none
  | .tpl _ => .none
  | .twr _ => .none
  | .ins _ _ => .none
  | .exc _ _ => .none
  | .lam _ _ => .none
  | .adr _ => .none
  | .rg _ => .none
def pyL : List D → List PyData
  | [] => []
  | x :: xs => py x :: pyL xs
end
mutual
theorem py_plain : ∀ d : D, plD d = true → (py d).plain = true
  | .non, _ => by unfold py; rfl
  | .bl _, _ => by unfold py; rfl
  | .int _, _ => by unfold py; rfl
  | .str _, _ => by unfold py; rfl
  | .lst xs, h => by unfold py PyData.plain; unfold plD at h; exact pyL_plain xs h
  | .tup xs, h => by unfold py PyData.plain; unfold plD at h; exact pyL_plain xs h
  | .dic _, h => by unfold plD at h; cases h
  | .dit _, h => by unfold plD at h; cases h
  | .tpl _, h => by unfold plD at h; cases h
  | .twr _, h => by unfold plD at h; cases h
  | .ins _ _, h => by unfold plD at h; cases h
  | .exc _ _, h => by unfold plD at h; cases h
  | .lam _ _, h => by unfold plD at h; cases h
  | .adr _, h => by unfold plD at h; cases h
  | .rg _, h => by unfold plD at h; cases h
theorem pyL_plain : ∀ xs : List D, plAll xs = true → PyData.plainAll (pyL xs) = true
  | [], _ => by unfold pyL; rfl
  | x :: xs, h => by
    unfold plAll at h
    rw [Bool.and_eq_true] at h
    unfold pyL PyData.plainAll
    rw [py_plain x h.1, pyL_plain xs h.2]; rfl
end
theorem pyL_map : ∀ xs : List D, pyL xs = xs.map py
  | [] => by unfold pyL; rfl
  | x :: xs => by unfold pyL; rw [pyL_map xs]; rfl
theorem plAll_all : ∀ xs : List D, plAll xs = xs.all plD
  | [] => by unfold plAll; rfl
  | x :: xs => by unfold plAll; rw [plAll_all xs]; rfl
section
variable {X : Cx} {pins : List (Addr × Obj)} {σ : St} {H Hs : Hp} {s : Shared}
mutual
theorem den_reads (I : Inv X pins σ H s) (hb : Bare Hs) (hs : Sub Hs H) : ∀ (d : D) (v : V) (u : Value), plD d = true → Den X.K Hs d v → RelV v u → ∃ as, Reads s.heap u (py d) as
  | .non, v, u, _, h, r => by
    unfold Den at h; subst h; cases r
    unfold py; exact ⟨_, Reads.none⟩
  | .bl b, v, u, _, h, r => by
    unfold Den at h; subst h; cases r
    unfold py; exact ⟨_, Reads.bool b⟩
  | .int i, v, u, _, h, r => by
    unfold Den at h; subst h
    obtain ⟨t, rfl⟩ := r
    unfold py; exact ⟨_, Reads.int i t⟩
  | .str x, v, u, _, h, r => by
    unfold Den at h; subst h
    obtain ⟨t, rfl⟩ := r
    unfold py; exact ⟨_, Reads.str x t⟩
  | .lst ds, v, u, p, h, r => by
    unfold Den at h
    obtain ⟨a, vs, rfl, h1, h2⟩ := h
    cases r
    unfold plD at p
    obtain ⟨its, rv, ⟨o, n, ho, hc, _, hd⟩, _⟩ := I.list (.of (sub_raw hs h1 fun z => z))
    obtain ⟨as, hr⟩ := den_readsAll I hb hs ds vs its p h2 rv
    unfold py; exact ⟨_, Reads.list ho hc hd hr⟩
  | .tup ds, v, u, p, h, r => by
    unfold Den at h
    obtain ⟨a, vs, rfl, h1, h2⟩ := h
    cases r
    unfold plD at p
    obtain ⟨its, rv, ⟨o, ho, hc, n, hd⟩, _⟩ := I.tuple (sub_t hb hs h1)
    obtain ⟨as, hr⟩ := den_readsAll I hb hs ds vs its p h2 rv
    unfold py; exact ⟨_, Reads.tuple ho hc hd hr⟩
  | .dic _, _, _, p, _, _ => by unfold plD at p; cases p
  | .dit _, _, _, p, _, _ => by unfold plD at p; cases p
  | .tpl _, _, _, p, _, _ => by unfold plD at p; cases p
  | .twr _, _, _, p, _, _ => by unfold plD at p; cases p
  | .ins _ _, _, _, p, _, _ => by unfold plD at p; cases p
  | .exc _ _, _, _, p, _, _ => by unfold plD at p; cases p
  | .lam _ _, _, _, p, _, _ => by unfold plD at p; cases p
  | .adr _, _, _, p, _, _ => by unfold plD at p; cases p
  | .rg _, _, _, p, _, _ => by unfold plD at p; cases p
theorem den_readsAll (I : Inv X pins σ H s) (hb : Bare Hs) (hs : Sub Hs H) : ∀ (ds : List D) (vs : List V) (us : List Value), plAll ds = true → DenL X.K Hs ds vs → Vals vs us → ∃ as, ReadsAll s.heap us (pyL ds) as
  | [], vs, us, _, h, r => by
    unfold DenL at h; subst h; cases r
    unfold pyL; exact ⟨_, ReadsAll.nil⟩
  | d :: ds, vs, us, p, h, r => by
    unfold DenL at h
    obtain ⟨v, vs', rfl, h1, h2⟩ := h
    unfold plAll at p
    rw [Bool.and_eq_true] at p
    cases r with
    | cons r1 r2 =>
      obtain ⟨as, q1⟩ := den_reads I hb hs d v _ p.1 h1 r1
      obtain ⟨bs, q2⟩ := den_readsAll I hb hs ds vs' _ p.2 h2 r2
      unfold pyL; exact ⟨_, ReadsAll.cons q1 q2⟩
end
end
def okD (d : D) : Bool := plD d && decide ((py d).depth ≤ 40)
theorem okD.pl {d : D} (h : okD d = true) : plD d = true := by unfold okD at h; rw [Bool.and_eq_true] at h; exact h.1
theorem okD.dp {d : D} (h : okD d = true) : (py d).depth ≤ 40 := by unfold okD at h; rw [Bool.and_eq_true] at h; exact of_decide_eq_true h.2
theorem _root_.L2.OpR.imp' {X : Cx} {f : Value → Value → Sem Value} {r r' : R2} (h : OpR X f r) (i : ∀ x y H Q, r' x y H Q → r x y H Q) : OpR X f r' := fun pins s σ H x y v u Q I rx ry q => h pins s σ H x y v u Q I rx ry (i x y H Q q)
theorem _root_.L2.OpR.or' {X : Cx} {f : Value → Value → Sem Value} {r r' : R2} (h : OpR X f r) (h' : OpR X f r') : OpR X f (fun x y H Q => r x y H Q ∨ r' x y H Q) := fun pins s σ H x y v u Q I rx ry q => by
  rcases q with q | q
  · exact h pins s σ H x y v u Q I rx ry q
  · exact h' pins s σ H x y v u Q I rx ry q
def rvB : Option Bool → Rv
  | some b => .old (.bl b)
  | none => .no
def eqD (d e : D) : Option Bool := dEqN 12 d e
def FEq (d e : D) : Rv := rvB (eqD d e)
def FNe (d e : D) : Rv := if okD d = true ∧ okD e = true then .old (.bl (!PyData.eqv (py d) (py e))) else .no
theorem rv_bl {K : PySem.W.Frag} {Hs H : Hp} {Q : VK} {b : Bool} (h : RvPost K Hs H Q (.old (.bl b))) : Q (.bl b) H := h (.bl b) den_bl
theorem rv_int {K : PySem.W.Frag} {Hs H : Hp} {Q : VK} {i : Int} (h : RvPost K Hs H Q (.old (.int i))) : Q (.int i) H := h (.int i) (by unfold Den; rfl)
theorem rv_str {K : PySem.W.Frag} {Hs H : Hp} {Q : VK} {i : Str} (h : RvPost K Hs H Q (.old (.str i))) : Q (.str i) H := h (.str i) (by unfold Den; rfl)
section
variable {X : Cx}
theorem eq_root {pins : List (Addr × Obj)} {σ : St} {H Hs : Hp} {s : Shared} (I : Inv X pins σ H s) (hb : Bare Hs) (hs : Sub Hs H) {n : Nat} {d e : D} {x y : V} {v u : Value} {b : Bool} (hd : Den X.K Hs d x) (he : Den X.K Hs e y) (rx : RelV x v) (ry : RelV y u) (h : dEqN (n + 1) d e = some b) (hu : X.A.units + (n + 1) < cLine)
    {E Q : Value → Shared → Prop} (q : Q (.bool b) s) : wpAny (model X.prog X.w) X.A (compareOp .Eq v u) Q E s := by
  have ih := eq_tree I hb hs n
  have h0 : X.A.units < cLine := by omega
  have sc : isSc d = true → isSc e = true → wpAny (model X.prog X.w) X.A (compareOp .Eq v u) Q E s := fun h1 h2 => by
    have h' := dEqN_sc h1 h2 h
    rcases den_sc hd h1 with ⟨rfl, rfl⟩ | ⟨a, rfl, rfl⟩ | ⟨a, rfl, rfl⟩ | ⟨a, rfl, rfl⟩ <;> rcases den_sc he h2 with ⟨rfl, rfl⟩ | ⟨c, rfl, rfl⟩ | ⟨c, rfl, rfl⟩ | ⟨c, rfl, rfl⟩ <;> simp only [scEq, Option.some.injEq] at h' <;> subst h'
    · cases rx; cases ry; exact SeqAt.RcAt.none_none _ _ E Q q
    · cases rx; cases ry; exact SeqAt.RcAt.none_bool _ _ _ E Q q
    · cases rx; obtain ⟨t, rfl⟩ := ry; exact SeqAt.RcAt.none_int _ _ _ _ E Q q
    · cases rx; obtain ⟨t, rfl⟩ := ry; exact SeqAt.RcAt.none_str _ _ _ _ E Q q
    · cases rx; cases ry; exact SeqAt.RcAt.bool_none _ _ _ E Q q
    · cases rx; cases ry; exact SeqAt.RcAt.bool_bool _ _ _ _ E Q q
    · cases rx; obtain ⟨t, rfl⟩ := ry; exact SeqAt.RcAt.bool_int _ _ _ _ _ E Q q
    · cases rx; obtain ⟨t, rfl⟩ := ry; exact SeqAt.RcAt.bool_str _ _ _ _ _ E Q q
    · obtain ⟨t, rfl⟩ := rx; cases ry; exact SeqAt.RcAt.int_none _ _ _ _ E Q q
    · obtain ⟨t, rfl⟩ := rx; cases ry; exact SeqAt.RcAt.int_bool _ _ _ _ _ E Q q
    · obtain ⟨t, rfl⟩ := rx; obtain ⟨t', rfl⟩ := ry; exact SeqAt.RcAt.int_int _ _ _ _ _ _ E Q q
    · obtain ⟨t, rfl⟩ := rx; obtain ⟨t', rfl⟩ := ry; exact SeqAt.RcAt.int_str _ _ _ _ _ _ E Q q
    · obtain ⟨t, rfl⟩ := rx; cases ry; exact SeqAt.RcAt.str_none _ _ _ _ E Q q
    · obtain ⟨t, rfl⟩ := rx; cases ry; exact SeqAt.RcAt.str_bool _ _ _ _ _ E Q q
    · obtain ⟨t, rfl⟩ := rx; obtain ⟨t', rfl⟩ := ry; exact SeqAt.RcAt.str_int _ _ _ _ _ _ E Q q
    · obtain ⟨t, rfl⟩ := rx; obtain ⟨t', rfl⟩ := ry; exact SeqAt.RcAt.str_str _ _ _ _ _ _ E Q q
  cases d with
  | lst ds =>
    unfold Den at hd
    obtain ⟨a, vs, rfl, p1, q1⟩ := hd
    cases (show v = Value.ref a from rx)
    obtain ⟨its, r1, i1, _⟩ := I.list (.of (sub_raw hs p1 fun z => z))
    cases e with
    | lst es =>
      unfold Den at he
      obtain ⟨a', ws, rfl, p2, q2⟩ := he
      cases (show u = Value.ref a' from ry)
      obtain ⟨jts, r2, i2, _⟩ := I.list (.of (sub_raw hs p2 fun z => z))
      unfold dEqN at h
      have l1 := q1.len
      have l2 := q2.len
      have l3 := r1.length
      have l4 := r2.length
      by_cases el : ds.length = es.length
      · rw [if_pos el] at h
        obtain ⟨bs, hl, rfl, k⟩ := eqAllD_get h
        have ez : its.toArray.size = bs.length := by simp; omega
        refine PySem.W.eq_listsT (n := n) (e := fun j => bs.getD j true) i1.isList i2.isList (by simp; omega) (pair_trees ih q1 q2 r1 r2 hl k) hu ?_
        rw [ez, all_range]; exact q
      · rw [if_neg el] at h
        cases h
        exact SeqAt.RcAt.lists_lengths i1.isList i2.isList (by simp; omega) h0 _ _ E Q q
    | tup es =>
      unfold Den at he
      obtain ⟨a', ws, rfl, p2, q2⟩ := he
      cases (show u = Value.ref a' from ry)
      obtain ⟨jts, r2, i2, _⟩ := I.tuple (sub_t hb hs p2)
      cases h
      exact SeqAt.RcAt.list_tuple i1.isList i2 h0 _ _ E Q q
    | non => cases h; unfold Den at he; subst he; cases ry; exact SeqAt.RcAt.list_none i1.isList h0 _ _ E Q q
    | bl _ => cases h; unfold Den at he; subst he; cases ry; exact SeqAt.RcAt.list_bool _ i1.isList h0 _ _ E Q q
    | int _ => cases h; unfold Den at he; subst he; obtain ⟨t, rfl⟩ := ry; exact SeqAt.RcAt.list_int _ _ i1.isList h0 _ _ E Q q
    | str _ => cases h; unfold Den at he; subst he; obtain ⟨t, rfl⟩ := ry; exact SeqAt.RcAt.list_str _ _ i1.isList h0 _ _ E Q q
    | dic _ => cases h
    | dit _ => cases h
    | tpl _ => cases h
    | twr _ => cases h
    | ins _ _ => cases h
    | exc _ _ => cases h
    | lam _ _ => cases h
    | adr _ => cases h
    | rg _ => cases h
  | tup ds =>
    unfold Den at hd
    obtain ⟨a, vs, rfl, p1, q1⟩ := hd
    cases (show v = Value.ref a from rx)
    obtain ⟨its, r1, i1, _⟩ := I.tuple (sub_t hb hs p1)
    cases e with
    | tup es =>
      unfold Den at he
      obtain ⟨a', ws, rfl, p2, q2⟩ := he
      cases (show u = Value.ref a' from ry)
      obtain ⟨jts, r2, i2, _⟩ := I.tuple (sub_t hb hs p2)
      unfold dEqN at h
      have l1 := q1.len
      have l2 := q2.len
      have l3 := r1.length
      have l4 := r2.length
      cases q0 : eqAllD (dEqN n) ds es with
      | none => rw [q0] at h; cases h
      | some c =>
        rw [q0] at h
        cases h
        obtain ⟨bs, hl, rfl, k⟩ := eqAllD_get q0
        have ez : min its.toArray.size jts.toArray.size = bs.length := by simp; omega
        have ez2 : (its.toArray.size == jts.toArray.size) = decide (ds.length = es.length) := by
          rw [Bool.beq_eq_decide_eq]
          congr 1
          simp
          omega
        refine PySem.W.eq_tuplesT (n := n) (e := fun j => bs.getD j true) i1 i2 (pair_trees ih q1 q2 r1 r2 hl k) hu ?_
        rw [ez, all_range, ez2]; exact q
    | lst es =>
      unfold Den at he
      obtain ⟨a', ws, rfl, p2, q2⟩ := he
      cases (show u = Value.ref a' from ry)
      obtain ⟨jts, r2, i2, _⟩ := I.list (.of (sub_raw hs p2 fun z => z))
      cases h
      exact SeqAt.RcAt.tuple_list i1 i2.isList h0 _ _ E Q q
    | non => cases h; unfold Den at he; subst he; cases ry; exact SeqAt.RcAt.tuple_none i1 h0 _ _ E Q q
    | bl _ => cases h; unfold Den at he; subst he; cases ry; exact SeqAt.RcAt.tuple_bool _ i1 h0 _ _ E Q q
    | int _ => cases h; unfold Den at he; subst he; obtain ⟨t, rfl⟩ := ry; exact SeqAt.RcAt.tuple_int _ _ i1 h0 _ _ E Q q
    | str _ => cases h; unfold Den at he; subst he; obtain ⟨t, rfl⟩ := ry; exact SeqAt.RcAt.tuple_str _ _ i1 h0 _ _ E Q q
    | dic _ => cases h
    | dit _ => cases h
    | tpl _ => cases h
    | twr _ => cases h
    | ins _ _ => cases h
    | exc _ _ => cases h
    | lam _ _ => cases h
    | adr _ => cases h
    | rg _ => cases h
  | dic ks =>
    cases e with
    | dic ls =>
      unfold Den at hd he
      obtain ⟨a, kvs, rfl, p1, q1⟩ := hd
      obtain ⟨a', lvs, rfl, p2, q2⟩ := he
      cases (show v = Value.ref a from rx)
      cases (show u = Value.ref a' from ry)
      obtain ⟨_, n1, vs, kv, dd⟩ := dk_rd I.hok (sub_rd hs p1)
      obtain ⟨_, n2, ws, lv, de⟩ := dk_rd I.hok (sub_rd hs p2)
      unfold dEqN at h
      cases q0 : eqKvD (dEqN n) ls ks with
      | none => rw [q0] at h; cases h
      | some c =>
        rw [q0] at h
        cases h
        obtain ⟨t, e1⟩ := dict_trees ih q1 q2 kv lv dd q0
        refine PySem.W.eq_dictsT n1 n2 dd de t hu ?_
        rw [e1]; exact q
    | lst _ => cases h
    | tup _ => cases h
    | non => cases h
    | bl _ => cases h
    | int _ => cases h
    | str _ => cases h
    | dit _ => cases h
    | tpl _ => cases h
    | twr _ => cases h
    | ins _ _ => cases h
    | exc _ _ => cases h
    | lam _ _ => cases h
    | adr _ => cases h
    | rg _ => cases h
  | dit _ => cases e <;> cases h
  | tpl _ => cases e <;> cases h
  | twr _ => cases e <;> cases h
  | ins _ _ => cases e <;> cases h
  | exc _ _ => cases e <;> cases h
  | lam _ _ => cases e <;> cases h
  | adr _ => cases e <;> cases h
  | rg _ => cases e <;> cases h
  | non =>
    cases e with
    | lst es =>
      unfold Den at hd he; subst hd; cases rx
      obtain ⟨a', ws, rfl, p2, q2⟩ := he
      cases (show u = Value.ref a' from ry)
      obtain ⟨jts, r2, i2, _⟩ := I.list (.of (sub_raw hs p2 fun z => z))
      cases h; exact SeqAt.RcAt.none_list i2.isList h0 _ _ E Q q
    | tup es =>
      unfold Den at hd he; subst hd; cases rx
      obtain ⟨a', ws, rfl, p2, q2⟩ := he
      cases (show u = Value.ref a' from ry)
      obtain ⟨jts, r2, i2, _⟩ := I.tuple (sub_t hb hs p2)
      cases h; exact SeqAt.RcAt.none_tuple i2 h0 _ _ E Q q
    | dic _ => cases h
    | dit _ => cases h
    | tpl _ => cases h
    | twr _ => cases h
    | ins _ _ => cases h
    | exc _ _ => cases h
    | lam _ _ => cases h
    | adr _ => cases h
    | rg _ => cases h
    | _ => exact sc rfl rfl
  | bl b1 =>
    cases e with
    | lst es =>
      unfold Den at hd he; subst hd; cases rx
      obtain ⟨a', ws, rfl, p2, q2⟩ := he
      cases (show u = Value.ref a' from ry)
      obtain ⟨jts, r2, i2, _⟩ := I.list (.of (sub_raw hs p2 fun z => z))
      cases h; exact SeqAt.RcAt.bool_list _ i2.isList h0 _ _ E Q q
    | tup es =>
      unfold Den at hd he; subst hd; cases rx
      obtain ⟨a', ws, rfl, p2, q2⟩ := he
      cases (show u = Value.ref a' from ry)
      obtain ⟨jts, r2, i2, _⟩ := I.tuple (sub_t hb hs p2)
      cases h; exact SeqAt.RcAt.bool_tuple _ i2 h0 _ _ E Q q
    | dic _ => cases h
    | dit _ => cases h
    | tpl _ => cases h
    | twr _ => cases h
    | ins _ _ => cases h
    | exc _ _ => cases h
    | lam _ _ => cases h
    | adr _ => cases h
    | rg _ => cases h
    | _ => exact sc rfl rfl
  | int b1 =>
    cases e with
    | lst es =>
      unfold Den at hd he; subst hd; obtain ⟨t, rfl⟩ := rx
      obtain ⟨a', ws, rfl, p2, q2⟩ := he
      cases (show u = Value.ref a' from ry)
      obtain ⟨jts, r2, i2, _⟩ := I.list (.of (sub_raw hs p2 fun z => z))
      cases h; exact SeqAt.RcAt.int_list _ _ i2.isList h0 _ _ E Q q
    | tup es =>
      unfold Den at hd he; subst hd; obtain ⟨t, rfl⟩ := rx
      obtain ⟨a', ws, rfl, p2, q2⟩ := he
      cases (show u = Value.ref a' from ry)
      obtain ⟨jts, r2, i2, _⟩ := I.tuple (sub_t hb hs p2)
      cases h; exact SeqAt.RcAt.int_tuple _ _ i2 h0 _ _ E Q q
    | dic _ => cases h
    | dit _ => cases h
    | tpl _ => cases h
    | twr _ => cases h
    | ins _ _ => cases h
    | exc _ _ => cases h
    | lam _ _ => cases h
    | adr _ => cases h
    | rg _ => cases h
    | _ => exact sc rfl rfl
  | str b1 =>
    cases e with
    | lst es =>
      unfold Den at hd he; subst hd; obtain ⟨t, rfl⟩ := rx
      obtain ⟨a', ws, rfl, p2, q2⟩ := he
      cases (show u = Value.ref a' from ry)
      obtain ⟨jts, r2, i2, _⟩ := I.list (.of (sub_raw hs p2 fun z => z))
      cases h; exact SeqAt.RcAt.str_list _ _ i2.isList h0 _ _ E Q q
    | tup es =>
      unfold Den at hd he; subst hd; obtain ⟨t, rfl⟩ := rx
      obtain ⟨a', ws, rfl, p2, q2⟩ := he
      cases (show u = Value.ref a' from ry)
      obtain ⟨jts, r2, i2, _⟩ := I.tuple (sub_t hb hs p2)
      cases h; exact SeqAt.RcAt.str_tuple _ _ i2 h0 _ _ E Q q
    | dic _ => cases h
    | dit _ => cases h
    | tpl _ => cases h
    | twr _ => cases h
    | ins _ _ => cases h
    | exc _ _ => cases h
    | lam _ _ => cases h
    | adr _ => cases h
    | rg _ => cases h
    | _ => exact sc rfl rfl
end
section
variable {X : Cx} {k : Nat}
theorem opD {f : Value → Value → Sem Value} {F : D → D → Rv}
    (rule : ∀ (pins : List (Addr × Obj)) (s : Shared) (σ : St) (H Hs : Hp) (d e : D) (x y : V) (v u : Value) (Q : VK), Inv X pins σ H s → Bare Hs → Sub Hs H → Den X.K Hs d x → Den X.K Hs e y → RelV x v → RelV y u → RvPost X.K Hs H Q (F d e) → wpAny (model X.prog X.w) X.A (f v u) (EP X pins σ Q) X.xe s)
    (hf : ∀ d e d', F d e = .old d' → ∀ Hs v, Den X.K Hs d' v → ∀ Hs', Den X.K Hs' d' v) (hn : ∀ d e d', F d e ≠ .nw d') : OpR X f (rD2 X.K F) := by
  intro pins s σ H x y v u Q I rx ry ⟨Hs, d, e, b, su, h1, h2, q⟩
  obtain ⟨Hs', l, b', s', d1, d2⟩ := h1.up2 b.1 su h2 b.2.1 b.2.2
  refine rule pins s σ H Hs' d e x y v u Q I b' s' d1 d2 rx ry ?_
  cases q0 : F d e with
  | no => rw [q0] at q; exact q
  | nw d' => exact absurd q0 (hn d e d')
  | old d' =>
    rw [q0] at q
    exact fun v' dn => q v' (hf d e d' q0 _ _ dn _)
theorem flat_den {K : PySem.W.Frag} {d : D} (h : isSc d = true) {Hs : Hp} {v : V} (dn : Den K Hs d v) (Hs' : Hp) : Den K Hs' d v := by
  rcases den_sc dn h with ⟨rfl, rfl⟩ | ⟨a, rfl, rfl⟩ | ⟨a, rfl, rfl⟩ | ⟨a, rfl, rfl⟩ <;> (unfold Den; rfl)
def flatRv : Rv → Prop
  | .old d' => isSc d' = true
  | .nw _ => False
  | .no => True
def FlatF (F : D → D → Rv) : Prop := ∀ d e, flatRv (F d e)
theorem opF {f : Value → Value → Sem Value} {F : D → D → Rv} (hf : FlatF F)
    (rule : ∀ (pins : List (Addr × Obj)) (s : Shared) (σ : St) (H Hs : Hp) (d e : D) (x y : V) (v u : Value) (Q : VK), Inv X pins σ H s → Bare Hs → Sub Hs H → Den X.K Hs d x → Den X.K Hs e y → RelV x v → RelV y u → RvPost X.K Hs H Q (F d e) → wpAny (model X.prog X.w) X.A (f v u) (EP X pins σ Q) X.xe s) : OpR X f (rD2 X.K F) :=
  opD rule (fun d e d' h Hs v dn Hs' => flat_den (by have := hf d e; rw [h] at this; exact this) dn Hs') fun d e d' h => by have := hf d e; rw [h] at this; exact this
theorem flat_rvB {o : Option Bool} : flatRv (rvB o) := by
  cases o with
  | none => trivial
  | some b => exact rfl
theorem rvB_post {K : PySem.W.Frag} {Hs H : Hp} {Q : VK} {o : Option Bool} (h : RvPost K Hs H Q (rvB o)) : ∃ b, o = some b ∧ Q (.bl b) H := by
  cases o with
  | none => exact h.elim
  | some b => exact ⟨b, rfl, rv_bl h⟩
theorem r_eq (r : Room k X.A) : OpR X (compareOp .Eq) (rD2 X.K FEq) := opF (fun d e => flat_rvB) fun pins s σ H Hs d e x y v u Q I hb hs h1 h2 rx ry q => by
  obtain ⟨b, e1, q⟩ := rvB_post q
  have := r.units
  exact eq_root (n := 11) I hb hs h1 h2 rx ry e1 (by omega) ⟨.bl b, H, I, rfl, q⟩
theorem ite_rv {K : PySem.W.Frag} {Hs H : Hp} {Q : VK} {c : Prop} [Decidable c] {a : Rv} (h : RvPost K Hs H Q (if c then a else .no)) : c ∧ RvPost K Hs H Q a := by
  by_cases q : c
  · rw [if_pos q] at h; exact ⟨q, h⟩
  · rw [if_neg q] at h; exact h.elim
theorem ite_flat {c : Prop} [Decidable c] {b : Bool} : flatRv (if c then Rv.old (.bl b) else .no) := by
  by_cases h : c
  · rw [if_pos h]; exact rfl
  · rw [if_neg h]; trivial
theorem r_ne (r : Room k X.A) : OpR X (compareOp .NotEq) (rD2 X.K FNe) := opF (fun d e => ite_flat) fun pins s σ H Hs d e x y v u Q I hb hs h1 h2 rx ry q => by
  obtain ⟨⟨o1, o2⟩, q⟩ := ite_rv q
  obtain ⟨as, r1⟩ := den_reads I hb hs d x v (okD.pl o1) h1 rx
  obtain ⟨bs, r2⟩ := den_reads I hb hs e y u (okD.pl o2) h2 ry
  have := r.units
  have := okD.dp o1
  exact SeqAt.ne_plain r1 r2 (py_plain _ (okD.pl o1)) (py_plain _ (okD.pl o2)) (by omega) ⟨.bl _, H, I, rfl, rv_bl q⟩
def nonD : D → Bool
  | .non => true
  | _ => false
def cmpOk (d e : D) : Prop := okD d = true ∧ okD e = true ∧ PySem.W.alike (py d) (py e) = true ∧ nonD d = false
instance {d e : D} : Decidable (cmpOk d e) := inferInstanceAs (Decidable (_ ∧ _ ∧ _ ∧ _))
def ltD (d e : D) : Bool := PySem.W.dataLt (py d) (py e)
def FLt (d e : D) : Rv := if cmpOk d e then .old (.bl (ltD d e)) else .no
def FGt (d e : D) : Rv := if cmpOk d e then .old (.bl (ltD e d)) else .no
def FLe (d e : D) : Rv := if cmpOk d e then .old (.bl (!ltD e d)) else .no
def FGe (d e : D) : Rv := if cmpOk d e then .old (.bl (!ltD d e)) else .no
theorem py_non {d : D} (h : nonD d = false) (o : okD d = true) : py d ≠ .none := by
  have o' := okD.pl o
  cases d <;> unfold plD at o' <;> unfold py <;> first
    | (intro z; cases z; done)
    | (cases h; done)
    | (cases o'; done)
theorem r_gt (r : Room k X.A) : OpR X (compareOp .Gt) (rD2 X.K FGt) := opF (fun d e => ite_flat) fun pins s σ H Hs d e x y v u Q I hb hs h1 h2 rx ry q => by
  obtain ⟨⟨o1, o2, o3, o4⟩, q⟩ := ite_rv q
  obtain ⟨as, r1⟩ := den_reads I hb hs d x v (okD.pl o1) h1 rx
  obtain ⟨bs, r2⟩ := den_reads I hb hs e y u (okD.pl o2) h2 ry
  have := r.units
  have := okD.dp o1
  exact PySem.W.gt_data r1 r2 o3 (py_non o4 o1) (by omega) ⟨.bl _, H, I, rfl, rv_bl q⟩
theorem r_le (r : Room k X.A) : OpR X (compareOp .LtE) (rD2 X.K FLe) := opF (fun d e => ite_flat) fun pins s σ H Hs d e x y v u Q I hb hs h1 h2 rx ry q => by
  obtain ⟨⟨o1, o2, o3, o4⟩, q⟩ := ite_rv q
  obtain ⟨as, r1⟩ := den_reads I hb hs d x v (okD.pl o1) h1 rx
  obtain ⟨bs, r2⟩ := den_reads I hb hs e y u (okD.pl o2) h2 ry
  have := r.units
  have := okD.dp o1
  exact PySem.W.le_data r1 r2 o3 (py_non o4 o1) (by omega) ⟨.bl _, H, I, rfl, rv_bl q⟩
def dK : D → Option Key
  | .int i => some (.inl i)
  | .str x => some (.inr x)
  | _ => none
def anyD (d : D) (xs : List D) : Option Bool := if okD d = true ∧ xs.all okD = true then some (xs.any fun y => PyData.eqv (py y) (py d)) else none
def inD (d e : D) : Option Bool := match e with
  | .lst xs => anyD d xs
  | .tup xs => anyD d xs
  | .dic ks => (dK d).map fun k => (lookD ks k).isSome
  | .str y => match d with
    | .str x => some (!(Builtin.Str.occurrences y x 0 y.length 1).isEmpty)
    | _ => none
  | _ => none
def FIn (d e : D) : Rv := rvB (inD d e)
def FNotIn (d e : D) : Rv := rvB ((inD d e).map fun b => !b)
theorem den_key {K : PySem.W.Frag} {Hs : Hp} {d : D} {k : Key} {x : V} (h : dK d = some k) (dn : Den K Hs d x) : x = kV k := by
  cases d with
  | int i => cases h; unfold Den at dn; exact dn
  | str i => cases h; unfold Den at dn; exact dn
  | _ => cases h
theorem oks_plain : ∀ {xs : List D}, xs.all okD = true → plAll xs = true ∧ PyData.depthAll (pyL xs) ≤ 40
  | [], _ => by unfold plAll pyL PyData.depthAll; simp
  | x :: xs, h => by
    rw [List.all_cons, Bool.and_eq_true] at h
    obtain ⟨h1, h2⟩ := oks_plain h.2
    unfold plAll pyL PyData.depthAll
    have := okD.dp h.1
    exact ⟨by rw [okD.pl h.1, h1]; rfl, by omega⟩
theorem dget_of {K : PySem.W.Frag} {Hs H : Hp} {a : Addr} {kvs : List (Key × V)} {ks : List (Key × D)} (p : Rd H a (.dK kvs)) (q : DenK K Hs ks kvs) (k : Key) : ∃ o, DGet H a (kV k) o ∧ o.isSome = (lookD ks k).isSome ∧ ∀ d, lookD ks k = some d → ∃ v, o = some v ∧ Den K Hs d v := by
  refine ⟨valV kvs k, .inl ⟨kvs, k, p, rfl, rfl⟩, ?_, fun d e => q.look.1 d e⟩
  cases e : lookD ks k with
  | none => rw [q.look.2 e]; rfl
  | some d =>
    obtain ⟨v, e1, _⟩ := q.look.1 d e
    rw [e1]; rfl
theorem in_run {neg : Bool} (r : Room k X.A) {op : CmpOp} (hop : op = if neg = true then .NotIn else .In) : OpR X (compareOp op) (rD2 X.K fun d e => rvB ((inD d e).map fun b => if neg = true then !b else b)) := opF (fun d e => flat_rvB) fun pins s σ H Hs d e x y v u Q I hb hs h1 h2 rx ry q => by
  subst hop
  obtain ⟨b, e1, q⟩ := rvB_post q
  obtain ⟨c, e2, rfl⟩ := Option.map_eq_some_iff.mp e1
  have hu := r.units
  cases e with
  | lst xs =>
    have e2 : anyD d xs = some c := e2
    unfold anyD at e2
    by_cases o : okD d = true ∧ xs.all okD = true
    · rw [if_pos o] at e2
      cases e2
      obtain ⟨o1, o2⟩ := o
      obtain ⟨p1, p2⟩ := oks_plain o2
      obtain ⟨as, r1⟩ := den_reads I hb hs d x v (okD.pl o1) h1 rx
      obtain ⟨bs, r2⟩ := den_reads I hb hs (.lst xs) y u (by unfold plD; exact p1) h2 ry
      unfold py at r2
      have := okD.dp o1
      have e3 : (pyL xs).any (fun z => PyData.eqv z (py d)) = xs.any fun z => PyData.eqv (py z) (py d) := by rw [pyL_map, List.any_map]; rfl
      cases neg with
      | false => exact SeqAt.in_list_data r2 r1 (pyL_plain _ p1) (py_plain _ (okD.pl o1)) (by omega) ⟨.bl _, H, I, rfl, by rw [e3]; exact q⟩
      | true => exact SeqAt.notIn_list_data r2 r1 (pyL_plain _ p1) (py_plain _ (okD.pl o1)) (by omega) ⟨.bl _, H, I, rfl, by rw [e3]; exact q⟩
    · rw [if_neg o] at e2; cases e2
  | tup xs =>
    have e2 : anyD d xs = some c := e2
    unfold anyD at e2
    by_cases o : okD d = true ∧ xs.all okD = true
    · rw [if_pos o] at e2
      cases e2
      obtain ⟨o1, o2⟩ := o
      obtain ⟨p1, p2⟩ := oks_plain o2
      obtain ⟨as, r1⟩ := den_reads I hb hs d x v (okD.pl o1) h1 rx
      obtain ⟨bs, r2⟩ := den_reads I hb hs (.tup xs) y u (by unfold plD; exact p1) h2 ry
      unfold py at r2
      have := okD.dp o1
      have e3 : (pyL xs).any (fun z => PyData.eqv z (py d)) = xs.any fun z => PyData.eqv (py z) (py d) := by rw [pyL_map, List.any_map]; rfl
      cases neg with
      | false => exact SeqAt.in_tuple_data r2 r1 (pyL_plain _ p1) (py_plain _ (okD.pl o1)) (by omega) ⟨.bl _, H, I, rfl, by rw [e3]; exact q⟩
      | true => exact SeqAt.notIn_tuple_data r2 r1 (pyL_plain _ p1) (py_plain _ (okD.pl o1)) (by omega) ⟨.bl _, H, I, rfl, by rw [e3]; exact q⟩
    · rw [if_neg o] at e2; cases e2
  | dic ks =>
    have e2 : (dK d).map (fun k => (lookD ks k).isSome) = some c := e2
    obtain ⟨k', e3, rfl⟩ := Option.map_eq_some_iff.mp e2
    have ex := den_key e3 h1
    subst ex
    unfold Den at h2
    obtain ⟨a, kvs, rfl, p2, q2⟩ := h2
    cases (show u = Value.ref a from ry)
    obtain ⟨o, g, e4, _⟩ := dget_of (sub_rd hs p2) q2 k'
    cases neg with
    | false => exact d_in (by omega) I g rx fun s' I' => ⟨.bl _, H, I', rfl, by rw [e4]; exact q⟩
    | true => exact d_notIn (by omega) I g rx fun s' I' => ⟨.bl _, H, I', rfl, by rw [e4]; exact q⟩
  | str y' =>
    cases d with
    | str x' =>
      cases e2
      unfold Den at h1 h2
      subst h1 h2
      cases neg with
      | false => exact op_in_str pins s σ H _ _ v u Q I rx ry ⟨_, _, rfl, rfl, q⟩
      | true => exact op_notin_str pins s σ H _ _ v u Q I rx ry ⟨_, _, rfl, rfl, q⟩
    | _ => cases e2
  | _ => cases e2
theorem r_in (r : Room k X.A) : OpR X (compareOp .In) (rD2 X.K FIn) := (in_run (neg := false) r rfl).imp' fun x y H Q ⟨Hs, d, e, b, s, h1, h2, q⟩ => ⟨Hs, d, e, b, s, h1, h2, by
  show RvPost _ _ _ _ (rvB ((inD d e).map fun b => b))
  rw [Option.map_id']; exact q⟩
theorem r_notIn (r : Room k X.A) : OpR X (compareOp .NotIn) (rD2 X.K FNotIn) := in_run (neg := true) r rfl
def isD : D → D → Option Bool
  | d, .non => some (nonD d)
  | .bl a, .bl b => some (decide (a = b))
  | _, _ => none
def FIs (d e : D) : Rv := rvB (isD d e)
def FIsNot (d e : D) : Rv := rvB ((isD d e).map fun b => !b)
end
section
variable {X : Cx} {k : Nat}
def FAdd (d e : D) : Rv := match d, e with
  | .int i, .int j => .old (.int (i + j))
  | .str a, .str b => if a.length + b.length ≤ sizeLine then .old (.str (a ++ b)) else .no
  | .lst xs, .lst ys => if xs.length + ys.length ≤ sizeLine then .nw (.lst (xs ++ ys)) else .no
  | .tup xs, .tup ys => if xs.length + ys.length ≤ sizeLine then (if xs = [] then .old (.tup ys) else if ys = [] then .old (.tup xs) else .nw (.tup (xs ++ ys))) else .no
  | _, _ => .no
def FSub (d e : D) : Rv := match d, e with
  | .int i, .int j => .old (.int (i - j))
  | _, _ => .no
instance {i j : Int} : Decidable (CMul i j) := inferInstanceAs (Decidable (_ ∨ _))
instance {i j : Int} : Decidable (CDiv i j) := inferInstanceAs (Decidable (_ ∧ _))
instance {i j : Int} : Decidable (CPow i j) := inferInstanceAs (Decidable (_ ∧ _ ∧ _))
def FMul (d e : D) : Rv := match d, e with
  | .int i, .int j => if CMul i j then .old (.int (i * j)) else .no
  | .lst xs, .int k => if -(2 ^ 63) ≤ k ∧ k < 2 ^ 63 ∧ xs.length * k.toNat ≤ sizeLine then .nw (.lst (List.replicate k.toNat xs).flatten) else .no
  | .tup xs, .int k => if xs ≠ [] ∧ 2 ≤ k ∧ k ≤ 1000 ∧ xs.length ≤ 1000 then .nw (.tup (List.replicate k.toNat xs).flatten) else .no
  | _, _ => .no
def FMod (d e : D) : Rv := match d, e with
  | .int i, .int j => if 0 < j then .old (.int (i % j)) else .no
  | _, _ => .no
def FDiv (d e : D) : Rv := match d, e with
  | .int i, .int j => if CDiv i j then .old (.int (i / j)) else .no
  | _, _ => .no
def FPow (d e : D) : Rv := match d, e with
  | .int i, .int j => if CPow i j then .old (.int (i ^ j.toNat)) else .no
  | _, _ => .no
def FNeg (d : D) : Rv := match d with
  | .int i => .old (.int (-i))
  | _ => .no
theorem raw_lst {K : PySem.W.Frag} {Hs H : Hp} {ds : List D} {x : V} (h : DenH K Hs H (.lst ds) x) : ∃ a vs, x = .ref a ∧ H a = some (.lst vs) ∧ DenL K Hs ds vs := h
theorem denH_tup {K : PySem.W.Frag} {Hs H : Hp} (b : Bare Hs) (s : Sub Hs H) {ds : List D} {x : V} (h : DenH K Hs H (.tup ds) x) : ∃ a vs, x = .ref a ∧ SqT K Hs a vs ∧ SqT K H a vs ∧ DenL K Hs ds vs := by
  unfold DenH Den at h
  obtain ⟨a, vs, e, h1, h2⟩ := h
  exact ⟨a, vs, e, h1, sub_t b s h1, h2⟩
theorem DenL.nil_iff {K : PySem.W.Frag} {Hs : Hp} {ds : List D} {vs : List V} (h : DenL K Hs ds vs) : vs = [] ↔ ds = [] := by
  have e := h.len
  constructor
  · intro z; subst z; exact List.length_eq_zero_iff.mp e.symm
  · intro z; subst z; exact List.length_eq_zero_iff.mp e
theorem DenL.rep {K : PySem.W.Frag} {Hs : Hp} {ds : List D} {vs : List V} (h : DenL K Hs ds vs) : ∀ n, DenL K Hs (List.replicate n ds).flatten (List.replicate n vs).flatten
  | 0 => .nil
  | n + 1 => by
    rw [List.replicate_succ, List.replicate_succ, List.flatten_cons, List.flatten_cons]
    exact h.append (DenL.rep h n)
theorem r_add : OpR X (binaryOp .Add) (rD2 X.K FAdd) := by
  refine (((op_add.or' op_add_str).or' op_cat).or' op_catA).imp' fun x y H Q ⟨Hs, d, e, b, s, h1, h2, q⟩ => ?_
  cases d with
  | int i =>
    cases e with
    | int j =>
      have := denH_int h1; have := denH_int h2; subst_vars
      exact .inl (.inl (.inl ⟨i, j, rfl, rfl, rv_int q⟩))
    | _ => exact q.elim
  | str i =>
    cases e with
    | str j =>
      have := denH_str h1; have := denH_str h2; subst_vars
      obtain ⟨c, q⟩ := ite_rv q
      exact .inl (.inl (.inr ⟨i, j, rfl, rfl, c, rv_str q⟩))
    | _ => exact q.elim
  | lst xs =>
    cases e with
    | lst ys =>
      obtain ⟨a, vs, rfl, p1, q1⟩ := raw_lst h1
      obtain ⟨a', ws, rfl, p2, q2⟩ := raw_lst h2
      obtain ⟨c, q⟩ := ite_rv q
      exact .inl (.inr ⟨a, a', vs, ws, rfl, rfl, p1, p2, by rw [q1.len, q2.len]; exact c, fun p hp => q p _ hp (den_lst (q1.append q2))⟩)
    | _ => exact q.elim
  | tup xs =>
    cases e with
    | tup ys =>
      obtain ⟨a, vs, rfl, p1, p1', q1⟩ := denH_tup b.1 s h1
      obtain ⟨a', ws, rfl, p2, p2', q2⟩ := denH_tup b.1 s h2
      obtain ⟨c, q⟩ := ite_rv q
      refine .inr ⟨a, a', vs, ws, rfl, rfl, p1', p2', by rw [q1.len, q2.len]; exact c, fun z => ?_, fun z1 z2 => ?_, fun z1 z2 p hp => ?_⟩
      · rw [if_pos (q1.nil_iff.mp z)] at q
        exact q _ (by unfold Den; exact ⟨a', ws, rfl, p2, q2⟩)
      · rw [if_neg (fun z => z1 (q1.nil_iff.mpr z)), if_pos (q2.nil_iff.mp z2)] at q
        exact q _ (by unfold Den; exact ⟨a, vs, rfl, p1, q1⟩)
      · rw [if_neg (fun z => z1 (q1.nil_iff.mpr z)), if_neg (fun z => z2 (q2.nil_iff.mpr z))] at q
        exact q p _ hp (den_tup (q1.append q2))
    | _ => exact q.elim
  | _ => cases e <;> exact q.elim
theorem r_mul : OpR X (binaryOp .Mult) (rD2 X.K FMul) := by
  refine ((op_mul.or' op_rep).or' op_repT).imp' fun x y H Q ⟨Hs, d, e, b, s, h1, h2, q⟩ => ?_
  cases d with
  | int i =>
    cases e with
    | int j =>
      have := denH_int h1; have := denH_int h2; subst_vars
      obtain ⟨c, q⟩ := ite_rv q
      exact .inl (.inl ⟨i, j, rfl, rfl, c, rv_int q⟩)
    | _ => exact q.elim
  | lst xs =>
    cases e with
    | int j =>
      have := denH_int h2; subst this
      obtain ⟨a, vs, rfl, p1, q1⟩ := raw_lst h1
      obtain ⟨⟨c1, c2, c3⟩, q⟩ := ite_rv q
      exact .inl (.inr ⟨a, j, vs, rfl, rfl, p1, c1, c2, by rw [q1.len]; exact c3, fun p hp => q p _ hp (den_lst (q1.rep _))⟩)
    | _ => exact q.elim
  | tup xs =>
    cases e with
    | int j =>
      have := denH_int h2; subst this
      obtain ⟨a, vs, rfl, p1, p1', q1⟩ := denH_tup b.1 s h1
      obtain ⟨⟨c0, c1, c2, c3⟩, q⟩ := ite_rv q
      exact .inr ⟨a, j, vs, rfl, rfl, p1', fun z => c0 (q1.nil_iff.mp z), c1, c2, by rw [q1.len]; exact c3, fun p hp => q p _ hp (den_tup (q1.rep _))⟩
    | _ => exact q.elim
  | _ => cases e <;> exact q.elim
theorem r_mod : OpR X (binaryOp .Mod) (rD2 X.K FMod) := op_mod.imp' fun x y H Q ⟨Hs, d, e, b, s, h1, h2, q⟩ => by
  cases d with
  | int i =>
    cases e with
    | int j =>
      have := denH_int h1; have := denH_int h2; subst_vars
      obtain ⟨c, q⟩ := ite_rv q
      exact ⟨i, j, rfl, rfl, c, rv_int q⟩
    | _ => exact q.elim
  | _ => cases e <;> exact q.elim
theorem r_div : OpR X (binaryOp .FloorDiv) (rD2 X.K FDiv) := op_fdiv.imp' fun x y H Q ⟨Hs, d, e, b, s, h1, h2, q⟩ => by
  cases d with
  | int i =>
    cases e with
    | int j =>
      have := denH_int h1; have := denH_int h2; subst_vars
      obtain ⟨c, q⟩ := ite_rv q
      exact ⟨i, j, rfl, rfl, c, rv_int q⟩
    | _ => exact q.elim
  | _ => cases e <;> exact q.elim
theorem r_pow : OpR X (binaryOp .Pow) (rD2 X.K FPow) := op_pow.imp' fun x y H Q ⟨Hs, d, e, b, s, h1, h2, q⟩ => by
  cases d with
  | int i =>
    cases e with
    | int j =>
      have := denH_int h1; have := denH_int h2; subst_vars
      obtain ⟨c, q⟩ := ite_rv q
      exact ⟨i, j, rfl, rfl, c, rv_int q⟩
    | _ => exact q.elim
  | _ => cases e <;> exact q.elim
theorem r_neg : UnR X (unaryOp .USub) (rD1 X.K FNeg) := fun pins s σ H x v Q I rx ⟨Hs, d, b, su, h1, q⟩ => by
  cases d with
  | int i =>
    have := denH_int h1; subst this
    exact un_neg pins s σ H _ v Q I rx ⟨i, rfl, rv_int q⟩
  | _ => exact q.elim
def getD2 (d e : D) : Option D := match d, e with
  | .lst xs, .int i => atI xs i
  | .tup xs, .int i => atI xs i
  | .str z, .int i => if z.length ≤ sizeLine then (atI z.cps.toList i).map fun c => .str ⟨#[c]⟩ else none
  | .dic ks, e => (dK e).bind fun k => lookD ks k
  | _, _ => none
def FGet (d e : D) : Rv := match getD2 d e with
  | some x => .old x
  | none => .no
theorem get_post {K : PySem.W.Frag} {Hs H : Hp} {Q : VK} {d e : D} (h : RvPost K Hs H Q (FGet d e)) : ∃ x, getD2 d e = some x ∧ ∀ v, Den K Hs x v → Q v H := by
  unfold FGet at h
  cases q : getD2 d e with
  | none => rw [q] at h; exact h.elim
  | some x => rw [q] at h; exact ⟨x, rfl, h⟩
theorem atI_den {K : PySem.W.Frag} {Hs : Hp} {ds : List D} {vs : List V} {i : Int} {x : D} (q : DenL K Hs ds vs) (h : atI ds i = some x) : ∃ v, atI vs i = some v ∧ Den K Hs x v := by
  unfold atI at h ⊢
  rw [q.len]
  cases e : ixN ds.length i with
  | none => rw [e] at h; cases h
  | some j =>
    rw [e] at h
    exact q.get h
variable {E : XK} {a b : Expr} {ga gb : M A} {pos : Pos}
theorem ix_dict (hu : X.A.units + 1 < cLine) : IxR X (fun x y H Q => ∃ a v, x = .ref a ∧ DGet H a y (some v) ∧ Q v H) := by
  intro value slice pins s σ H x y v u Q I rx ry ⟨a, w, ex, g, q⟩ hs
  subst ex
  cases (show v = Value.ref a from rx)
  exact tail_any (dict_typeIs I g) PySem.F.slot_dict_getitem.lookup (d_getItem hu I g ry fun w' s' I' rw' => ⟨w, H, I', rw', q⟩) hs
theorem _root_.L2.IxR.imp' {r r' : R2} (h : IxR X r) (i : ∀ x y H Q, r' x y H Q → r x y H Q) : IxR X r' := fun value slice pins s σ H x y v u Q I rx ry q hs => h value slice pins s σ H x y v u Q I rx ry (i x y H Q q) hs
theorem r_ix (r : Room k X.A) : IxR X (rD2 X.K FGet) := by
  have hu := r.units
  refine (ix_seq.or (ix_dict (by omega))).imp' fun x y H Q ⟨Hs, d, e, b, s, dx, dy, q⟩ => ?_
  obtain ⟨z, e3, qq⟩ := get_post q
  cases d with
  | lst xs =>
    cases e with
    | int i =>
      have := denH_int dy; subst this
      obtain ⟨p, vs, rfl, p1, q1⟩ := raw_lst dx
      obtain ⟨v, e4, dv⟩ := atI_den q1 e3
      exact .inl (.inl ⟨p, vs, i, v, rfl, rfl, .of p1, e4, qq v dv⟩)
    | _ => cases e3
  | tup xs =>
    cases e with
    | int i =>
      have := denH_int dy; subst this
      obtain ⟨p, vs, rfl, p1, p1', q1⟩ := denH_tup b.1 s dx
      obtain ⟨v, e4, dv⟩ := atI_den q1 e3
      exact .inl (.inr (.inl ⟨p, vs, i, v, rfl, rfl, p1', e4, qq v dv⟩))
    | _ => cases e3
  | str w =>
    cases e with
    | int i =>
      have := denH_int dy; have := denH_str dx; subst_vars
      have e3' : (if w.length ≤ sizeLine then (atI w.cps.toList i).map fun c => D.str ⟨#[c]⟩ else none) = some z := e3
      by_cases c : w.length ≤ sizeLine
      · rw [if_pos c] at e3'
        obtain ⟨u, e4, rfl⟩ := Option.map_eq_some_iff.mp e3'
        exact .inl (.inr (.inr ⟨w, i, u, rfl, rfl, c, e4, qq _ (by unfold Den; rfl)⟩))
      · rw [if_neg c] at e3'; cases e3'
    | _ => cases e3
  | dic ks =>
    have e3' : (dK e).bind (fun k => lookD ks k) = some z := e3
    obtain ⟨k', e4, e5⟩ := Option.bind_eq_some_iff.mp e3'
    have ey : y = kV k' := by
      cases e with
      | int i => cases e4; exact denH_int dy
      | str i => cases e4; exact denH_str dy
      | _ => cases e4
    subst ey
    obtain ⟨p, kvs, rfl, p1, q1⟩ := dx
    obtain ⟨o, g, _, e6⟩ := dget_of p1 q1 k'
    obtain ⟨v, rfl, dv⟩ := e6 z e5
    exact .inr ⟨p, v, rfl, g, qq v dv⟩
  | _ => cases e3
variable {E : XK} {a b e : Expr} {ga gb : M A} {pos p2 : Pos} {lo hi : Option Expr}
theorem de_sub (r : Room k X.A) (ha : DE X E a ga) (hb : DE X E b gb) (h1 : PlainIx b := by exact fun _ _ => rfl) : DE X E (.Subscript a b pos) (gOp2 FGet ga gb) := de_ix (r_ix r) ha hb h1
def PostO (K : PySem.W.Frag) (E : XK) (G : Gh) (σ : St) (Q : Option Int → Hp → Prop) : R (Option Int) → Prop
  | .ok b s => ∀ H' G', G.le G' → Rel K G' σ H' s → Q b H'
  | .exc c fs s => PostX K E G c fs s.rs
  | .bad => False
def tOD (K : PySem.W.Frag) (E : XK) (g : M (Option Int)) : TO := fun σ H Q => ∃ G s, Rel K G σ H s ∧ PostO K E G σ Q (g s)
abbrev DO (X : Cx) (E : XK) (e : Option Expr) (g : M (Option Int)) : Prop := PO X e (tOD X.K E g)
theorem ipO {K : PySem.W.Frag} {σ : St} {Q : Option Int → Hp → Prop} : IsPost K E (fun G => PostO K E G σ Q) := ⟨fun h => h, fun h => h, fun {G G' r} h l => by
  cases r with
  | ok a s => exact fun H' G2 l2 => h H' G2 (l.trans l2)
  | exc c fs s => exact PostX.mono h l
  | bad => exact h⟩
theorem _root_.L2.PO.imp {e : Option Expr} {t t' : TO} (h : PO X e t) (i : ∀ σ H Q, t' σ H Q → t σ H Q) : PO X e t' := ⟨fun pins s σ H Q I q => h.run pins s σ H Q I (i σ H Q q)⟩
theorem do_none : DO X E none (pur none) := po_none.imp fun σ H Q ⟨G, s, r, h⟩ => h H G (.refl G) r
def gPart (ga : M A) : M (Option Int) := bnd ga fun a => bnd (pk a) fun d => match d with
  | .int i => pur (some i)
  | _ => bad
theorem do_some (ha : DE X E e ga) : DO X E (some e) (gPart ga) := (po_some ha).imp fun σ H Q ⟨G, s, r, h⟩ => stepE ipO h r fun x H1 G1 av s1 l1 r1 ad1 h1 => by
  obtain ⟨d, e1, h3⟩ := stepPk ipO h1
  have dx := r1.peek ad1 e1
  cases d with
  | int i => exact ⟨i, denH_int dx, h3 H1 G1 (.refl G1) r1⟩
  | _ => exact h3.elim
theorem stepO {β : Type} {K : PySem.W.Frag} {G : Gh} {σ : St} {H : Hp} {s : S} {P : Gh → R β → Prop} (ip : IsPost K E P) {g : M (Option Int)} {f : Option Int → M β} {T : Option Int → Hp → Prop} (h : P G (bnd g f s)) (r : Rel K G σ H s)
    (k : ∀ b H1 G1 s1, G.le G1 → Rel K G1 σ H1 s1 → P G1 (f b s1) → T b H1) : tOD K E g σ H T := by
  refine ⟨G, s, r, ?_⟩
  unfold bnd at h
  cases q : g s with
  | ok a s1 =>
    rw [q] at h
    exact fun H1 G1 l r1 => k a H1 G1 s1 l r1 (ip.mono h l)
  | exc c fs s1 => rw [q] at h; exact ip.ex h
  | bad => rw [q] at h; exact (ip.bd h).elim
def rSl3 (K : PySem.W.Frag) (F : D → Option Int → Option Int → Rv) : V → Option Int → Option Int → Hp → VK → Prop := fun x lo hi H Q => ∃ Hs d, Bare Hs ∧ Sub Hs H ∧ DenH K Hs H d x ∧ RvPost K Hs H Q (F d lo hi)
def gSl (F : D → Option Int → Option Int → Rv) (ga : M A) (gl gh : M (Option Int)) : M A := bnd ga fun a => bnd gl fun l => bnd gh fun h => bnd (pk a) fun d => rvM (F d l h)
def cutD (xs : List D) (lo hi : Option Int) : List D := (xs.drop (HT.sIx xs.length 0 lo)).take (HT.sIx xs.length xs.length hi - HT.sIx xs.length 0 lo)
def FSl (d : D) (lo hi : Option Int) : Rv := match d with
  | .lst xs => .nw (.lst (cutD xs lo hi))
  | .tup xs => if HT.sIx xs.length 0 lo = 0 ∧ HT.sIx xs.length xs.length hi = xs.length then .old (.tup xs) else .nw (.tup (cutD xs lo hi))
  | .str z => if z.length ≤ sizeLine then .old (.str (cutS z lo hi)) else .no
  | _ => .no
theorem cut_den {K : PySem.W.Frag} {Hs : Hp} {ds : List D} {vs : List V} {lo hi : Option Int} (q : DenL K Hs ds vs) : DenL K Hs (cutD ds lo hi) (cutV vs lo hi) := by
  unfold cutD cutV
  rw [q.len]
  exact (q.drop _).take _
theorem r_sl : SlR X (rSl3 X.K FSl) := by
  refine fun pins s σ H x v vl vu lo hi sl Q I rx hs pl pu ⟨Hs, d, b, su, dx, q⟩ => ?_
  cases d with
  | lst xs =>
    obtain ⟨p, vs, rfl, p1, q1⟩ := raw_lst dx
    exact sl_list pins s σ H _ v vl vu lo hi sl Q I rx hs pl pu ⟨p, vs, rfl, .of p1, fun p hp => q p _ hp (den_lst (cut_den q1))⟩
  | tup xs =>
    obtain ⟨p, vs, rfl, p1, p1', q1⟩ := denH_tup b su dx
    have e := q1.len
    refine sl_tupA pins s σ H _ v vl vu lo hi sl Q I rx hs pl pu ⟨p, vs, rfl, p1', fun z => ?_, fun z p hp => ?_⟩
    · have q' : RvPost X.K Hs H Q (if HT.sIx xs.length 0 lo = 0 ∧ HT.sIx xs.length xs.length hi = xs.length then .old (.tup xs) else .nw (.tup (cutD xs lo hi))) := q
      rw [if_pos (by rw [← e]; exact z)] at q'
      exact q' _ (by unfold Den; exact ⟨p, vs, rfl, p1, q1⟩)
    · have q' : RvPost X.K Hs H Q (if HT.sIx xs.length 0 lo = 0 ∧ HT.sIx xs.length xs.length hi = xs.length then .old (.tup xs) else .nw (.tup (cutD xs lo hi))) := q
      rw [if_neg (by rw [← e]; exact z)] at q'
      exact q' p _ hp (den_tup (cut_den q1))
  | str z =>
    have := denH_str dx; subst this
    obtain ⟨c, q⟩ := ite_rv q
    exact sl_str pins s σ H _ v vl vu lo hi sl Q I rx hs pl pu ⟨z, rfl, c, rv_str q⟩
  | _ => exact q.elim
theorem de_slice {gl gh : M (Option Int)} (he : DE X E e ga) (hl : DO X E lo gl) (hh : DO X E hi gh) : DE X E (.Subscript e (.Slice lo hi none p2) pos) (gSl FSl ga gl gh) := (pe_slice r_sl he hl hh).imp fun σ H Q ⟨G, s, r, h⟩ =>
  stepE ipE h r fun x H1 G1 av s1 l1 r1 ad1 h1 => stepO ipE h1 r1 fun l H2 G2 s2 l2 r2 h2 => stepO ipE h2 r2 fun u H3 G3 s3 l3 r3 h3 => by
    obtain ⟨d, e1, h4⟩ := stepPk ipE h3
    exact ⟨G3.Hs, d, r3.x.ba, r3.x.hs, r3.peek ((ad1.le l2).le l3) e1, r3.rv h4⟩
end
end DL
end
section
namespace DL
open PySem PySem.Spec PyProof.Rows L2 PySem.W
def RD (K : PySem.W.Frag) (Hs : Hp) (u : Value) (d : D) : Prop := ∃ x, RelV x u ∧ Den K Hs d x
def itemsD : D → Option (List D)
  | .lst xs => some xs
  | .tup xs => some xs
  | .dic ks => some (ks.map fun p => kD p.1)
  | _ => none
section
variable {X : Cx} {pins : List (Addr × Obj)} {σ : St} {H Hs : Hp} {s : Shared}
theorem rd_each {K : PySem.W.Frag} : ∀ {ds : List D} {vs : List V} {us : List Value}, DenL K Hs ds vs → Vals vs us → EachIs (RD K Hs) us ds
  | [], vs, us, h, r => by unfold DenL at h; subst h; cases r; exact .nil
  | d :: ds, vs, us, h, r => by
    unfold DenL at h
    obtain ⟨v, vs', rfl, h1, h2⟩ := h
    cases r with
    | cons r1 r2 => exact .cons ⟨v, r1, h1⟩ (rd_each h2 r2)
theorem each_rd {K : PySem.W.Frag} : ∀ {us : List Value} {ds : List D}, EachIs (RD K Hs) us ds → ∃ vs, DenL K Hs ds vs ∧ Vals vs us
  | _, _, .nil => ⟨[], .nil, .nil⟩
  | _, _, .cons ⟨x, r, d⟩ t => by
    obtain ⟨vs, h1, h2⟩ := each_rd t
    exact ⟨x :: vs, .cons d h1, .cons r h2⟩
theorem each_reads (I : Inv X pins σ H s) (hb : Bare Hs) (hs : Sub Hs H) {h' : Heap} (hk : ∀ b o, s.heap.get? b = some o → h'.get? b = some o) : ∀ {us : List Value} {ds : List D}, EachIs (RD X.K Hs) us ds → plAll ds = true → EachIs (fun v d => ∃ as, Reads h' v (py d) as) us ds
  | _, _, .nil, _ => .nil
  | _, _, .cons ⟨x, r, d⟩ t, p => by
    unfold plAll at p
    rw [Bool.and_eq_true] at p
    obtain ⟨as, q⟩ := den_reads I hb hs _ x _ p.1 d r
    exact .cons ⟨as, PyProof.Rows.Reads.keeps hk q⟩ (each_reads I hb hs hk t p.2)
theorem collect_seq {prog : Program} {w : World} {A : Around} {E : Value → Shared → Prop} {s : Shared} {it : Addr} {T : String} {o : Obj} {items : Array Value} {n : Nat} {Q : List Value → Shared → Prop} (hT : T = "list" ∨ T = "tuple") (ho : s.heap.get? it = some o) (hc : o.cls = .type T) (hd : o.data = .seq items n) (hz : items.size ≤ sizeLine)
    (hQ : ∀ h', (∀ b o, s.heap.get? b = some o → h'.get? b = some o) → s.heap.objs.size ≤ h'.objs.size → Q items.toList { s with heap := h' }) : wpAny (model prog w) A (collect (.ref it)) Q E s := by
  unfold collect
  refine wpAny_bind (wpAny_runValue (codeAny_builtin F.entry_proto_collect ?_))
  rw [Around.under_plainId F.plain_proto_collect _]
  show wpAny _ A.in1 (newList [] >>= fun l => again (.builtin "list.__iadd__" ⟨[l, .ref it], []⟩)) _ _ s
  refine wpAny_bind (wpAny_newObj_type ?_)
  refine wpAny_pure ⟨plainId_quiet F.plain_list_iadd _, codeAny_builtin F.entry_list_iadd ?_⟩
  rw [Around.under_plainId F.plain_list_iadd _]
  show wpAny _ A.in1 (Builtin.List.listExtendWith (.ref s.heap.objs.size) (.ref it) (.ref s.heap.objs.size)) _ _ _
  have hS : (s.heap.push { cls := .type "list", data := .seq ([] : List Value).toArray }).get? s.heap.objs.size = some { cls := .type "list", data := .seq #[] 0 } := Heap.get?_push_size _ rfl
  have hS2 := Heap.get?_update_self (Obj.mapSeq (· ++ items)) hS rfl
  refine wpAny_mono (wpAny_extend_seq (A := A) (R := fun rr s' => rr = .ok (.ret (.ref s.heap.objs.size)) ∧ s' = { s with heap := (s.heap.push { cls := .type "list", data := .seq ([] : List Value).toArray }).update s.heap.objs.size (Obj.mapSeq (· ++ items)) }) (hsz := hz)
    (s := { s with heap := s.heap.push { cls := .type "list", data := .seq ([] : List Value).toArray } }) s.heap.objs.size it _ 0 hT hS (Heap.get?_push_of_some _ ho) hc hd ⟨rfl, rfl⟩) (fun fin s' h => ?_) (fun e s' h => ?_)
  · have keep : ∀ b o, s.heap.get? b = some o → ((s.heap.push { cls := .type "list", data := .seq ([] : List Value).toArray }).update s.heap.objs.size (Obj.mapSeq (· ++ items))).get? b = some o := fun b o e => (Heap.get?_update_other _ _ (Ne.symm (Nat.ne_of_lt (Heap.lt_size e)))).trans (Heap.get?_push_of_some _ e)
    cases fin with
    | done f =>
      obtain ⟨e, rfl⟩ := h
      cases e
      show wpAny _ A (load s.heap.objs.size >>= _) _ _ _
      refine wpAny_bind (wpAny_load hS2 (wpAny_pure ?_))
      simpa [Obj.mapSeq] using hQ _ keep (Nat.le_of_lt (Heap.lt_size hS2))
    | again c' =>
      refine ⟨h.1, codeAny_mono h.2 fun rr s'' hr' => ?_⟩
      obtain ⟨rfl, rfl⟩ := hr'
      show wpAny _ A (load s.heap.objs.size >>= _) _ _ _
      refine wpAny_bind (wpAny_load hS2 (wpAny_pure ?_))
      simpa [Obj.mapSeq] using hQ _ keep (Nat.le_of_lt (Heap.lt_size hS2))
  · exact absurd h.1 (by simp)
theorem collect_dict {prog : Program} {w : World} {A : Around} {E : Value → Shared → Prop} {s : Shared} {K : Type} [DecidableEq K] {knd : PySem.KeyKind prog w K} {d : Addr} {kvs : List (K × Value)} {Q : List Value → Shared → Prop} (hh : A.handled = none) (lo : (d == sysModules) = false) (dd : s.heap.DictOf knd d kvs) (hz : kvs.length ≤ sizeLine)
    (hQ : ∀ (h' : Heap) (tk : Nat) (acc : Array Value), (∀ b o, s.heap.get? b = some o → h'.get? b = some o) → s.heap.objs.size ≤ h'.objs.size → ItemsOf (fun i v => ∃ k x, kvs[i]? = some (k, x) ∧ knd.is k v = true) acc kvs.length → Q acc.toList { s with heap := h', toks := tk }) : wpAny (model prog w) A (collect (.ref d)) Q E s := by
  obtain ⟨ep, hat⟩ := dd.dictAt
  have K0 := kdl_dict (knd := knd) (kvs := kvs) (ep := ep) lo
  have hlt := (K0.there _ hat).1
  unfold collect
  refine wpAny_bind (wpAny_runValue (codeAny_builtin F.entry_proto_collect ?_))
  rw [Around.under_plainId F.plain_proto_collect _]
  show wpAny _ A.in1 (newList [] >>= fun l => again (.builtin "list.__iadd__" ⟨[l, .ref d], []⟩)) _ _ s
  refine wpAny_bind (wpAny_newObj_type ?_)
  refine wpAny_pure ⟨plainId_quiet F.plain_list_iadd _, codeAny_builtin F.entry_list_iadd ?_⟩
  rw [Around.under_plainId F.plain_list_iadd _]
  show wpAny _ A.in1 (Builtin.List.listExtendWith (.ref s.heap.objs.size) (.ref d) (.ref s.heap.objs.size)) _ _ _
  have hS : (s.heap.push { cls := .type "list", data := .seq ([] : List Value).toArray }).get? s.heap.objs.size = some { cls := .type "list", data := .seq #[] 0 } := Heap.get?_push_size _ rfl
  refine wpAny_mono (kdl_extend (A := A) (R := fun rr s' => rr = .ok (.ret (.ref s.heap.objs.size)) ∧ ∃ (h' : Heap) (tk : Nat) (acc : Array Value) (c' : Nat), s' = { s with heap := h', toks := tk } ∧ (∀ b o, s.heap.get? b = some o → h'.get? b = some o) ∧
      h'.get? s.heap.objs.size = some { cls := .type "list", dict := none, data := .seq acc c', slots := #[] } ∧ ItemsOf (fun i v => ∃ k x, kvs[i]? = some (k, x) ∧ knd.is k v = true) acc kvs.length)
    (s := { s with heap := s.heap.push { cls := .type "list", data := .seq ([] : List Value).toArray } }) K0 hh (K0.keep _ _ hat fun b _ o e => Heap.get?_push_of_some _ e) s.heap.objs.size (Nat.ne_of_gt hlt) (Nat.ne_of_gt hlt) (.ref s.heap.objs.size) 0 hS
    (fun h' tk acc c' hk e hi => ⟨rfl, h', tk, acc, c', rfl, fun b o q => hk b o (Nat.ne_of_lt (Heap.lt_size q)) (Heap.get?_push_of_some _ q), e, hi⟩) hz) (fun fin s' h => ?_) (fun e s' h => ?_)
  · cases fin with
    | done f =>
      obtain ⟨e, h', tk, acc, c', rfl, hk, hS', hi⟩ := h
      cases e
      show wpAny _ A (load s.heap.objs.size >>= _) _ _ _
      exact wpAny_bind (wpAny_load hS' (wpAny_pure (hQ h' tk acc hk (Nat.le_of_lt (Heap.lt_size hS')) hi)))
    | again c' =>
      refine ⟨h.1, codeAny_mono h.2 fun rr s'' hr' => ?_⟩
      obtain ⟨rfl, h', tk, acc, c', rfl, hk, hS', hi⟩ := hr'
      show wpAny _ A (load s.heap.objs.size >>= _) _ _ _
      exact wpAny_bind (wpAny_load hS' (wpAny_pure (hQ h' tk acc hk (Nat.le_of_lt (Heap.lt_size hS')) hi)))
  · exact absurd h.1 (by simp)
theorem keys_rd {P : Program} {w : World} {ks : List (Key × D)} {kvs : List (Key × V)} {vs : List (Key × Value)} {K : PySem.W.Frag} (dk : DenK K Hs ks kvs) (kv : KV kvs vs) {acc : List Value} (hl : acc.length = vs.length)
    (hi : ∀ (i : Nat) v, acc[i]? = some v → ∃ k x, vs[i]? = some (k, x) ∧ (mixKind P w).is k v = true) : EachIs (RD K Hs) acc (ks.map fun p => kD p.1) := by
  have e1 : ks.map (·.1) = vs.map (·.1) := dk.keys.trans (kv_keys kv)
  have gen : ∀ (acc : List Value) (ds : List Key), acc.length = ds.length → (∀ (i : Nat) v k, acc[i]? = some v → ds[i]? = some k → RelV (kV k) v) → EachIs (RD K Hs) acc (ds.map kD) := by
    intro acc
    induction acc with
    | nil => intro ds h _; cases ds with
      | nil => exact .nil
      | cons _ _ => simp at h
    | cons v acc ih => intro ds h g; cases ds with
      | nil => simp at h
      | cons k ds => exact .cons ⟨kV k, g 0 v k rfl rfl, den_kD k⟩ (ih ds (by simpa using h) fun i v' k' a b => g (i + 1) v' k' (by simpa using a) (by simpa using b))
  have e2 : (ks.map fun p => kD p.1) = (ks.map (·.1)).map kD := by rw [List.map_map]; rfl
  rw [e2, e1]
  refine gen acc _ (by rw [hl, List.length_map]) fun i v k a b => ?_
  obtain ⟨k', x, h1, h2⟩ := hi i v a
  rw [List.getElem?_map, h1] at b
  cases b
  exact keyIs_rel h2
theorem coll_den {A : Around} {E : Value → Shared → Prop} (I : Inv X pins σ H s) (hb : Bare Hs) (hs : Sub Hs H) (hh : A.handled = none) {d : D} {ds : List D} {x : V} {u : Value} (hi : itemsD d = some ds) (dx : DenH X.K Hs H d x) (rx : RelV x u) {Q : List Value → Shared → Prop}
    (hQ : ∀ (h' : Heap) (tk : Nat) (us : List Value), (∀ b o, s.heap.get? b = some o → h'.get? b = some o) → s.heap.objs.size ≤ h'.objs.size → EachIs (RD X.K Hs) us ds → us.length ≤ sizeLine → Q us { s with heap := h', toks := tk }) : wpAny (model X.prog X.w) A (collect u) Q E s := by
  cases d with
  | lst xs =>
    cases hi
    obtain ⟨a, vs, rfl, p1, q1⟩ := raw_lst dx
    cases rx
    obtain ⟨its, rv, ⟨o, n, ho, hc, _, hd⟩, hz⟩ := I.list (.of p1)
    exact collect_seq (.inl rfl) ho hc hd (by rw [List.size_toArray, ← rv.length]; exact hz) fun h' k ks => hQ h' s.toks its k ks (rd_each q1 rv) (by rw [← rv.length]; exact hz)
  | tup xs =>
    cases hi
    obtain ⟨a, vs, rfl, p1, p1', q1⟩ := denH_tup hb hs dx
    cases rx
    obtain ⟨its, rv, ⟨o, ho, hc, n, hd⟩, hz⟩ := I.tuple p1'
    exact collect_seq (.inr rfl) ho hc hd (by rw [List.size_toArray, ← rv.length]; exact hz) fun h' k ks => hQ h' s.toks its k ks (rd_each q1 rv) (by rw [← rv.length]; exact hz)
  | dic ks =>
    cases hi
    obtain ⟨a, kvs, rfl, p1, q1⟩ := dx
    cases rx
    obtain ⟨hz, lo, vs, kv, dd⟩ := dk_rd I.hok p1
    have hl : kvs.length = vs.length := kv.length
    refine collect_dict hh lo dd (by rw [← hl]; exact hz) fun h' tk acc k ksz hi => ?_
    have el : acc.toList.length = vs.length := by rw [Array.length_toList]; exact hi.1
    exact hQ h' tk acc.toList k ksz (keys_rd q1 kv el fun i v e => hi.2 i v (by rw [← Array.getElem?_toList]; exact e)) (by rw [el, ← hl]; exact hz)
  | _ => cases hi
end
def alikeB (ds : List D) : Bool := ds.all fun a => ds.all fun b => alike (py a) (py b)
def tupB : D → Bool
  | .tup (_ :: _) => true
  | _ => false
def plainB : D → Bool
  | .non => false
  | .tup _ => false
  | _ => true
def sortB (ds : List D) : Bool := ds.all tupB || ds.all plainB
def leD : D → D → Bool := dataLe false py
def sortable (ds : List D) : Prop := ds.all okD = true ∧ alikeB ds = true ∧ sortB ds = true
instance {ds : List D} : Decidable (sortable ds) := inferInstanceAs (Decidable (_ ∧ _ ∧ _))
def FSorted (as : List D) : Rv := match as with
  | [d] => match itemsD d with
    | some ds => if sortable ds then .nw (.lst (ds.mergeSort leD)) else .no
    | none => .no
  | _ => .no
theorem alike_of {ds : List D} (h : alikeB ds = true) : AllAlike (ds.map py) := by
  intro a ha b hb
  obtain ⟨x, hx, rfl⟩ := List.mem_map.mp ha
  obtain ⟨y, hy, rfl⟩ := List.mem_map.mp hb
  exact List.all_eq_true.mp (List.all_eq_true.mp h x hx) y hy
theorem sortable_of {ds : List D} (ok : ds.all okD = true) (h : sortB ds = true) : Sortable (ds.map py) := by
  unfold sortB at h
  rcases Bool.or_eq_true _ _ |>.mp h with h | h
  · refine .inl fun d hd => ?_
    obtain ⟨x, hx, rfl⟩ := List.mem_map.mp hd
    have := List.all_eq_true.mp h x hx
    cases x with
    | tup xs =>
      cases xs with
      | nil => cases this
      | cons y ys => exact ⟨py y, pyL ys, by rw [py, pyL]⟩
    | _ => cases this
  · refine .inr fun d hd => ?_
    obtain ⟨x, hx, rfl⟩ := List.mem_map.mp hd
    have o := okD.pl (List.all_eq_true.mp ok x hx)
    have := List.all_eq_true.mp h x hx
    cases x with
    | non => cases this
    | tup _ => cases this
    | bl _ => rw [py]; exact ⟨fun z => (nomatch z), fun _ z => (nomatch z)⟩
    | int _ => rw [py]; exact ⟨fun z => (nomatch z), fun _ z => (nomatch z)⟩
    | str _ => rw [py]; exact ⟨fun z => (nomatch z), fun _ z => (nomatch z)⟩
    | lst _ => rw [py]; exact ⟨fun z => (nomatch z), fun _ z => (nomatch z)⟩
    | _ => unfold plD at o; cases o
section
variable {X : Cx} {k : Nat}
theorem one_arg {K : PySem.W.Frag} {Hs H : Hp} {ds : List D} {xs : List V} {d : D} (e : ds = [d]) (h : DenHL K Hs H ds xs) : ∃ x, xs = [x] ∧ DenH K Hs H d x := by
  subst e
  obtain ⟨x, r, rfl, h1, h2⟩ := h
  have : r = [] := h2
  subst this
  exact ⟨x, rfl, h1⟩
def fn1 (f : D → Rv) (as : List D) : Rv := match as with
  | [d] => f d
  | _ => .no
def fn2 (f : D → D → Rv) (as : List D) : Rv := match as with
  | [d, e] => f d e
  | _ => .no
theorem call1 {f : Value} {F : D → Rv} (rule : ∀ (pins : List (Addr × Obj)) (s : Shared) (σ : St) (H Hs : Hp) (d : D) (x : V) (us : List Value) (Q : VK), Inv X pins σ H s → Bare Hs → Sub Hs H → DenH X.K Hs H d x → Vals [x] us → RvPost X.K Hs H Q (F d) → wpAny (model X.prog X.w) X.A (call f us) (EP X pins σ Q) X.xe s) : CallR X f (rDn X.K (fn1 F)) := by
  intro pins s σ H xs us Q I rx ⟨Hs, ds, hb, hs, dn, q⟩
  match ds, dn, q with
  | [d], dn, q =>
    obtain ⟨x, rfl, dx⟩ := one_arg rfl dn
    exact rule pins s σ H Hs d x us Q I hb.1 hs dx rx q
  | [], _, q => exact q.elim
  | _ :: _ :: _, _, q => exact q.elim
theorem call1N {f : Value} {F : D → Rv} (rule : ∀ (pins : List (Addr × Obj)) (s : Shared) (σ : St) (H Hs : Hp) (d : D) (x : V) (us : List Value) (Q : VK), Inv X pins σ H s → Bare Hs → NT Hs x d → Sub Hs H → DenH X.K Hs H d x → Vals [x] us → RvPost X.K Hs H Q (F d) → wpAny (model X.prog X.w) X.A (call f us) (EP X pins σ Q) X.xe s) : CallR X f (rDn X.K (fn1 F)) := by
  intro pins s σ H xs us Q I rx ⟨Hs, ds, hb, hs, dn, q⟩
  match ds, dn, q, hb with
  | [d], dn, q, hb =>
    obtain ⟨x, rfl, dx⟩ := one_arg rfl dn
    exact rule pins s σ H Hs d x us Q I hb.1 hb.2.1 hs dx rx q
  | [], _, q, _ => exact q.elim
  | _ :: _ :: _, _, q, _ => exact q.elim
theorem r_sorted (r : Room k X.A) (hc : X.calm = true) : CallR X (.builtin "sorted") (rDn X.K FSorted) := by
  intro pins s σ H xs us Q I rx ⟨Hs, ds, ⟨hb, _⟩, hs, dn, q⟩
  match ds, dn, q with
  | [d], dn, q =>
    obtain ⟨x, rfl, dx⟩ := one_arg rfl dn
    obtain ⟨u, rfl, r1⟩ := vals1 rx
    cases hi : itemsD d with
    | none => have q' : RvPost X.K Hs H Q (match itemsD d with | some ds => if sortable ds then .nw (.lst (ds.mergeSort leD)) else .no | none => .no) := q; rw [hi] at q'; exact q'.elim
    | some es =>
      have q' : RvPost X.K Hs H Q (match itemsD d with | some ds => if sortable ds then .nw (.lst (ds.mergeSort leD)) else .no | none => .no) := q
      rw [hi] at q'
      obtain ⟨⟨ok, al, so⟩, q2⟩ := ite_rv q'
      have hu := r.units
      refine Calls.call_function_entry kind_sorted plain_sorted entry_sorted (args_sorted1 _) ?_
      unfold Builtin.«sorted»
      refine wpAny_bind (m := checkCount "sorted" 1 1 _) (wpAny_pure ?_)
      refine wpAny_bind (coll_den (A := X.A.in1) I hb hs (I.ok.hd hc) hi dx r1 fun h' tk us hk ksz e hz => ?_)
      refine wpAny_bind (wpAny_newList ?_ hz)
      have hoL : (h'.push (seqObj "list" us.toArray 0)).get? h'.objs.size = some (seqObj "list" us.toArray 0) := Heap.get?_push_size _ rfl
      have k2 : ∀ b o, s.heap.get? b = some o → b ≠ h'.objs.size ∧ (h'.push (seqObj "list" us.toArray 0)).get? b = some o := fun b o e => ⟨Nat.ne_of_lt (Heap.lt_size (hk b o e)), Heap.get?_push_of_some _ (hk b o e)⟩
      have er : EachIs (fun v d => ∃ as, Reads (sortingHeap (h'.push (seqObj "list" us.toArray 0)) h'.objs.size us) v (py d) as) us es :=
        each_reads I hb hs (fun b o e => sortingHeap_old (k2 b o e).1 (k2 b o e).2) e (oks_plain ok).1
      refine wpAny_bind (wpAny_holding (wpAny_call_entry slot_list_sort ⟨_, hoL, rfl⟩ entry_list_sort (list_sort_vals (s := { s with heap := h'.push (seqObj "list" us.toArray 0), toks := tk }) (κ := dataKind (sortingHeap (h'.push (seqObj "list" us.toArray 0)) h'.objs.size us) (es.map py)) hoL
        (SortsAt.data (s := { s with heap := sortingHeap (h'.push (seqObj "list" us.toArray 0)) h'.objs.size us, toks := tk }) (each_map (R := fun v d => ∃ as, Reads (sortingHeap (h'.push (seqObj "list" us.toArray 0)) h'.objs.size us) v d as) py er) (alike_of al) (sortable_of ok so) (fun d hd => ?_)) hz ⟨.none, rfl, ?_⟩) (args_list_sort _)))
      · obtain ⟨y, hy, rfl⟩ := List.mem_map.mp hd
        have := okD.dp (List.all_eq_true.mp ok y hy)
        show X.A.units + 1 + 1 + _ < cLine
        omega
      · have eo := sortVals_data (R := RD X.K Hs) false e er (alike_of al)
        obtain ⟨ws, dw, vw⟩ := each_rd eo
        have hlen : (sortVals (dataKind (sortingHeap (h'.push (seqObj "list" us.toArray 0)) h'.objs.size us) (es.map py)) false us us).length = us.length := sortVals_length false rfl
        obtain ⟨c, hcc⟩ := sortedHeap_at (vs := us) (out := (sortVals (dataKind (sortingHeap (h'.push (seqObj "list" us.toArray 0)) h'.objs.size us) (es.map py)) false us us).toArray) hoL
        refine wpAny_pure ⟨_, rfl, .ref h'.objs.size, upd H h'.objs.size (.lst ws), I.laid (t' := tk) (fun b o eb => ?_) ?_ ⟨?_, _, c, vw, hcc⟩, rfl, q2 _ _ (I.hok.fresh ?_) (den_lst dw)⟩
        · have hlt := Heap.lt_size (hk b o eb)
          rw [sortedHeap_old (Nat.ne_of_lt hlt) (by rw [size_push']; exact Nat.lt_succ_of_lt hlt)]
          exact (k2 b o eb).2
        · exact ksz
        · rw [vw.length, hlen]; exact hz
        · exact ksz
  | [], _, q => exact q.elim
  | _ :: _ :: _, _, q => exact q.elim
def FTuple1 (d : D) : Rv := match d with
  | .tup xs => .old (.tup xs)
  | .lst xs => .nw (.tup xs)
  | .dic ks => .nw (.tup (ks.map fun p => kD p.1))
  | _ => .no
def FTuple := fn1 FTuple1
def FList1 (d : D) : Rv := match itemsD d with
  | some ds => .nw (.lst ds)
  | none => .no
def FList := fn1 FList1
theorem r_list (hc : X.calm = true) : CallR X (.type "list") (rDn X.K FList) := call1 fun pins s σ H Hs d x us Q I hb hs dx rx q => by
  cases d with
  | tup ys =>
    obtain ⟨a, vs, rfl, p1, p1', q1⟩ := denH_tup hb hs dx
    exact call_list_of pins s σ H _ us Q I rx ⟨a, vs, rfl, .inr p1', fun l hl => q l _ hl (den_lst q1)⟩
  | lst ys =>
    obtain ⟨a, vs, rfl, p1, q1⟩ := raw_lst dx
    exact call_list_of pins s σ H _ us Q I rx ⟨a, vs, rfl, .inl (.of p1), fun l hl => q l _ hl (den_lst q1)⟩
  | dic ks =>
    obtain ⟨a, kvs, rfl, p1, q1⟩ := dx
    refine call_listD hc pins s σ H _ us Q I rx ⟨a, kvs, rfl, p1, fun l hl => q l _ hl (den_lst ?_)⟩
    have e : ∀ {ks : List (Key × D)} {kvs : List (Key × V)}, DenK X.K Hs ks kvs → DenL X.K Hs (ks.map fun p => kD p.1) (kvs.map fun kv => kV kv.1) := by
      intro ks
      induction ks with
      | nil => intro kvs h; unfold DenK at h; subst h; exact .nil
      | cons p r ih =>
        intro kvs h
        obtain ⟨k, d⟩ := p
        unfold DenK at h
        obtain ⟨v, r', rfl, h1, h2⟩ := h
        exact .cons (den_kD k) (ih h2)
    exact e q1
  | _ => exact q.elim
def FLen1 (d : D) : Rv := match d with
  | .lst xs => .old (.int xs.length)
  | .tup xs => .old (.int xs.length)
  | .str z => if z.length ≤ sizeLine then .old (.int z.length) else .no
  | .dic ks => .old (.int ks.length)
  | _ => .no
def FLen := fn1 FLen1
theorem call_lenR : CallR X (.builtin "len") (fun xs H Q => ∃ a kvs, xs = [V.ref a] ∧ Rd H a (.dK kvs) ∧ Q (.int kvs.length) H) := by
  intro pins s σ H xs us Q I r h
  obtain ⟨a, kvs, rfl, e, q⟩ := h
  obtain ⟨u, rfl, rx⟩ := vals1 r
  cases rx
  exact d_len I e fun t s' I' => ⟨.int kvs.length, H, I', ⟨t, rfl⟩, q⟩
theorem r_len : CallR X (.builtin "len") (rDn X.K FLen) := call1 fun pins s σ H Hs d x us Q I hb hs dx rx q => by
  cases d with
  | tup ys =>
    obtain ⟨a, vs, rfl, p1, p1', q1⟩ := denH_tup hb hs dx
    exact call_len_seq pins s σ H _ us Q I rx ⟨a, vs, rfl, .inr p1', by rw [q1.len]; exact rv_int q⟩
  | lst ys =>
    obtain ⟨a, vs, rfl, p1, q1⟩ := raw_lst dx
    exact call_len_seq pins s σ H _ us Q I rx ⟨a, vs, rfl, .inl (.of p1), by rw [q1.len]; exact rv_int q⟩
  | str z =>
    have := denH_str dx; subst this
    obtain ⟨c, q⟩ := ite_rv q
    exact call_len_str pins s σ H _ us Q I rx ⟨z, rfl, c, rv_int q⟩
  | dic ks =>
    obtain ⟨a, kvs, rfl, p1, q1⟩ := dx
    exact call_lenR pins s σ H _ us Q I rx ⟨a, kvs, rfl, p1, by rw [q1.len]; exact rv_int q⟩
  | _ => exact q.elim
def putD (ks : List (Key × D)) (k : Key) (d : D) : List (Key × D) := if (ks.any fun p => decide (p.1 = k)) = true then ks.map fun p => if p.1 = k then (p.1, d) else p else ks ++ [(k, d)]
end
mutual
def pyF : D → PyData
  | .non => .none
  | .bl b => .bool b
  | .int i => .int i
  | .str x => .str x
  | .lst xs => .list (pyFL xs)
  | .tup xs => .tuple (pyFL xs)
  | .dic ks => .dict (pyFK ks)
  | .dit _ => .none
  | .tpl _ => .none
  | .twr _ => .none
  | .ins _ _ => .none
  | .exc _ _ => .none
  | .lam _ _ => .none
  | .adr _ => .none
  | .rg _ => .none
def pyFL : List D → List PyData
  | [] => []
  | x :: xs => pyF x :: pyFL xs
def pyFK : List (Key × D) → List (PyData × PyData)
  | [] => []
  | (k, x) :: xs => ((match k with | .inl i => .int i | .inr z => .str z), pyF x) :: pyFK xs
end
mutual
def plF : D → Bool
  | .non => true
  | .bl _ => true
  | .int _ => true
  | .str _ => true
  | .lst xs => plFL xs
  | .tup xs => plFL xs
  | .dic ks => plFK ks
  | .dit _ => false
  | .tpl _ => false
  | .twr _ => false
  | .ins _ _ => false
  | .exc _ _ => false
  | .lam _ _ => false
  | .adr _ => false
  | .rg _ => false
def plFL : List D → Bool
  | [] => true
  | x :: xs => plF x && plFL xs
def plFK : List (Key × D) → Bool
  | [] => true
  | (_, x) :: xs => plF x && plFK xs
end
section
variable {X : Cx} {pins : List (Addr × Obj)} {σ : St} {H Hs : Hp} {s : Shared}
def SysD (K : PySem.W.Frag) : Prop := ∃ o, K.lookup sysModules = some o ∧ o.cls = .type "dict"
theorem no_sys (hS : SysD X.K) (I : Inv X pins σ H s) {a : Addr} {xs : List V} (h : H a = some (.lst xs)) : a ≠ sysModules := fun e => by
  subst e
  obtain ⟨o, h1, h2⟩ := hS
  obtain ⟨_, _, n, _, h3⟩ := I.hok _ _ h
  rw [I.kIn _ o h1] at h3
  rw [Option.some.inj h3] at h2
  exact absurd (Value.type.inj h2) (by decide)
mutual
theorem denF_reads (hS : SysD X.K) (I : Inv X pins σ H s) (hb : Bare Hs) (hs : Sub Hs H) : ∀ (d : D) (v : V) (u : Value), plF d = true → Den X.K Hs d v → RelV v u → ∃ as, Reads s.heap u (pyF d) as ∧ ∀ b ∈ as, b ≠ sysModules
  | .non, v, u, _, h, r => by
    unfold Den at h; subst h; cases r
    unfold pyF; exact ⟨_, Reads.none, fun b h => by cases h⟩
  | .bl b, v, u, _, h, r => by
    unfold Den at h; subst h; cases r
    unfold pyF; exact ⟨_, Reads.bool b, fun b h => by cases h⟩
  | .int i, v, u, _, h, r => by
    unfold Den at h; subst h
    obtain ⟨t, rfl⟩ := r
    unfold pyF; exact ⟨_, Reads.int i t, fun b h => by cases h⟩
  | .str x, v, u, _, h, r => by
    unfold Den at h; subst h
    obtain ⟨t, rfl⟩ := r
    unfold pyF; exact ⟨_, Reads.str x t, fun b h => by cases h⟩
  | .lst ds, v, u, p, h, r => by
    unfold Den at h
    obtain ⟨a, vs, rfl, h1, h2⟩ := h
    cases r
    unfold plF at p
    have hH := sub_raw hs h1 fun z => z
    obtain ⟨its, rv, ⟨o, n, ho, hc, _, hd⟩, _⟩ := I.list (.of hH)
    obtain ⟨as, hr, ha⟩ := denF_readsAll hS I hb hs ds vs its p h2 rv
    unfold pyF
    refine ⟨_, Reads.list ho hc hd hr, fun b h => ?_⟩
    rcases List.mem_cons.mp h with e | h
    · rw [e]; exact no_sys hS I hH
    · exact ha b h
  | .tup ds, v, u, p, h, r => by
    unfold Den at h
    obtain ⟨a, vs, rfl, h1, h2⟩ := h
    cases r
    unfold plF at p
    obtain ⟨its, rv, ⟨o, ho, hc, n, hd⟩, _⟩ := I.tuple (sub_t hb hs h1)
    obtain ⟨as, hr, ha⟩ := denF_readsAll hS I hb hs ds vs its p h2 rv
    unfold pyF; exact ⟨_, Reads.tuple ho hc hd hr, ha⟩
  | .dic ks, v, u, p, h, r => by
    unfold Den at h
    obtain ⟨a, kvs, rfl, h1, h2⟩ := h
    cases r
    unfold plF at p
    obtain ⟨_, lo, vs, kv, o, es, ep, ho, ex, hd, _, hp, _⟩ := dk_rd I.hok (sub_rd hs h1)
    obtain ⟨as, bs, hr1, hr2, ha, hb'⟩ := denF_readsK hS I hb hs ks kvs vs es.toList p h2 kv hp
    unfold pyF
    refine ⟨_, Reads.dict ho ex.1 hd hr1 hr2, fun b h => ?_⟩
    rcases List.mem_append.mp h with h | h
    · rcases List.mem_cons.mp h with e | h
      · rw [e]; exact beq_eq_false_iff_ne.mp lo
      · exact ha b h
    · exact hb' b h
  | .dit _, _, _, p, _, _ => by unfold plF at p; cases p
  | .tpl _, _, _, p, _, _ => by unfold plF at p; cases p
  | .twr _, _, _, p, _, _ => by unfold plF at p; cases p
  | .ins _ _, _, _, p, _, _ => by unfold plF at p; cases p
  | .exc _ _, _, _, p, _, _ => by unfold plF at p; cases p
  | .lam _ _, _, _, p, _, _ => by unfold plF at p; cases p
  | .adr _, _, _, p, _, _ => by unfold plF at p; cases p
  | .rg _, _, _, p, _, _ => by unfold plF at p; cases p
theorem denF_readsAll (hS : SysD X.K) (I : Inv X pins σ H s) (hb : Bare Hs) (hs : Sub Hs H) : ∀ (ds : List D) (vs : List V) (us : List Value), plFL ds = true → DenL X.K Hs ds vs → Vals vs us → ∃ as, ReadsAll s.heap us (pyFL ds) as ∧ ∀ b ∈ as, b ≠ sysModules
  | [], vs, us, _, h, r => by
    unfold DenL at h; subst h; cases r
    unfold pyFL; exact ⟨_, ReadsAll.nil, fun b h => by cases h⟩
  | d :: ds, vs, us, p, h, r => by
    unfold DenL at h
    obtain ⟨v, vs', rfl, h1, h2⟩ := h
    unfold plFL at p
    rw [Bool.and_eq_true] at p
    cases r with
    | cons r1 r2 =>
      obtain ⟨as, q1, a1⟩ := denF_reads hS I hb hs d v _ p.1 h1 r1
      obtain ⟨bs, q2, a2⟩ := denF_readsAll hS I hb hs ds vs' _ p.2 h2 r2
      unfold pyFL
      exact ⟨_, ReadsAll.cons q1 q2, fun b h => (List.mem_append.mp h).elim (a1 b) (a2 b)⟩
theorem denF_readsK (hS : SysD X.K) (I : Inv X pins σ H s) (hb : Bare Hs) (hs : Sub Hs H) : ∀ (ks : List (Key × D)) (kvs : List (Key × V)) (vs : List (Key × Value)) (es : List DictEntry), plFK ks = true → DenK X.K Hs ks kvs → KV kvs vs → Pairs (mixKind X.prog X.w) es vs →
    ∃ as bs, ReadsAll s.heap (es.map (·.key)) ((pyFK ks).map (·.1)) as ∧ ReadsAll s.heap (es.map (·.val)) ((pyFK ks).map (·.2)) bs ∧ (∀ b ∈ as, b ≠ sysModules) ∧ ∀ b ∈ bs, b ≠ sysModules
  | [], kvs, vs, es, _, h, r, hp => by
    unfold DenK at h; subst h; cases r; cases hp
    unfold pyFK
    exact ⟨[], [], ReadsAll.nil, ReadsAll.nil, (fun b h => nomatch h), (fun b h => nomatch h)⟩
  | (k, d) :: ks, kvs, vs, es, p, h, r, hp => by
    unfold DenK at h
    obtain ⟨v, kvs', rfl, h1, h2⟩ := h
    unfold plFK at p
    rw [Bool.and_eq_true] at p
    cases r with
    | cons r1 r2 =>
      cases hp with
      | cons kk ev p2 =>
        obtain ⟨as, bs, q1, q2, a1, a2⟩ := denF_readsK hS I hb hs ks kvs' _ _ p.2 h2 r2 p2
        obtain ⟨cs, q3, a3⟩ := denF_reads hS I hb hs d v _ p.1 h1 r1.2
        rw [← ev] at q3
        unfold pyFK
        have ek := r1.1
        rcases keyIs_shape kk with ⟨i, t, e1, e2⟩ | ⟨z, t, e1, e2⟩
        · have e3 : k = Sum.inl i := ek.trans e1
          subst e3
          have q4 := Reads.int (h := s.heap) i t
          rw [← e2] at q4
          exact ⟨_, _, ReadsAll.cons q4 q1, ReadsAll.cons q3 q2, (fun b h => (List.mem_append.mp h).elim (fun z => absurd z List.not_mem_nil) (a1 b)), (fun b h => (List.mem_append.mp h).elim (a3 b) (a2 b))⟩
        · have e3 : k = Sum.inr z := ek.trans e1
          subst e3
          have q4 := Reads.str (h := s.heap) z t
          rw [← e2] at q4
          exact ⟨_, _, ReadsAll.cons q4 q1, ReadsAll.cons q3 q2, (fun b h => (List.mem_append.mp h).elim (fun z => absurd z List.not_mem_nil) (a1 b)), (fun b h => (List.mem_append.mp h).elim (a3 b) (a2 b))⟩
end
end
def reprD (d : D) : Str := (pyF d).shown
def FRepr1 (d : D) : Rv := if plF d = true ∧ (pyF d).showable = true ∧ (pyF d).depth ≤ 40 ∧ (reprD d).length ≤ sizeLine then .old (.str (reprD d)) else .no
def FRepr := fn1 FRepr1
theorem r_repr {X : Cx} {k : Nat} (r : Room k X.A) (ng : NoG X.A) (hS : SysD X.K) : CallR X (.builtin "repr") (rDn X.K FRepr) := call1N fun pins s σ H Hs d x us Q I hb nt hs dx rx q => by
  obtain ⟨⟨c1, c2, c3, c4⟩, q⟩ := ite_rv q
  obtain ⟨Hs', l, hb', hs', dn, _⟩ := dx.up hb hs nt
  obtain ⟨u, rfl, r1⟩ := vals1 rx
  have hu := r.units
  have q0 : Q (.str (pyF d).shown) H := rv_str q
  have fin : ∀ (h' : Heap) (t : Tok) (tk : Nat), (∀ b o, s.heap.get? b = some o → h'.get? b = some o) → EP X pins σ Q (.str (pyF d).shown t) { s with heap := h', toks := tk } := fun h' t tk hk => ⟨.str (pyF d).shown, H, I.kept hk, ⟨t, rfl⟩, q0⟩
  obtain ⟨as, hr, ha⟩ := denF_reads hS I hb' hs' d x u c1 dn r1
  unfold reprD at c4
  revert c2 c3 c4 fin hr
  generalize pyF d = p
  intro c2 c3 c4 fin hr
  cases hr with
  | none => exact PySem.P.repr_of_none (fin _ _ _ fun _ _ e => e)
  | bool b => exact PySem.P.repr_of_bool (fin _ _ _ fun _ _ e => e)
  | int i t => exact PySem.P.repr_of_int (of_decide_eq_true c2) (fin _ _ _ fun _ _ e => e)
  | str z t => exact PySem.P.repr_of_str (fin _ _ _ fun _ _ e => e) c4
  | list h1 h2 h3 h4 => exact repr_of_reads' (Reads.list h1 h2 h3 h4) c2 (fun _ h => ha _ h rfl) ng (by omega) (fun _ _ e => e) (fun h' u tk hk => fin h' u tk hk) c4
  | tuple h1 h2 h3 h4 => exact repr_of_reads' (Reads.tuple h1 h2 h3 h4) c2 (fun _ h => ha _ h rfl) ng (by omega) (fun _ _ e => e) (fun h' u tk hk => fin h' u tk hk) c4
  | dict h1 h2 h3 h4 h5 => exact repr_of_reads' (Reads.dict h1 h2 h3 h4 h5) c2 (fun _ h => ha _ h rfl) ng (by omega) (fun _ _ e => e) (fun h' u tk hk => fin h' u tk hk) c4
end DL
end
section
namespace DL
open PySem PySem.Spec PyProof.Rows L2
inductive Iq where
  | a (x : A) | f (d : D) | w (d : D)
def hidL (G : Gh) : List (Addr × HO) → Gh
  | [] => G
  | (p, o) :: r => hidL (G.hide p o) r
def updL (H : Hp) : List (Addr × HO) → Hp
  | [] => H
  | (p, o) :: r => updL (upd H p o) r
inductive QD (K : PySem.W.Frag) (G : Gh) (σ : St) : List Iq → List V → List (Addr × HO) → Prop
  | nil : QD K G σ [] [] []
  | a {x : A} {v : V} {is : List Iq} {vs : List V} {ps : List (Addr × HO)} : ADen K G σ x v → QD K G σ is vs ps → QD K G σ (.a x :: is) (v :: vs) ps
  | f {d : D} {p : Addr} {o : HO} {is : List Iq} {vs : List V} {ps : List (Addr × HO)} : DenO K G.Hs d o → MutO o → QD K G σ is vs ps → QD K G σ (.f d :: is) (.ref p :: vs) ((p, o) :: ps)
  | w {d : D} {v : V} {p : Addr} {o : HO} {is : List Iq} {vs : List V} {ps : List (Addr × HO)} : OwnV G.Hs d v p → DenO K G.Hs (inn d) o → MutO o → QD K G σ is vs ps → QD K G σ (.w d :: is) (v :: vs) ((p, o) :: ps)
def Off (G : Gh) : List (Addr × HO) → Prop
  | [] => True
  | (p, o) :: r => G.Fx p = none ∧ ¬ G.Dm p ∧ NoFrz o ∧ Off (G.hide p o) r
section
variable {K : PySem.W.Frag} {E : XK} {G G' : Gh} {σ : St} {H : Hp} {s : S}
theorem QD.le {is : List Iq} {vs : List V} {ps : List (Addr × HO)} (h : QD K G σ is vs ps) (l : Le G.Hs G'.Hs) : QD K G' σ is vs ps := by
  induction h with
  | nil => exact .nil
  | a h1 _ ih =>
    refine .a ?_ ih
    rename_i x v _ _ _ _
    cases x with
    | d x => exact Den.le l h1
    | sl i => exact h1
  | f h1 h2 _ ih => exact .f (h1.le l) h2 ih
  | w h0 h1 h2 _ ih => exact .w (h0.mono l) (h1.le l) h2 ih
def PostQ (K : PySem.W.Frag) (E : XK) (G : Gh) (σ : St) (Q : List V → Hp → Prop) : R (List Iq) → Prop
  | .ok is s => ∀ vs H' G' ps, G.le G' → Rel K (hidL G' ps) σ H' s → QD K G' σ is vs ps → Off G' ps → Q vs H'
  | .exc c fs s => PostX K E G c fs s.rs
  | .bad => False
def tQ (K : PySem.W.Frag) (E : XK) (g : M (List Iq)) : TA := fun σ H Q => ∃ G s, Rel K G σ H s ∧ PostQ K E G σ Q (g s)
abbrev DQ (X : Cx) (E : XK) (es : List Expr) (g : M (List Iq)) : Prop := PA X es (tQ X.K E g)
theorem ipQ {Q : List V → Hp → Prop} : IsPost K E (fun G => PostQ K E G σ Q) := ⟨fun h => h, fun h => h, fun {G G' r} h l => by
  cases r with
  | ok a s => exact fun vs H' G2 ps l2 => h vs H' G2 ps (l.trans l2)
  | exc c fs s => exact PostX.mono h l
  | bad => exact h⟩
def qNil : M (List Iq) := pur []
def qA (ga : M A) (gs : M (List Iq)) : M (List Iq) := bnd ga fun a => bnd gs fun is => pur (.a a :: is)
def qF (gf : M D) (gs : M (List Iq)) : M (List Iq) := bnd gf fun d => noX (bnd gs fun is => pur (.f d :: is))
theorem hide_ne_le {p : Addr} {o : HO} {G2 : Gh} (l : (G.hide p o).le G2) : G.le (G.wh G2) ∧ G2 = (G.wh G2).hide p o := ⟨Gh.le_whh l, Gh.le_hide l⟩
end
section
variable {X : Cx} {E : XK} {e : Expr} {es : List Expr} {ga : M A} {gf : M D} {gs : M (List Iq)}
theorem dq_nil : DQ X E [] qNil := pa_nil.imp fun σ H Q ⟨G, s, r, h⟩ => h [] H G [] (.refl G) r .nil trivial
theorem dq_a (ha : DE X E e ga) (hr : DQ X E es gs) (hs : starEach (e :: es) X.env = (false, eval e X.env) :: starEach es X.env := by rfl) : DQ X E (e :: es) (qA ga gs) := (pa_cons ha hr hs).imp fun σ H Q ⟨G, s, r, h⟩ =>
  stepE ipQ h r fun x H1 G1 av s1 l1 r1 ad1 h1 => by
    refine ⟨G1, s1, r1, ?_⟩
    unfold bnd at h1
    cases q : gs s1 with
    | ok is s2 =>
      rw [q] at h1
      exact fun vs H' G' ps l r' qd off => h1 _ H' G' ps l r' (.a (ad1.le l) qd) off
    | exc c fs s2 => rw [q] at h1; exact h1
    | bad => rw [q] at h1; exact h1
theorem dq_f (hf : DF X E e gf) (hr : DQ X E es gs) (hs : starEach (e :: es) X.env = (false, eval e X.env) :: starEach es X.env := by rfl) : DQ X E (e :: es) (qF gf gs) := (pa_cons hf hr hs).imp fun σ H Q ⟨G, s, r, h⟩ =>
  stepF ipQ h r fun p o H1 G1 d s1 l1 r1 hp ho mu h1 => by
    obtain ⟨f1, f2, f3, f4⟩ := r1.x.fresh hp
    refine ⟨G1.hide p o, s1, r1.hide hp ho.noFrz, ?_⟩
    unfold noX bnd at h1
    dsimp only at h1
    cases q : gs s1 with
    | ok is s2 =>
      rw [q] at h1
      refine fun vs H' G' ps l r' qd off => ?_
      obtain ⟨l', e'⟩ := hide_ne_le l
      rw [e'] at r' off
      have qd' : QD X.K (G1.wh G') σ is vs ps := qd.le (Le.refl _)
      refine h1 _ H' (G1.wh G') ((p, o) :: ps) l' r' (.f (ho.le l'.hs) mu qd') ⟨?_, ?_, ho.noFrz, off⟩
      · show G1.Fx p = none
        exact f1
      · show ¬ G1.Dm p
        exact f3
    | exc c fs s2 => rw [q] at h1; exact h1.elim
    | bad => rw [q] at h1; exact h1.elim
end
def freshL (H : Hp) : List (Addr × HO) → Prop
  | [] => True
  | (p, o) :: r => H p = none ∧ freshL (upd H p o) r
section
variable {K : PySem.W.Frag} {E : XK} {G G' : Gh} {σ : St} {H : Hp} {s : S}
theorem Rel.unhideL : ∀ {ps : List (Addr × HO)} {G : Gh} {H : Hp}, Rel K (hidL G ps) σ H s → Off G ps → ∃ H0, Rel K G σ H0 s ∧ H = updL H0 ps ∧ freshL H0 ps
  | [], G, H, r, _ => ⟨H, r, rfl, trivial⟩
  | (p, o) :: ps, G, H, r, ⟨f1, f3, nf, off⟩ => by
    obtain ⟨H1, r1, e1, fr⟩ := Rel.unhideL (ps := ps) (G := G.hide p o) r off
    obtain ⟨H0, h0, e0, r0⟩ := r1.unhide f1 f3 nf
    refine ⟨H0, r0, by rw [e1, e0]; rfl, h0, by rw [← e0]; exact fr⟩
end
def forceQ : List Iq → M (List Sl)
  | [] => pur []
  | .a x :: r => bnd (force x) fun d => bnd (forceQ r) fun ss => pur (.fr d :: ss)
  | .f d :: r => bnd (forceQ r) fun ss => pur (.ow d :: ss)
  | .w d :: r => bnd (forceQ r) fun ss => pur (.ow d :: ss)
def putL : List Nat → List Sl → S → S
  | i :: is, x :: xs, s => putL is xs (setSl i x s)
  | _, _, s => s
def sPar (is : List Nat) (g : M (List Iq)) : M Fl := bnd g fun qs => bnd (forceQ qs) fun ss => fun s => if ss.length = is.length then .ok .nx (putL is ss s) else .bad
def setL (σ : St) : List Nat → List V → St
  | i :: is, v :: vs => setL (σ.set i (some v)) is vs
  | _, _ => σ
section
variable {K : PySem.W.Frag} {E : XK} {G G' : Gh} {σ : St} {H : Hp} {s : S}
theorem SD.le {is : List Sl} {vs : List V} {ps : List (Addr × HO)} (h : SD K G is vs ps) (l : Le G.Hs G'.Hs) : SD K G' is vs ps := by
  induction h with
  | nil => exact .nil
  | a h1 _ ih => exact .a (h1.le l) ih
  | f h1 h2 _ ih => exact .f (h1.le l) h2 ih
  | w h0 h1 h2 _ ih => exact .w (h0.mono l) (h1.le l) h2 ih
theorem stepForceQ {β : Type} {P : Gh → R β → Prop} (ip : IsPost K E P) : ∀ {qs : List Iq} {f : List Sl → M β} {G : Gh} {s : S} {vs : List V} {ps : List (Addr × HO)}, P G (bnd (forceQ qs) f s) → Rel K G σ H s → QD K G σ qs vs ps → ∃ ss s' G', G.le G' ∧ Rel K G' σ H s' ∧ SD K G' ss vs ps ∧ P G' (f ss s')
  | [], f, G, s, vs, ps, h, r, qd => by
    cases qd
    exact ⟨[], s, G, .refl G, r, .nil, h⟩
  | .a a :: t, f, G, s, vs, ps, h, r, qd => by
    cases qd with
    | a a1 a2 =>
      have h' : P G (bnd (force a) (fun d => bnd (forceQ t) fun ds => f (.fr d :: ds)) s) := by
        have e : bnd (forceQ (.a a :: t)) f s = bnd (force a) (fun d => bnd (forceQ t) fun ds => f (.fr d :: ds)) s := by
          show bnd (bnd (force a) fun d => bnd (forceQ t) fun ds => pur (.fr d :: ds)) f s = _
          unfold bnd
          cases q : force a s with
          | ok d s1 =>
            dsimp only
            cases q2 : forceQ t s1 <;> rfl
          | exc c fs s1 => rfl
          | bad => rfl
        rw [← e]; exact h
      obtain ⟨d, s1, G1, l1, r1, d1, h1⟩ := stepForce ip h' r a1
      obtain ⟨ds, s2, G2, l2, r2, d2, h2⟩ := stepForceQ ip h1 r1 (a2.le l1.hs)
      exact ⟨.fr d :: ds, s2, G2, l1.trans l2, r2, .a (d1.le l2.hs) d2, h2⟩
  | .f d :: t, f, G, s, vs, ps, h, r, qd => by
    cases qd with
    | f ho mu a2 =>
      have h' : P G (bnd (forceQ t) (fun ds => f (.ow d :: ds)) s) := by
        have e : bnd (forceQ (.f d :: t)) f s = bnd (forceQ t) (fun ds => f (.ow d :: ds)) s := by
          show bnd (bnd (forceQ t) fun ds => pur (.ow d :: ds)) f s = _
          unfold bnd
          cases q2 : forceQ t s <;> rfl
        rw [← e]; exact h
      obtain ⟨ds, s2, G2, l2, r2, d2, h2⟩ := stepForceQ ip h' r a2
      exact ⟨.ow d :: ds, s2, G2, l2, r2, .f (ho.le l2.hs) mu d2, h2⟩
  | .w d :: t, f, G, s, vs, ps, h, r, qd => by
    cases qd with
    | w hv ho mu a2 =>
      have h' : P G (bnd (forceQ t) (fun ds => f (.ow d :: ds)) s) := by
        have e : bnd (forceQ (.w d :: t)) f s = bnd (forceQ t) (fun ds => f (.ow d :: ds)) s := by
          show bnd (bnd (forceQ t) fun ds => pur (.ow d :: ds)) f s = _
          unfold bnd
          cases q2 : forceQ t s <;> rfl
        rw [← e]; exact h
      obtain ⟨ds, s2, G2, l2, r2, d2, h2⟩ := stepForceQ ip h' r a2
      exact ⟨.ow d :: ds, s2, G2, l2, r2, .w (hv.mono l2.hs) (ho.le l2.hs) mu d2, h2⟩
theorem Rel.putL : ∀ {is : List Nat} {ss : List Sl} {vs : List V} {ps : List (Addr × HO)} {σ : St} {H : Hp} {s : S}, Rel K G σ H s → SD K G ss vs ps → freshL H ps → ss.length = is.length → Rel K G (setL σ is vs) (updL H ps) (putL is ss s)
  | [], [], _, _, σ, H, s, r, sd, _, _ => by cases sd; exact r
  | i :: is, x :: ss, _, _, σ, H, s, r, sd, fr, e => by
    cases sd with
    | a h1 h2 => have z := Rel.putL (r.setFr (i := i) h1) h2 fr (is := is) (by simpa using e); exact z
    | f h1 mu h2 => have z := Rel.putL (r.setOw (i := i) fr.1 h1 mu) h2 fr.2 (is := is) (by simpa using e); exact z
    | w hv h1 mu h2 => have z := Rel.putL (r.setOwV (i := i) fr.1 hv h1 mu) h2 fr.2 (is := is) (by simpa using e); exact z
  | [], _ :: _, _, _, _, _, _, _, _, _, e => by simp at e
  | _ :: _, [], _, _, _, _, _, _, _, _, e => by simp at e
theorem d_par {is : List Nat} {g : M (List Iq)} {Dn : Ends} (h : tS K E (sPar is g) Dn σ H) : tQ K E g σ H fun vs H1 => vs.length = is.length ∧ Dn.nx (setL σ is vs) H1 := by
  obtain ⟨G, s, r, h⟩ := h
  refine ⟨G, s, r, ?_⟩
  unfold sPar bnd at h
  cases q : g s with
  | exc c fs s1 => rw [q] at h; exact h
  | bad => rw [q] at h; exact h
  | ok qs s1 =>
    rw [q] at h
    intro vs H1 G1 ps l r1 qd off
    obtain ⟨H0, r0, e0, fr⟩ := r1.unhideL off
    obtain ⟨ss, s2, G2, l2, r2, sd, h2⟩ := stepForceQ (P := fun G => PostS K E G Dn) ipS (ipS.mono h l) r0 qd
    by_cases el : ss.length = is.length
    · have h3 : PostS K E G2 Dn (if ss.length = is.length then .ok .nx (DL.putL is ss s2) else .bad) := h2
      rw [if_pos el] at h3
      rw [e0]
      exact ⟨sd.len.trans el, h3 _ _ G2 (.refl G2) (Rel.putL r2 sd fr el)⟩
    · have h3 : PostS K E G2 Dn (if ss.length = is.length then .ok .nx (DL.putL is ss s2) else .bad) := h2
      rw [if_neg el] at h3
      exact h3.elim
end
section
variable {X : Cx} {E : XK} {a b c : Expr} {i j l : Nat} {x y z : Str} {px py pz pt pos : Pos} {kt k2 pt2} {g : M (List Iq)}
theorem ds_par2 (hc : X.calm = true) (hN : X.N.Nodup) (hi : X.N[i]? = some x) (hj : X.N[j]? = some y) (hij : i ≠ j) (hx : X.env.scope.names.lookup x = some .local) (hy : X.env.scope.names.lookup y = some .local) (ha : DQ X E [a, b] g)
    (hw : swappedStores [.Tuple [.Name x px, .Name y py] kt pt] (.Tuple [a, b] k2 pt2) X.env = pure (some [x, y]) := by rfl) (hs : swapsWithSole [.Tuple [.Name x px, .Name y py] kt pt] (.Tuple [a, b] k2 pt2) pos.line X.env = pure false := by rfl) :
    DS X E (.Assign [.Tuple [.Name x px, .Name y py] kt pt] (.Tuple [a, b] k2 pt2) pos) (sPar [i, j] g) := (ps_par hc hN hi hj hij hx hy ha hw hs).imp fun Dn σ H h => by
  obtain ⟨G, s, r, h⟩ := d_par h
  refine ⟨G, s, r, ?_⟩
  cases q : g s with
  | exc c fs s1 => rw [q] at h; exact h
  | bad => rw [q] at h; exact h
  | ok qs s1 =>
    rw [q] at h
    intro vs H1 G1 ps l r1 qd off
    obtain ⟨e, k⟩ := h vs H1 G1 ps l r1 qd off
    match vs, e, k with
    | [v, w], _, k => exact ⟨v, w, rfl, k⟩
theorem ds_par3 (hc : X.calm = true) (hN : X.N.Nodup) (hi : X.N[i]? = some x) (hj : X.N[j]? = some y) (hl : X.N[l]? = some z) (hij : i ≠ j) (hil : i ≠ l) (hjl : j ≠ l)
    (hx : X.env.scope.names.lookup x = some .local) (hy : X.env.scope.names.lookup y = some .local) (hz : X.env.scope.names.lookup z = some .local) (ha : DQ X E [a, b, c] g)
    (hw : swappedStores [.Tuple [.Name x px, .Name y py, .Name z pz] kt pt] (.Tuple [a, b, c] k2 pt2) X.env = pure (some [x, y, z]) := by rfl)
    (hs : swapsWithSole [.Tuple [.Name x px, .Name y py, .Name z pz] kt pt] (.Tuple [a, b, c] k2 pt2) pos.line X.env = pure false := by rfl) :
    DS X E (.Assign [.Tuple [.Name x px, .Name y py, .Name z pz] kt pt] (.Tuple [a, b, c] k2 pt2) pos) (sPar [i, j, l] g) := (ps_par3 hc hN hi hj hl hij hil hjl hx hy hz ha hw hs).imp fun Dn σ H h => by
  obtain ⟨G, s, r, h⟩ := d_par h
  refine ⟨G, s, r, ?_⟩
  cases q : g s with
  | exc c fs s1 => rw [q] at h; exact h
  | bad => rw [q] at h; exact h
  | ok qs s1 =>
    rw [q] at h
    intro vs H1 G1 ps l r1 qd off
    obtain ⟨e, k⟩ := h vs H1 G1 ps l r1 qd off
    match vs, e, k with
    | [u, v, w], _, k => exact ⟨u, v, w, rfl, k⟩
end
section
variable {X : Cx} {k : Nat}
def pairD : D → Option (Key × D)
  | .tup [k, d] => (dK k).map fun k => (k, d)
  | _ => none
def pairsD : List D → Option (List (Key × D))
  | [] => some []
  | x :: xs => match pairD x, pairsD xs with
    | some p, some ps => some (p :: ps)
    | _, _ => none
def mergeD (ks more : List (Key × D)) : List (Key × D) := more.foldl (fun acc p => putD acc p.1 p.2) ks
def FDict1 (d : D) : Rv := match d with
  | .dic ks => .nw (.dic ks)
  | .lst xs => match pairsD xs with
    | some ps => .nw (.dic (mergeD [] ps))
    | none => .no
  | _ => .no
def FDict := fn1 FDict1
section
variable {K : PySem.W.Frag} {Hs H : Hp}
theorem DenK.repl {k : Key} {d : D} {v : V} (hd : Den K Hs d v) : ∀ {ks : List (Key × D)} {kvs : List (Key × V)}, DenK K Hs ks kvs → DenK K Hs (ks.map fun p => if p.1 = k then (p.1, d) else p) (kvs.map fun kv => if kv.1 = k then (kv.1, v) else kv)
  | [], kvs, h => by unfold DenK at h; subst h; unfold DenK; rfl
  | (k', d') :: ks, kvs, h => by
    unfold DenK at h
    obtain ⟨v', r, rfl, h1, h2⟩ := h
    rw [List.map_cons, List.map_cons]
    by_cases e : k' = k
    · rw [if_pos e, if_pos e]
      unfold DenK; exact ⟨v, _, rfl, hd, DenK.repl hd h2⟩
    · rw [if_neg e, if_neg e]
      unfold DenK; exact ⟨v', _, rfl, h1, DenK.repl hd h2⟩
theorem DenK.snoc {k : Key} {d : D} {v : V} (hd : Den K Hs d v) : ∀ {ks : List (Key × D)} {kvs : List (Key × V)}, DenK K Hs ks kvs → DenK K Hs (ks ++ [(k, d)]) (kvs ++ [(k, v)])
  | [], kvs, h => by unfold DenK at h; subst h; unfold DenK; exact ⟨v, [], rfl, hd, by unfold DenK; rfl⟩
  | (k', d') :: ks, kvs, h => by
    unfold DenK at h
    obtain ⟨v', r, rfl, h1, h2⟩ := h
    rw [List.cons_append, List.cons_append]
    unfold DenK; exact ⟨v', _, rfl, h1, DenK.snoc hd h2⟩
theorem DenK.put {ks : List (Key × D)} {kvs : List (Key × V)} {k : Key} {d : D} {v : V} (h : DenK K Hs ks kvs) (hd : Den K Hs d v) : DenK K Hs (putD ks k d) (putK kvs k v) := by
  unfold putD putK
  rw [h.any]
  by_cases e : (ks.any fun p => decide (p.1 = k)) = true
  · rw [if_pos e, if_pos e]; exact h.repl hd
  · rw [if_neg e, if_neg e]; exact h.snoc hd
theorem DenK.merge : ∀ {more : List (Key × D)} {mv : List (Key × V)} {ks : List (Key × D)} {kvs : List (Key × V)}, DenK K Hs more mv → DenK K Hs ks kvs → DenK K Hs (mergeD ks more) (mergeK kvs mv)
  | [], mv, ks, kvs, h, t => by unfold DenK at h; subst h; exact t
  | (k, d) :: more, mv, ks, kvs, h, t => by
    unfold DenK at h
    obtain ⟨v, r, rfl, h1, h2⟩ := h
    have z := DenK.merge h2 (t.put (k := k) h1)
    exact z
theorem DenK.nil : DenK K Hs [] [] := by unfold DenK; rfl
theorem pairs_den (b : Bare Hs) (s : Sub Hs H) : ∀ {xs : List D} {vs : List V} {ps : List (Key × D)}, DenL K Hs xs vs → pairsD xs = some ps → ∃ as kvs, vs = as.map V.ref ∧ Paired (fun p kv => SqT K H p [kV kv.1, kv.2]) as kvs ∧ DenK K Hs ps kvs
  | [], vs, ps, h, e => by
    unfold DenL at h; subst h; cases e
    exact ⟨[], [], rfl, .nil, .nil⟩
  | x :: xs, vs, ps, h, e => by
    unfold DenL at h
    obtain ⟨v, r, rfl, h1, h2⟩ := h
    unfold pairsD at e
    cases q1 : pairD x with
    | none => rw [q1] at e; cases e
    | some p =>
      cases q2 : pairsD xs with
      | none => rw [q1, q2] at e; cases e
      | some ps' =>
        rw [q1, q2] at e
        cases e
        obtain ⟨as, kvs, rfl, hp, dk⟩ := pairs_den b s h2 q2
        match x, q1, h1 with
        | .tup [kd, d], q1, h1 =>
          obtain ⟨k, e3, rfl⟩ := Option.map_eq_some_iff.mp (show (dK kd).map (fun k => (k, d)) = some p from q1)
          unfold Den at h1
          obtain ⟨a, us, rfl, ht, dl⟩ := h1
          unfold DenL at dl
          obtain ⟨kv, r1, rfl, d1, dl⟩ := dl
          unfold DenL at dl
          obtain ⟨dv, r2, rfl, d2, dl⟩ := dl
          unfold DenL at dl
          subst dl
          have ek := den_key e3 d1
          subst ek
          exact ⟨a :: as, (k, dv) :: kvs, rfl, .cons (sub_t b s ht) hp, by unfold DenK; exact ⟨dv, kvs, rfl, d2, dk⟩⟩
end
theorem r_dict (hc : X.calm = true) : CallR X (.type "dict") (rDn X.K FDict) := call1 fun pins s σ H Hs d x us Q I hb hs dx rx q => by
  cases d with
  | dic ks =>
    obtain ⟨a, kvs, rfl, p1, q1⟩ := dx
    exact call_dictD pins s σ H _ us Q I rx ⟨a, kvs, rfl, p1, fun p hp => q p _ hp ⟨kvs, rfl, q1⟩⟩
  | lst xs =>
    obtain ⟨a, vs, rfl, p1, q1⟩ := raw_lst dx
    have q' : RvPost X.K Hs H Q (match pairsD xs with | some ps => .nw (.dic (mergeD [] ps)) | none => .no) := q
    cases e : pairsD xs with
    | none => rw [e] at q'; exact q'.elim
    | some ps =>
      rw [e] at q'
      obtain ⟨as, kvs, rfl, hp, dk⟩ := pairs_den hb hs q1 e
      exact call_dictP hc pins s σ H _ us Q I rx ⟨a, as, kvs, rfl, .of p1, hp, fun p hp => q' p _ hp ⟨_, rfl, dk.merge .nil⟩⟩
  | _ => exact q.elim
def FMin2 := fn2 fun d e => match d, e with
  | .int i, .int j => .old (.int (if j < i then j else i))
  | _, _ => .no
def FMax2 := fn2 fun d e => match d, e with
  | .int i, .int j => .old (.int (if j > i then j else i))
  | _, _ => .no
def FInt := fn1 fun d => match d with
  | .int i => .old (.int i)
  | .bl b => .old (.int (if b then 1 else 0))
  | _ => .no
def blsD : List D → Option (List Bool)
  | [] => some []
  | .bl b :: xs => (blsD xs).map fun bs => b :: bs
  | _ :: _ => none
def intsD : List D → Option (List Int)
  | [] => some []
  | .int b :: xs => (intsD xs).map fun bs => b :: bs
  | _ :: _ => none
theorem bls_den {K : PySem.W.Frag} {Hs : Hp} : ∀ {xs : List D} {vs : List V} {bs : List Bool}, DenL K Hs xs vs → blsD xs = some bs → vs = bs.map V.bl
  | [], vs, bs, h, e => by unfold DenL at h; subst h; cases e; rfl
  | x :: xs, vs, bs, h, e => by
    unfold DenL at h
    obtain ⟨v, r, rfl, h1, h2⟩ := h
    cases x with
    | bl b =>
      obtain ⟨bs', e2, rfl⟩ := Option.map_eq_some_iff.mp (show (blsD xs).map (fun bs => b :: bs) = some bs from e)
      unfold Den at h1
      rw [h1, bls_den h2 e2]; rfl
    | _ => cases e
def FAll := fn1 fun d => match d with
  | .lst xs => match blsD xs with
    | some bs => .old (.bl (bs.all id))
    | none => .no
  | _ => .no
theorem r_all (hc : X.calm = true) : CallR X (.builtin "all") (rDn X.K FAll) := call1 fun pins s σ H Hs d x us Q I hb hs dx rx q => by
  cases d with
  | lst xs =>
    obtain ⟨a, vs, rfl, p1, q1⟩ := raw_lst dx
    dsimp only at q
    cases e : blsD xs with
    | none => rw [e] at q; exact q.elim
    | some bs => rw [e] at q; exact cr_all hc pins s σ H _ us Q I rx ⟨a, bs, rfl, by rw [← bls_den q1 e]; exact .of p1, rv_bl q⟩
  | _ => exact q.elim
end
def tyN : D → Option TyN
  | .non => some (.b "NoneType")
  | .bl _ => some (.b "bool")
  | .int _ => some (.b "int")
  | .str _ => some (.b "str")
  | .lst _ => some (.b "list")
  | .tup _ => some (.b "tuple")
  | .dic _ => some (.b "dict")
  | .dit _ => some (.b "dict")
  | .tpl _ => none
  | .twr _ => none
  | .ins c _ => some (.own c)
  | .exc _ _ => none
  | .lam _ _ => none
  | .adr _ => none
  | .rg _ => none
structure OwnTy (K : PySem.W.Frag) (c : Str) : Prop where
  cl : Cls K (He.ga K c)
  ha : PySem.W.findIn K (.ref (He.ga K c)) "__class__" = some (some (.builtin "object.__class__"))
  hn : PySem.W.specialIn K (.builtin "object.__class__") "__get__" = some (some (.builtin "getset_descriptor.__get__"))
  htk : PySem.W.takesIn K (.builtin "object.__class__") = some true
  hm : PySem.W.mroIn K (He.ga K c) (.type "object") = some true
theorem tup_ty {K : PySem.W.Frag} {H : Hp} {a : Addr} {xs : List V} (h : SqT K H a xs) : TyX K H (.ref a) (.type "tuple") := by
  rcases h with (h | ⟨o, h⟩) | ⟨o, its, n, h1, h2, _⟩
  · exact .base (.tup h)
  · exact .fTuple h
  · exact .kTuple h1 h2
theorem ty_of {K : PySem.W.Frag} {Hs H : Hp} (b : Bare Hs) (s : Sub Hs H) {d : D} {x : V} {t : TyN} (h : DenH K Hs H d x) (e : tyN d = some t) (ho : ∀ c, t = .own c → OwnTy K c) (hd : t = .b "dict" → ∃ ks, d = .dic ks) : TyX K H x (t.val K) := by
  cases d with
  | non => cases e; have := denH_non h; subst this; exact .base .non
  | bl _ => cases e; have := denH_bl h; subst this; exact .base (.bl _)
  | int _ => cases e; have := denH_int h; subst this; exact .base (.int _)
  | str _ => cases e; have := denH_str h; subst this; exact .base (.str _)
  | lst _ => cases e; obtain ⟨a, vs, rfl, p, _⟩ := raw_lst h; exact .base (.lst p)
  | tup _ => cases e; obtain ⟨a, vs, rfl, _, p, _⟩ := denH_tup b s h; exact tup_ty p
  | dic _ =>
    cases e
    obtain ⟨a, vs, rfl, p, _⟩ := h
    rcases p with p | ⟨o, p⟩
    · exact .base (.dK p)
    · exact .fDict p
  | dit _ => cases e; obtain ⟨ks, z⟩ := hd rfl; cases z
  | tpl _ => cases e
  | twr _ => cases e
  | ins c fs =>
    cases e
    have O := ho c rfl
    unfold DenH Den at h
    obtain ⟨a, dx, gs, rfl, p, _⟩ := h
    exact .base (.ins (sub_raw s p fun z => z) O.cl O.ha O.hn O.htk O.hm)
  | exc _ _ => cases e
  | lam _ _ => cases e
  | adr _ => cases e
  | rg _ => cases e
section
variable {X : Cx} {E : XK} {e ce : Expr} {ga : M A} {p pos : Pos} {x : Str} {tab : List (TyN × Bool)}
def notDit : D → Bool
  | .dit _ => false
  | .tpl _ => false
  | .twr _ => false
  | _ => true
def gIsD (tab : List (TyN × Bool)) (ga : M A) : M A := bnd ga fun a => bnd (pk a) fun d => if notDit d = true then (match tyN d with
  | some t => match tab.lookup t with
    | some b => pur (.d (.bl b))
    | none => bad
  | none => bad) else bad
theorem look_mem {t : TyN} {b : Bool} : ∀ {l : List (TyN × Bool)}, l.lookup t = some b → (t, b) ∈ l
  | [], h => by cases h
  | (t', b') :: l, h => by
    rw [List.lookup_cons] at h
    by_cases et : t = t'
    · subst et; simp at h; subst h; exact .head _
    · have : (t == t') = false := by simpa using et
      rw [this] at h
      exact .tail _ (look_mem h)
theorem dic_of {d : D} {t : TyN} (nd : notDit d = true) (e2 : tyN d = some t) (et : t = .b "dict") : ∃ ks, d = .dic ks := by
  cases d with
  | dic ks => exact ⟨ks, rfl⟩
  | dit _ => cases nd
  | tpl _ => cases nd
  | twr _ => cases nd
  | ins c fs => cases e2; cases et
  | exc _ _ => cases e2
  | non => cases e2; exact absurd et (by decide)
  | bl _ => cases e2; exact absurd et (by decide)
  | int _ => cases e2; exact absurd et (by decide)
  | str _ => cases e2; exact absurd et (by decide)
  | lst _ => cases e2; exact absurd et (by decide)
  | tup _ => cases e2; exact absurd et (by decide)
  | lam _ _ => cases e2
  | adr _ => cases e2
  | rg _ => cases e2
theorem isi_core {K : PySem.W.Frag} {σ : St} {H : Hp} {Q : VK} (h : tD K E (gIsD tab ga) σ H Q) (ho : ∀ c b, (TyN.own c, b) ∈ tab → OwnTy K c) {R : V → Hp → Prop} (k : ∀ x H1 t b, (t, b) ∈ tab → TyX K H1 x (t.val K) → Q (.bl b) H1 → R x H1) : tD K E ga σ H R := by
  obtain ⟨G, s, r, h⟩ := h
  refine stepE ipE h r fun v H1 G1 a s1 l1 r1 ad h1 => ?_
  obtain ⟨d, e1, h2⟩ := stepPk ipE h1
  have dn := r1.peek ad e1
  by_cases nd : notDit d = true
  · rw [if_pos nd] at h2
    cases e2 : tyN d with
    | none => rw [e2] at h2; exact h2.elim
    | some t =>
      rw [e2] at h2
      dsimp only at h2
      cases e3 : tab.lookup t with
      | none => rw [e3] at h2; exact h2.elim
      | some b =>
        rw [e3] at h2
        have mem := look_mem e3
        exact k v H1 t b mem (ty_of r1.x.ba r1.x.hs dn e2 (fun c ec => ho c b (by rw [← ec]; exact mem)) fun et => dic_of nd e2 et) (h2 _ H1 G1 (.refl G1) r1 ad_bl)
  · rw [if_neg nd] at h2; exact h2.elim
theorem pe_ty {y : Str} {n : Value} {v : V} {py : Pos} (hg : Gl X y) (hm : X.mg y = none) (hv : bootBuiltins y = some n) (r : RelV v n) (hn : y ≠ "__name__" := by decide) (hdb : (y == ("__debug__" : Str)) = false := by decide) : PE X (.Name y py) (fun _ H Q => Q v H) :=
  ⟨fun pins s σ H Q I h => ld_blt I hg hm hv ⟨v, H, I, r, h⟩ hn hdb⟩
structure ClsE (X : Cx) (e : Expr) (v : V) (u : Value) : Prop where
  run : PE X e (fun _ H Q => Q v H)
  is : ClsV v u
theorem cls_b {y : Str} {n : String} {py : Pos} (hg : Gl X y) (hm : X.mg y = none) (hv : bootBuiltins y = some (.type n)) (hn : y ≠ "__name__" := by decide) (hdb : (y == ("__debug__" : Str)) = false := by decide) : ClsE X (.Name y py) (.ty n) (.type n) := ⟨pe_ty hg hm hv rfl hn hdb, .ty n⟩
theorem cls_o {y : Str} {C : Addr} {py : Pos} (hg : Gl X y) (hm : X.mg y = some (.ref C)) (hdb : (y == ("__debug__" : Str)) = false := by decide) : ClsE X (.Name y py) (.ref C) (.ref C) := ⟨pe_glob (v := .ref C) hg hm rfl hdb, .own C⟩
theorem de_is1 {v : V} {u : Value} (hg : Gl X "isinstance") (hm : X.mg "isinstance" = none) (he : DE X E e ga) (hc : ClsE X ce v u) (hk : ∀ t b, (t, b) ∈ tab → PySem.W.kitOne X.K (t.val X.K) u = some b) (ho : ∀ c b, (TyN.own c, b) ∈ tab → OwnTy X.K c)
    (hs : starEach [e, ce] X.env = (false, eval e X.env) :: starEach [ce] X.env := by rfl) (hs2 : starEach [ce] X.env = (false, eval ce X.env) :: starEach [] X.env := by rfl) (hpl : (backTo pos (starEach [ce] X.env)).any (·.1) = false := by rfl) :
    DE X E (.Call (.Name "isinstance" p) [e, ce] [] pos) (gIsD tab ga) :=
  (pe_callB call_isi hg hm (by decide +kernel) (pa_cons he (pa_cons hc.run pa_nil hs2) hs) (by decide) (by decide) hs hpl).imp fun σ H Q h => isi_core h ho fun x H1 t b mem ty q => ⟨x, v, t.val X.K, u, b, rfl, hc.is, ty, hk t b mem, q⟩
inductive ClsL (X : Cx) : List Expr → List V → List Value → Prop
  | nil : ClsL X [] [] []
  | cons {e : Expr} {v : V} {u : Value} {es : List Expr} {vs : List V} {us : List Value} : ClsE X e v u → (starEach (e :: es) X.env = (false, eval e X.env) :: starEach es X.env) → ClsL X es vs us → ClsL X (e :: es) (v :: vs) (u :: us)
theorem ClsL.pa {es : List Expr} {vs : List V} {us : List Value} (h : ClsL X es vs us) : PA X es (fun _ H Q => Q vs H) := by
  induction h with
  | nil => exact pa_nil
  | cons c hs _ ih => exact (pa_cons c.run ih hs).imp fun σ H Q q => q
end
def owL (i : Nat) (s : S) : Option (List D) := match s.sl[i]? with
  | some (.ow (.lst xs)) => some xs
  | _ => none
def gAppend (i : Nat) (ga : M A) : M A := fun s => match owL i s with
  | none => .bad
  | some _ => bnd ga (fun a => bnd (force a) fun d => fun s => match owL i s with
    | some xs => if xs.length < sizeLine then .ok (.d .non) (setSl i (.ow (.lst (xs ++ [d]))) s) else .bad
    | none => .bad) s
def gPop (i : Nat) (ga : M A) : M A := fun s => match owL i s with
  | none => .bad
  | some _ => bnd ga (fun a => bnd (pk a) fun d => fun s => match d, owL i s with
    | .int j, some xs => if -(2 ^ 63) ≤ j ∧ j < 2 ^ 63 then (match seqIndex? j xs.length with
      | some k => match xs[k]? with
        | some y => .ok (.d y) (setSl i (.ow (.lst (xs.eraseIdx k))) s)
        | none => .bad
      | none => .bad) else .bad
    | _, _ => .bad) s
section
variable {K : PySem.W.Frag} {G : Gh} {σ : St} {H : Hp} {s : S} {i : Nat}
theorem Rel.owL (r : Rel K G σ H s) {xs : List D} (e : owL i s = some xs) : ∃ p vs, σ[i]? = some (some (.ref p)) ∧ H p = some (.lst vs) ∧ DenL K G.Hs xs vs ∧ s.sl[i]? = some (.ow (.lst xs)) := by
  unfold DL.owL at e
  split at e
  · rename_i ys q
    cases e
    obtain ⟨p, o, a1, a2, _, a4, _⟩ := r.ow i _ q
    obtain ⟨vs, rfl, h⟩ := a4
    exact ⟨p, vs, a1, a2, h, q⟩
  · cases e
end
section
variable {X : Cx} {E : XK} {e e2 o : Expr} {ga gb gc : M A} {p pos apos cpos pos' : Pos} {x : Str} {k : Nat}
theorem de_append (i : Nat) (ha : DE X E e ga) (hN : X.N[i]? = some x := by rfl) (hv : Vis X.env.scope x := by first | exact Or.inl rfl | exact Or.inr (Or.inl rfl) | exact Or.inr (Or.inr rfl)) (hd : (x == ("__debug__" : Str)) = false := by decide) (hcd : (x == ("__classdict__" : Str)) = false := by decide)
    (hs : starEach [e] X.env = (false, eval e X.env) :: starEach [] X.env := by rfl) (hbase : attributeBase (.Name x p) "append" X.env (eval (.Name x p) X.env) = eval (.Name x p) X.env := by rfl)
    (hfew : ((backTo cpos (starEach [e] X.env)).all (fun x => !x.1) && (backToKw cpos (keywordEach [] X.env)).all (fun x => x.1.isSome) && decide ([e].length + ([] : List Keyword).length + (if ([] : List Keyword).isEmpty then 0 else 1) < 30)) = true := by rfl)
    (hline : (apos.endLine == cpos.line) = true := by rfl) (hplain : (backTo cpos (starEach [] X.env)).any (·.1) = false := by rfl) :
    DE X E (.Call (.Attribute (.Name x p) "append" apos) [e] [] cpos) (gAppend i ga) :=
  (pe_bm PySem.F.plainAttrs_list PySem.F.slot_list_append PySem.F.type_list_append mt_append (pe_var hN hv hd hcd) (pa_cons ha pa_nil hs) hbase hfew hline hs hplain).imp fun σ H Q ⟨G, s, r, h⟩ => by
    unfold gAppend at h
    cases q : owL i s with
    | none => rw [q] at h; exact h.elim
    | some ys =>
      rw [q] at h
      dsimp only at h
      obtain ⟨l, vs, a1, a2, a3, a4⟩ := r.owL q
      refine ⟨.ref l, a1, .inl ⟨rfl, _, .of a2⟩, ?_⟩
      refine stepE ipE h r fun v H1 G1 a s1 l1 r1 ad h1 => ?_
      obtain ⟨d, s2, G2, l2, r2, dn, h2⟩ := stepForce ipE h1 r1 ad
      cases q2 : owL i s2 with
      | none => rw [q2] at h2; exact h2.elim
      | some xs =>
        rw [q2] at h2
        dsimp only at h2
        obtain ⟨l', ws, b1, b2, b3, b4⟩ := r2.owL q2
        rw [a1] at b1; cases b1
        by_cases c : xs.length < sizeLine
        · rw [if_pos c] at h2
          have ho : DenO X.K G2.Hs (.lst (xs ++ [d])) (.lst (ws ++ [v])) := den_lst (b3.snoc dn)
          exact ⟨l, ws, v, rfl, rfl, b2, by rw [b3.len]; exact c, h2 .non _ G2 (.refl G2) (r2.writeOw b4 a1 ho trivial) (by show Den _ _ _ _; unfold Den; rfl)⟩
        · rw [if_neg c] at h2; exact h2.elim
theorem de_pop (i : Nat) (ha : DE X E e ga) (hN : X.N[i]? = some x := by rfl) (hv : Vis X.env.scope x := by first | exact Or.inl rfl | exact Or.inr (Or.inl rfl) | exact Or.inr (Or.inr rfl)) (hd : (x == ("__debug__" : Str)) = false := by decide) (hcd : (x == ("__classdict__" : Str)) = false := by decide)
    (hs : starEach [e] X.env = (false, eval e X.env) :: starEach [] X.env := by rfl) (hbase : attributeBase (.Name x p) "pop" X.env (eval (.Name x p) X.env) = eval (.Name x p) X.env := by rfl)
    (hfew : ((backTo cpos (starEach [e] X.env)).all (fun x => !x.1) && (backToKw cpos (keywordEach [] X.env)).all (fun x => x.1.isSome) && decide ([e].length + ([] : List Keyword).length + (if ([] : List Keyword).isEmpty then 0 else 1) < 30)) = true := by rfl)
    (hline : (apos.endLine == cpos.line) = true := by rfl) (hplain : (backTo cpos (starEach [] X.env)).any (·.1) = false := by rfl) :
    DE X E (.Call (.Attribute (.Name x p) "pop" apos) [e] [] cpos) (gPop i ga) :=
  (pe_bm PySem.F.plainAttrs_list PySem.F.slot_list_pop PySem.F.type_list_pop mt_popAt (pe_var hN hv hd hcd) (pa_cons ha pa_nil hs) hbase hfew hline hs hplain).imp fun σ H Q ⟨G, s, r, h⟩ => by
    unfold gPop at h
    cases q : owL i s with
    | none => rw [q] at h; exact h.elim
    | some ys =>
      rw [q] at h
      dsimp only at h
      obtain ⟨l, vs, a1, a2, a3, a4⟩ := r.owL q
      refine ⟨.ref l, a1, .inl ⟨rfl, _, .of a2⟩, ?_⟩
      refine stepE ipE h r fun v H1 G1 a s1 l1 r1 ad h1 => ?_
      obtain ⟨d, e1, h2⟩ := stepPk ipE h1
      have dn := r1.peek ad e1
      cases d with
      | int j =>
        have := denH_int dn; subst this
        cases q2 : owL i s1 with
        | none => rw [q2] at h2; exact h2.elim
        | some xs =>
          rw [q2] at h2
          dsimp only at h2
          obtain ⟨l', ws, b1, b2, b3, b4⟩ := r1.owL q2
          rw [a1] at b1; cases b1
          by_cases c : -(2 ^ 63) ≤ j ∧ j < 2 ^ 63
          · rw [if_pos c] at h2
            cases q3 : seqIndex? j xs.length with
            | none => rw [q3] at h2; exact h2.elim
            | some m =>
              rw [q3] at h2
              dsimp only at h2
              cases q4 : xs[m]? with
              | none => rw [q4] at h2; exact h2.elim
              | some y =>
                rw [q4] at h2
                dsimp only at h2
                obtain ⟨w, c1, c2⟩ := b3.get q4
                have ho : DenO X.K G1.Hs (.lst (xs.eraseIdx m)) (.lst (ws.eraseIdx m)) := den_lst (b3.erase m)
                exact ⟨l, ws, j, m, w, rfl, rfl, b2, c.1, c.2, by rw [b3.len]; exact q3, c1, h2 w _ G1 (.refl G1) (r1.writeOw b4 a1 ho trivial) c2⟩
          · rw [if_neg c] at h2; exact h2.elim
      | _ => exact h2.elim
theorem pk_dic {K : PySem.W.Frag} {G : Gh} {σ : St} {H : Hp} {s : S} (r : Rel K G σ H s) {a : A} {v : V} {ks : List (Key × D)} (ad : ADen K G σ a v) (e : peek a s = some (.dic ks)) : ∃ l kvs, v = .ref l ∧ Rd H l (.dK kvs) ∧ DenK K G.Hs ks kvs := r.peek ad e
def isDic (a : A) : M Unit := fun s => match peek a s with
  | some (.dic _) => .ok () s
  | _ => .bad
def gGetD (ga gb gc : M A) : M A := bnd ga fun a => bnd (isDic a) fun _ => bnd gb fun b => bnd gc fun c => bnd (pk a) fun d => bnd (pk b) fun e => bnd (force c) fun z => match d, dK e with
  | .dic ks, some k => pur (.d ((lookD ks k).getD z))
  | _, _ => bad
theorem stepDic {K : PySem.W.Frag} {β : Type} {P : Gh → R β → Prop} (ip : IsPost K E P) {G : Gh} {s : S} {a : A} {f : Unit → M β} (h : P G (bnd (isDic a) f s)) : ∃ ks, peek a s = some (.dic ks) ∧ P G (f () s) := by
  unfold bnd isDic at h
  split at h
  · rename_i u s' q
    split at q
    · rename_i ks e; cases q; exact ⟨ks, e, h⟩
    · cases q
  · rename_i q; split at q <;> cases q
  · exact (ip.bd h).elim
theorem de_get2 (r0 : Room k X.A) {f : Expr} (ho : DE X E o ga) (he : DE X E e gb) (hf : DE X E f gc) (m : M2 X o "get" apos e f cpos := by exact ⟨rfl, rfl, rfl, rfl⟩) : DE X E (.Call (.Attribute o "get" apos) [e, f] [] cpos) (gGetD ga gb gc) :=
  (pe_dget2 (by have := r0.units; omega) ho he hf m).imp fun σ H Q ⟨G, s, r, h⟩ => stepE ipE h r fun v H1 G1 a s1 l1 r1 ad h1 => by
    obtain ⟨ks0, e0, h1⟩ := stepDic ipE h1
    obtain ⟨l, kvs0, rfl, p0, _⟩ := pk_dic r1 ad e0
    refine ⟨l, rfl, .inl ⟨kvs0, p0⟩, ?_⟩
    refine stepE ipE h1 r1 fun y H2 G2 b s2 l2 r2 ad2 h2 => stepE ipE h2 r2 fun z H3 G3 c s3 l3 r3 ad3 h3 => ?_
    obtain ⟨d, e1, h4⟩ := stepPk ipE h3
    obtain ⟨e, e2, h5⟩ := stepPk ipE h4
    have dd := r3.peek ((ad.le l2).le l3) e1
    have de := r3.peek (ad2.le l3) e2
    obtain ⟨zd, s4, G4, l4, r4, dz, h6⟩ := stepForce ipE h5 r3 ad3
    cases d with
    | dic ks =>
      cases q2 : dK e with
      | none => rw [q2] at h6; exact h6.elim
      | some k' =>
        rw [q2] at h6
        dsimp only at h6
        have ey : y = kV k' := by
          cases e with
          | int i => cases q2; exact denH_int de
          | str i => cases q2; exact denH_str de
          | _ => cases q2
        subst ey
        obtain ⟨l', kvs, el, p1, q1⟩ := dd
        cases el
        obtain ⟨o, g, e3, e4⟩ := dget_of p1 q1 k'
        refine ⟨o, g, ?_⟩
        cases q3 : lookD ks k' with
        | none =>
          rw [q3] at h6 e3
          cases o with
          | none => exact h6 z H3 G4 (.refl G4) r4 dz
          | some _ => cases e3
        | some x =>
          rw [q3] at h6
          obtain ⟨w, rfl, dw⟩ := e4 x q3
          exact h6 w H3 G4 (.refl G4) r4 (dw.le l4.hs)
    | _ => exact h6.elim
def strsD : List D → Option (List Str)
  | [] => some []
  | .str b :: xs => (strsD xs).map fun bs => b :: bs
  | _ :: _ => none
theorem strs_den {K : PySem.W.Frag} {Hs : Hp} : ∀ {xs : List D} {vs : List V} {bs : List Str}, DenL K Hs xs vs → strsD xs = some bs → vs = bs.map V.str
  | [], vs, bs, h, e => by unfold DenL at h; subst h; cases e; rfl
  | x :: xs, vs, bs, h, e => by
    unfold DenL at h
    obtain ⟨v, r, rfl, h1, h2⟩ := h
    cases x with
    | str b =>
      obtain ⟨bs', e2, rfl⟩ := Option.map_eq_some_iff.mp (show (strsD xs).map (fun bs => b :: bs) = some bs from e)
      unfold Den at h1
      rw [h1, strs_den h2 e2]; rfl
    | _ => cases e
def joinT (a : Str) (xs : List D) : Option Str := (strsD xs).bind fun ys => if (ys.map (·.length)).sum + ys.length * a.length ≤ 16777216 then some (Txt.join a ys) else none
def joinD (z d : D) : Option Str := match z with
  | .str a => match d with
    | .lst xs => joinT a xs
    | .tup xs => joinT a xs
    | _ => none
  | _ => none
def FJoin (z d : D) : Rv := match joinD z d with
  | some t => .old (.str t)
  | none => .no
theorem joinT_some {a t : Str} {xs : List D} (h : joinT a xs = some t) : ∃ ys, strsD xs = some ys ∧ (ys.map (·.length)).sum + ys.length * a.length ≤ 16777216 ∧ t = Txt.join a ys := by
  unfold joinT at h
  obtain ⟨ys, h1, h2⟩ := Option.bind_eq_some_iff.mp h
  split at h2
  · rename_i c; cases h2; exact ⟨ys, h1, c, rfl⟩
  · cases h2
def isStr (a : A) : M Unit := fun s => match peek a s with
  | some (.str _) => .ok () s
  | _ => .bad
theorem stepStr {K : PySem.W.Frag} {β : Type} {P : Gh → R β → Prop} (ip : IsPost K E P) {G : Gh} {s : S} {a : A} {f : Unit → M β} (h : P G (bnd (isStr a) f s)) : ∃ z, peek a s = some (.str z) ∧ P G (f () s) := by
  unfold bnd isStr at h
  split at h
  · rename_i u s' q
    split at q
    · rename_i ks e; cases q; exact ⟨ks, e, h⟩
    · cases q
  · rename_i q; split at q <;> cases q
  · exact (ip.bd h).elim
def gM1 (F : D → D → Rv) (ga gb : M A) : M A := bnd ga fun a => bnd (isStr a) fun _ => bnd gb fun b => bnd (pk a) fun d => bnd (pk b) fun e => rvM (F d e)
theorem de_join (ho : DE X E o ga) (he : DE X E e gb) (hs : starEach [e] X.env = [(false, eval e X.env)] := by rfl) (hbase : attributeBase o "join" X.env (eval o X.env) = eval o X.env := by rfl) (hline : (apos.endLine == pos.line) = true := by rfl) :
    DE X E (.Call (.Attribute o "join" apos) [e] [] pos) (gM1 FJoin ga gb) := (pe_join ho he hs hbase hline).imp fun σ H Q ⟨G, s, r, h⟩ => stepE ipE h r fun v H1 G1 a s1 l1 r1 ad h1 => by
  obtain ⟨z0, e0, h1⟩ := stepStr ipE h1
  have d0 := r1.peek ad e0
  have := denH_str d0; subst this
  refine ⟨⟨z0, rfl⟩, ?_⟩
  refine stepE ipE h1 r1 fun y H2 G2 b s2 l2 r2 ad2 h2 => ?_
  obtain ⟨d, e1, h4⟩ := stepPk ipE h2
  obtain ⟨e, e2, h5⟩ := stepPk ipE h4
  have dd := r2.peek (ad.le l2) e1
  have de := r2.peek ad2 e2
  have q := r2.rv h5
  unfold FJoin at q
  cases qj : joinD d e with
  | none => rw [qj] at q; exact q.elim
  | some t =>
    rw [qj] at q
    cases d with
    | str a' =>
      have ea := denH_str dd
      cases ea
      cases e with
      | lst xs =>
        obtain ⟨l, vs, rfl, p1, q1⟩ := raw_lst de
        obtain ⟨ys, e3, c, rfl⟩ := joinT_some (show joinT z0 xs = some t from qj)
        have ev := strs_den q1 e3
        exact ⟨z0, l, ys, rfl, rfl, .inl (by rw [← ev]; exact .of p1), c, rv_str q⟩
      | tup xs =>
        obtain ⟨l, vs, rfl, p0, p1, q1⟩ := denH_tup r2.x.ba r2.x.hs de
        obtain ⟨ys, e3, c, rfl⟩ := joinT_some (show joinT z0 xs = some t from qj)
        have ev := strs_den q1 e3
        exact ⟨z0, l, ys, rfl, rfl, .inr (by rw [← ev]; exact p1), c, rv_str q⟩
      | _ => cases qj
    | _ => cases qj
def sAsg (t : Tg) (ga : M A) : M Fl := bnd ga fun a => bnd (force a) fun d => fun s => match t d s with
  | some s' => .ok .nx s'
  | none => .bad
theorem ds_asg {tg : Expr} {t : Tg} {js : List Nat} (he : DE X E e ga) (hg : DG X tg js t) (hs : swapsWithSole [tg] e pos.line X.env = pure false := by rfl) (hw : swappedStores [tg] e X.env = pure none := by rfl) (h1 : (assignEach [tg] X.env).map (·.2) = [assign tg X.env] := by rfl) : DS X E (.Assign [tg] e pos) (sAsg t ga) :=
  (ps_asg he hg hs hw h1).imp fun Dn σ H ⟨G, s, r, h⟩ => stepE ipS h r fun v H1 G1 a s1 l1 r1 ad h1 => by
    obtain ⟨d, s2, G2, l2, r2, dn, h2⟩ := stepForce ipS h1 r1 ad
    cases q : t d s2 with
    | none => rw [q] at h2; exact h2.elim
    | some s3 =>
      rw [q] at h2
      exact ⟨G2, s2, d, s3, r2, dn, q, fun σ' r3 _ => h2 σ' H1 G2 (.refl G2) r3⟩
end
abbrev TakesE (X : Cx) (E : XK) : Prop := Takes X (fun c d _ H => E c d H)
theorem takes_cx {P : Program} {w : World} {K : PySem.W.Frag} {mg : Str → Option Value} {base : Heap} {N : List Str} {qual : Str} {scope : Scope} {f : Addr} {cd : Value} {A : Around} {outer : List Env} {s : Shared} {H : Hp} {E : XK} : TakesE (cxOf (L2.CX P w) P w K mg base N qual scope f cd A outer s H E) E :=
  takes_of rfl rfl rfl rfl
def putFD (f : Str) (d : D) : List (Str × D) → List (Str × D)
  | [] => [(f, d)]
  | (g, x) :: r => if g = f then (g, d) :: r else (g, x) :: putFD f d r
theorem DenF.put {K : PySem.W.Frag} {Hs : Hp} {f : Str} {d : D} {v : V} (hd : Den K Hs d v) : ∀ {fs : List (Str × D)} {gs : List (Str × V)}, DenF K Hs fs gs → DenF K Hs (putFD f d fs) (putF f v gs)
  | [], gs, h => by unfold DenF at h; subst h; unfold putFD putF DenF; exact ⟨v, [], rfl, hd, by unfold DenF; rfl⟩
  | (g, x) :: r, gs, h => by
    unfold DenF at h
    obtain ⟨w, r', rfl, h1, h2⟩ := h
    unfold putFD putF
    by_cases e : g = f
    · rw [if_pos e, if_pos e]; unfold DenF; exact ⟨v, r', rfl, hd, h2⟩
    · rw [if_neg e, if_neg e]; unfold DenF; exact ⟨w, _, rfl, h1, DenF.put hd h2⟩
def meC (c : Str) (s : S) : Option Me := match (s.sl[(0 : Nat)]? : Option Sl), s.me with
  | some (Sl.fr (D.adr a)), some q => if a = q.x ∧ q.c = c then some q else none
  | _, _ => none
theorem meC_some {c : Str} {s : S} {q : Me} (h : meC c s = some q) : s.sl[(0 : Nat)]? = some (Sl.fr (D.adr q.x)) ∧ s.me = some q ∧ q.c = c := by
  unfold meC at h
  split at h
  · rename_i a q' e1 e2
    split at h
    · rename_i z; cases h; exact ⟨by rw [e1, z.1], e2, z.2⟩
    · cases h
  · cases h
def sSelf (c f : Str) (ga : M A) : M Fl := bnd ga fun a => bnd (force a) fun d => fun s => match meC c s with
  | some q => if q.fs.length < 1000 then .ok .nx { s with me := some { q with fs := putFD f d q.fs } } else .bad
  | none => .bad
def gSelf (c f : Str) : M A := fun s => match meC c s with
  | some q => match q.fs.lookup f with
    | some d => .ok (.d d) s
    | none => .bad
  | none => .bad
section
variable {K : PySem.W.Frag} {E : XK} {G G' Gc : Gh} {σ : St} {H H' : Hp} {s : S} {rs rs' : Option Rs}
theorem Rel.meAt (r : Rel K G σ H s) {q : Me} (e : s.me = some q) : MeAt K G H s.rs q := by
  have w := r.me
  rw [e] at w; exact w
theorem Rel.self (r : Rel K G σ H s) {c : Str} {q : Me} (e : meC c s = some q) : σ[0]? = some (some (.ref q.x)) ∧ ∃ gs, H q.x = some (.ins (He.ga K c) q.dx gs) ∧ DenF K G.Hs q.fs gs := by
  obtain ⟨e1, e2, e3⟩ := meC_some e
  obtain ⟨v, a1, a2⟩ := r.fr 0 _ e1
  unfold Den at a2
  subst a2
  obtain ⟨gs, b1, b2⟩ := (r.meAt e2).o
  rw [e3] at b1
  exact ⟨a1, gs, b1, b2⟩
theorem Rel.writeMe (r : Rel K G σ H s) {q : Me} (e : s.me = some q) {f : Str} {d : D} {v : V} {gs : List (Str × V)} (hd : Den K G.Hs d v) (hg : H q.x = some (.ins (He.ga K q.c) q.dx gs)) (dg : DenF K G.Hs q.fs gs) : Rel K G σ (upd H q.x (.ins (He.ga K q.c) q.dx (putF f v gs))) { s with me := some { q with fs := putFD f d q.fs } } := by
  have z := r.meAt e
  refine ⟨r.x.write z.nf z.ns z.nr trivial, r.fr, fun i d' e' => ?_, r.ap, r.ln, ?_⟩
  · obtain ⟨p, o, a1, a2, a3, a4, a5, a6, a7, a8⟩ := r.ow i d' e'
    have n : p ≠ q.x := fun y => by
      rw [y, hg] at a2; cases a2; exact a3
    exact ⟨p, o, a1, by rw [upd_ne n]; exact a2, a3, a4, a5, a6, a7, a8⟩
  · exact ⟨⟨_, upd_same, dg.put hd⟩, z.ns, z.nf, z.nd, z.nr⟩
noncomputable def mkGh (G : Gh) (H : Hp) (rs : Option Rs) (x : Addr) : Gh := ⟨fun a => if a = x then none else (callGh G H rs G.Hs).Fx a, fun a => (callGh G H rs G.Hs).Dm a ∧ a ≠ x, G.Hs⟩
theorem RelX.toMk {x : Addr} {C dx : Addr} {gs : List (Str × V)} (r : RelX K G H rs) (hx : H x = some (.ins C dx gs)) : RelX K (mkGh G H rs x) H rs := by
  have c := r.callee0
  refine ⟨fun a o e => ?_, c.hs, c.ba, fun a q => c.dm a q.1, fun a q => c.dh a q.1, fun a ob u e => ?_, ?_⟩
  · have e' : (if a = x then none else (callGh G H rs G.Hs).Fx a) = some o := e
    by_cases z : a = x
    · rw [if_pos z] at e'; cases e'
    · rw [if_neg z] at e'; exact c.fx a o e'
  · intro nt
    have z : a ≠ x := fun z => by rw [z, hx] at e; cases e
    show (if a = x then none else (callGh G H rs G.Hs).Fx a) = _
    rw [if_neg z]; exact c.lo a ob u e nt
  · cases rs with
    | none => trivial
    | some q =>
      have z : RsAt K (callGh G H (some q) G.Hs) H q := c.rs
      have no : ∀ a, (callGh G H (some q) G.Hs).Fx a = none → (if a = x then none else (callGh G H (some q) G.Hs).Fx a) = none := fun a h => by
        by_cases y : a = x
        · rw [if_pos y]
        · rw [if_neg y]; exact h
      exact z.re (fun _ _ => rfl) (Le.refl _) (fun a h => ⟨(z.no a h).1, no _ (z.no a h).2.1, fun y => (z.no a h).2.2 y.1⟩) ⟨fun _ _ => rfl, fun a _ f => no a f, fun _ t => t⟩
theorem RelX.fromMk {x C dx : Addr} {gs gs0 : List (Str × V)} (hx0 : H x = some (.ins C dx gs0)) (nrs : RsNe rs x) (hs0 : G.Hs x = none) (l : (mkGh G H rs x).le Gc) (x' : RelX K Gc H' rs') (hx : H' x = some (.ins C dx gs)) (ns : Gc.Hs x = none) (nr : RsNe rs' x) :
    ∃ Gd, Gd.Hs = Gc.Hs ∧ (callGh G (upd H x (.ins C dx gs)) rs G.Hs).le Gd ∧ RelX K Gd H' rs' := by
  have nis : ¬ isRs G.Hs rs x := fun ⟨q, e, h⟩ => h.elim (nrs q e) fun h => tg_ne h.tg hs0 rfl
  have gfx : ∀ a, a ≠ x → (callGh G (upd H x (.ins C dx gs)) rs G.Hs).Fx a = Gc.Fx a := fun a n => by
    rw [l.fx]
    show (if isRs G.Hs rs a then none else upd H x _ a) = (if a = x then none else (if isRs G.Hs rs a then none else H a))
    rw [if_neg n, upd_ne n]
  have gfx0 : (callGh G (upd H x (.ins C dx gs)) rs G.Hs).Fx x = some (.ins C dx gs) := by
    show (if isRs G.Hs rs x then none else upd H x _ x) = _
    rw [if_neg nis, upd_same]
  have gdm : ∀ a, a ≠ x → ((callGh G (upd H x (.ins C dx gs)) rs G.Hs).Dm a ↔ Gc.Dm a) := fun a n => by
    rw [l.dm]
    show (upd H x _ a ≠ none ∧ G.Hs a = none ∧ ¬ isRs G.Hs rs a) ↔ ((H a ≠ none ∧ G.Hs a = none ∧ ¬ isRs G.Hs rs a) ∧ a ≠ x)
    rw [upd_ne n]
    exact ⟨fun h => ⟨h, n⟩, fun h => h.1⟩
  refine ⟨⟨(callGh G (upd H x (.ins C dx gs)) rs G.Hs).Fx, (callGh G (upd H x (.ins C dx gs)) rs G.Hs).Dm, Gc.Hs⟩, rfl, ⟨rfl, rfl, l.hs⟩, ⟨fun a o e => ?_, x'.hs, x'.ba, fun a q => ?_, fun a q => ?_, fun a ob u e => ?_, ?_⟩⟩
  · by_cases n : a = x
    · subst n
      have e' : (callGh G (upd H a (.ins C dx gs)) rs G.Hs).Fx a = some o := e
      rw [gfx0] at e'; cases e'; exact hx
    · have e' : (callGh G (upd H x (.ins C dx gs)) rs G.Hs).Fx a = some o := e
      rw [gfx a n] at e'; exact x'.fx a o e'
  · by_cases n : a = x
    · rw [n]; exact ns
    · exact x'.dm a ((gdm a n).mp q)
  · by_cases n : a = x
    · rw [n, hx]; exact fun z => nomatch z
    · exact x'.dh a ((gdm a n).mp q)
  · intro nt
    have n : a ≠ x := fun n => by rw [n, hx] at e; cases e
    show (callGh G (upd H x (.ins C dx gs)) rs G.Hs).Fx a = _
    rw [gfx a n]; exact x'.lo a ob u e nt
  · cases rs' with
    | none => trivial
    | some q =>
      have z : RsAt K Gc H' q := x'.rs
      have n : ∀ a, q.has a → a ≠ x := fun a h y => nr q rfl (y ▸ h)
      exact z.re (fun _ _ => rfl) (Le.refl _) (fun a h => ⟨(z.no a h).1, by show (callGh G (upd H x (.ins C dx gs)) rs G.Hs).Fx _ = none; rw [gfx _ (n a h)]; exact (z.no a h).2.1, fun y => (z.no a h).2.2 ((gdm _ (n a h)).mp y)⟩) ⟨fun _ _ => rfl, fun a t f => by show (callGh G (upd H x (.ins C dx gs)) rs G.Hs).Fx a = none; rw [gfx a (tg_ne t.tg ns)]; exact f, fun _ t => t⟩
theorem XDen.backMk {x : Addr} {fs : Option (List (Str × D))} {od : Option Addr} (r : RelX K G H rs) (f3 : ¬ G.Dm x) (l : (mkGh G H rs x).le Gc) (xd : XDen K Gc H' fs od) : XDen K (G.wh Gc) H' fs od := by
  cases fs with
  | none => exact xd
  | some fs =>
    obtain ⟨d, gs, e, h1, h2, h3⟩ := xd
    refine ⟨d, gs, e, h1, ⟨fun q => h2.1 ?_, h2.2⟩, h3⟩
    have n : d ≠ x := fun n => f3 (n ▸ q)
    rw [l.dm]
    exact ⟨⟨r.dh d q, r.dm d q, fun i => (r.noRs i).2 q⟩, n⟩
theorem RelX.backMk {x C dx : Addr} {gs : List (Str × V)} (r : RelX K G H rs) (f1 : G.Fx x = none) (f3 : ¬ G.Dm x) (hx : H x = some (.ins C dx gs)) (l : (mkGh G H rs x).le Gc) (x' : RelX K Gc H' rs') : RelX K (G.wh Gc) H' rs' ∧ G.le (G.wh Gc) := by
  have nRs : ∀ a, (∃ o, G.Fx a = some o) ∨ G.Dm a → ¬ isRs G.Hs rs a := fun a h i => by
    obtain ⟨q1, q3⟩ := r.noRs i
    rcases h with ⟨o, h⟩ | h
    · rw [q1] at h; cases h
    · exact q3 h
  have keep : ∀ a o, a ≠ x → ¬ isRs G.Hs rs a → H a = some o → H' a = some o := fun a o n z h => x'.fx a o (by
    rw [l.fx]
    show (if a = x then none else (if isRs G.Hs rs a then none else H a)) = some o
    rw [if_neg n, if_neg z]; exact h)
  refine ⟨⟨fun a o e => ?_, x'.hs, x'.ba, fun a q => ?_, fun a q => ?_, fun a ob u e => ?_, ?_⟩, ⟨rfl, rfl, l.hs⟩⟩
  · have n : a ≠ x := fun n => by
      have e' : G.Fx a = some o := e
      rw [n, f1] at e'; cases e'
    exact keep a o n (nRs a (.inl ⟨o, e⟩)) (r.fx a o e)
  · have n : a ≠ x := fun n => f3 (n ▸ q)
    refine x'.dm a ?_
    rw [l.dm]
    exact ⟨⟨r.dh a q, r.dm a q, nRs a (.inr q)⟩, n⟩
  · have n : a ≠ x := fun n => f3 (n ▸ q)
    cases e : H a with
    | none => exact absurd e (r.dh a q)
    | some o => rw [keep a o n (nRs a (.inr q)) e]; exact fun z => nomatch z
  · intro nt
    have e1 := x'.lo a ob u e nt
    rw [l.fx] at e1
    have e2 : (if a = x then none else (if isRs G.Hs rs a then none else H a)) = some (.frz ob u) := e1
    by_cases n : a = x
    · rw [if_pos n] at e2; cases e2
    · rw [if_neg n] at e2
      by_cases z : isRs G.Hs rs a
      · rw [if_pos z] at e2; cases e2
      · rw [if_neg z] at e2; exact r.lo a ob u e2 nt
  · cases rs' with
    | none => trivial
    | some q =>
      have z : RsAt K Gc H' q := x'.rs
      have fx : ∀ a, Gc.Fx a = none → G.Fx a = none := fun a y => by
        cases e : G.Fx a with
        | none => rfl
        | some o =>
          exfalso
          have n : a ≠ x := fun n => by rw [n, f1] at e; cases e
          rw [l.fx] at y
          have y' : (if a = x then none else (if isRs G.Hs rs a then none else H a)) = none := y
          rw [if_neg n, if_neg (nRs a (.inl ⟨o, e⟩)), r.fx a o e] at y'; cases y'
      have dm : ∀ a, Gc.Fx a = none → ¬ G.Dm a := fun a y w => by
        have n : a ≠ x := fun n => f3 (n ▸ w)
        rw [l.fx] at y
        have y' : (if a = x then none else (if isRs G.Hs rs a then none else H a)) = none := y
        rw [if_neg n, if_neg (nRs a (.inr w))] at y'
        exact r.dh a w y'
      exact z.re (fun _ _ => rfl) (Le.refl _) (fun a h => ⟨(z.no a h).1, fx _ (z.no a h).2.1, dm _ (z.no a h).2.1⟩) ⟨fun _ _ => rfl, fun a _ f => fx a f, fun _ t => t⟩
end
abbrev MirI := Addr → Addr → Mir
def PostN (K : PySem.W.Frag) (E : XK) (G : Gh) (c : Str) (x dx : Addr) (Q : VK) : Rf → Prop
  | .ok d rs => ∃ fs, d = .ins c fs ∧ ∀ H' G' gs, G.le G' → RelX K G' H' rs → H' x = some (.ins (He.ga K c) dx gs) → DenF K G'.Hs fs gs → G'.Hs x = none → RsNe rs x → Q .non H'
  | .exc c fs rs => PostX K E G c fs rs
  | .bad => False
def spI (K : PySem.W.Frag) (c : Str) (n : Nat) (m : MirI) : Sp := fun vs H Q E => vs.length = n ∧ ∃ x dx us G ds rs, vs = .ref x :: us ∧ H x = some (.ins (He.ga K c) dx []) ∧ RelX K G H rs ∧ DenL K G.Hs ds us ∧ G.Hs x = none ∧ G.Fx x = none ∧ ¬ G.Dm x ∧ RsNe rs x ∧ PostN K E G c x dx Q (m x dx ds rs)
def mkI (c : Str) (n : Nat) (b : M Fl) : MirI := fun x dx ds rs => match b ⟨(.adr x :: ds).map .fr ++ List.replicate (n - (ds.length + 1)) .no, rs, some ⟨x, dx, c, []⟩⟩ with
  | .ok .nx s => match s.me with
    | some q => if q.x = x ∧ q.c = c ∧ q.dx = dx then .ok (.ins c q.fs) s.rs else .bad
    | none => .bad
  | .ok _ _ => .bad
  | .exc c fs s => .exc c fs s.rs
  | .bad => .bad
def Still (m : MirI) (ds : List D) (rs : Option Rs) : Prop := ∀ x dx, m x dx ds rs = m 0 0 ds rs
open Classical in
noncomputable def doMake (c : Str) (m : MirI) (ds : List D) : M A := fun s => if Still m ds s.rs then (match m 0 0 ds s.rs with
  | .ok d rs => (match d with
    | .ins c' fs => if c' = c then .ok (.d (.ins c fs)) { s with rs := rs } else .bad
    | _ => .bad)
  | .exc c fs rs => .exc c fs { s with rs := rs }
  | .bad => .bad) else .bad
section
variable {K : PySem.W.Frag} {E : XK} {G G' Gc : Gh} {σ : St} {H H' : Hp} {s : S} {rs rs' : Option Rs} {Q : VK}
theorem Rel.make (r : Rel K G σ H s) {m : MirI} {ds : List D} {us : List V} {n : Nat} {c : Str} {x dx : Addr} (dl : DenL K G.Hs ds us) (hn : us.length + 1 = n) (hx : H x = none) (hdx : H dx = none) (ne : dx ≠ x) (h : PostE K E G σ Q (doMake c m ds s)) :
    spI K c n m (.ref x :: us) (upd (upd H dx (.own x)) x (.ins (He.ga K c) dx [])) (fun v H2 => v = .non ∧ Q (.ref x) H2) E := by
  have r1 : Rel K G σ (upd H dx (.own x)) s := r.newO hdx
  have hx1 : upd H dx (.own x) x = none := by rw [upd_ne (Ne.symm ne)]; exact hx
  have r2 : Rel K G σ (upd (upd H dx (.own x)) x (.ins (He.ga K c) dx [])) s := r1.newH hx1 trivial
  obtain ⟨f1, f2, f3, f4⟩ := r1.x.fresh hx1
  have hxx : upd (upd H dx (.own x)) x (.ins (He.ga K c) dx []) x = some (.ins (He.ga K c) dx []) := upd_same
  unfold doMake at h
  by_cases st : Still m ds s.rs
  · rw [if_pos st] at h
    refine ⟨by rw [List.length_cons, hn], x, dx, us, mkGh G _ s.rs x, ds, s.rs, rfl, hxx, r2.x.toMk hxx, dl, f2, by show (if x = x then none else _) = none; rw [if_pos rfl], fun y => y.2 rfl, f4, ?_⟩
    rw [st x dx]
    cases q : m 0 0 ds s.rs with
    | bad => rw [q] at h; exact h.elim
    | exc c' fs rs' =>
      rw [q] at h
      intro H' Gc od l x' xd
      obtain ⟨r3, l3⟩ := r2.x.backMk f1 f3 hxx l x'
      exact h H' _ od l3 r3 (xd.backMk r2.x f3 l)
    | ok d rs' =>
      rw [q] at h
      dsimp only at h
      cases d with
      | ins c' fs =>
        dsimp only at h
        by_cases ec : c' = c
        · subst ec
          rw [if_pos rfl] at h
          refine ⟨fs, rfl, fun H' Gc gs l x' hg dg ns nr => ⟨rfl, ?_⟩⟩
          obtain ⟨Gd, eh, l2, x2⟩ := RelX.fromMk hxx f4 f2 l x' hg ns nr
          have e : upd (upd (upd H dx (.own x)) x (.ins (He.ga K c') dx [])) x (.ins (He.ga K c') dx gs) = upd (upd H dx (.own x)) x (.ins (He.ga K c') dx gs) := upd_upd
          rw [e] at l2
          have r3 : Rel K G σ (upd (upd H dx (.own x)) x (.ins (He.ga K c') dx gs)) s := r1.newH hx1 trivial
          obtain ⟨r4, l4⟩ := r3.back0 l2 x2
          have ns' : (G.wh Gd).Hs x = none := by show Gd.Hs x = none; rw [eh]; exact ns
          have r5 := r4.join (p := x) (o := .ins (He.ga K c') dx gs) hg ns' f3 nr trivial (fun i d e1 e2 => by
            obtain ⟨p, u, a1, a2, _⟩ := r1.ow i d e1
            have := (a1.mono l4.hs).fn e2
            subst this
            rw [hx1] at a2; cases a2) (fun q e1 e2 => r1.meNe (show s.me = some q from e1) hx1 e2)
          have le5 := Gh.le_add (G := G.wh Gd) (p := x) (o := .ins (He.ga K c') dx gs) ns'
          refine h (.ref x) H' _ (l4.trans le5) r5 ?_
          exact den_root (o := .ins (He.ga K c') dx gs) (by show upd _ x _ x = _; exact upd_same) ⟨dx, gs, rfl, by
            have : DenF K Gd.Hs fs gs := by rw [eh]; exact dg
            exact this.le le5.hs⟩
        · rw [if_neg ec] at h; exact h.elim
      | _ => exact h.elim
  · rw [if_neg st] at h; exact h.elim
end
abbrev FnI (P : Program) (w : World) (K : PySem.W.Frag) (mg : Str → Option Value) (base : Heap) (k : Nat) (f : Addr) (fd : FuncData) (ps : List Str) (c : Str) (m : MirI) : Prop := FnG P w K mg base (L2.CX P w) k f fd ps (spI K c ps.length m)
theorem fnI_ofC {P : Program} {w : World} {K : PySem.W.Frag} {mg : Str → Option Value} {base : Heap} {x qual c : Str} {st : Stmt} {dvs : List V} {kws : List (Str × V)} {f : Addr} {fd : FuncData} {N ps : List Str} {k : Nat} {b : M Fl}
    (F : FunD K x qual (defArgs st) (defBody st) (defScope st) dvs kws f fd) (S : FnScope N ps (defScope st))
    (hb : ∀ (cdv : Value), fd.code = cdv → ∀ (A : Around) (outer : List Env) (s : Shared) (H : Hp) (E : XK), Room k (A.deeper (envOfC qual (defScope st) s.heap.objs.size f cdv)) → NoG (A.deeper (envOfC qual (defScope st) s.heap.objs.size f cdv)) → DSs (cxOf (L2.CX P w) P w K mg base N qual (defScope st) f cdv A outer s H E) E (defBody st) b) :
    FnI P w K mg base (k + 1) f fd ps c (mkI c N.length b) := by
  refine fnG_ofC F S (fun vs H Q E h => h.1) fun cdv ecd A outer s H vs Q E hr hg h => ⟨_, hb cdv ecd A outer s H E hr hg, ?_⟩
  obtain ⟨_, x, dx, us, G, ds, rs, rfl, hx, rx, dl, n1, n2, n3, n4, h⟩ := h
  have dl0 : DenL K G.Hs (.adr x :: ds) (.ref x :: us) := .cons (by unfold Den; rfl) dl
  have r0 := start_rel (N := N) rx dl0
  have r1 : Rel K G (L2.start N (.ref x :: us)) H ⟨(D.adr x :: ds).map .fr ++ List.replicate (N.length - (ds.length + 1)) .no, rs, some ⟨x, dx, c, []⟩⟩ :=
    ⟨r0.x, r0.fr, r0.ow, r0.ap, r0.ln, ⟨⟨[], hx, by unfold DenF; rfl⟩, n1, n2, n3, n4⟩⟩
  refine ⟨G, _, r1, ?_⟩
  unfold mkI at h
  cases q : b ⟨(D.adr x :: ds).map .fr ++ List.replicate (N.length - (ds.length + 1)) .no, rs, some ⟨x, dx, c, []⟩⟩ with
  | bad => rw [q] at h; exact h
  | exc c' fs s => rw [q] at h; exact h
  | ok fl s =>
    rw [q] at h
    cases fl with
    | nx =>
      dsimp only at h
      cases e : s.me with
      | none => rw [e] at h; exact h.elim
      | some q' =>
        rw [e] at h
        dsimp only at h
        by_cases z : q'.x = x ∧ q'.c = c ∧ q'.dx = dx
        · rw [if_pos z] at h
          obtain ⟨fs, e2, k2⟩ := h
          cases e2
          intro σ' H' G' l r'
          have m := r'.meAt e
          obtain ⟨gs, g1, g2⟩ := m.o
          obtain ⟨z1, z2, z3⟩ := z
          rw [z1, z2, z3] at g1
          exact k2 H' G' gs l r'.x g1 g2 (by rw [← z1]; exact m.ns) (by rw [← z1]; exact m.nr)
        · rw [if_neg z] at h; exact h.elim
    | bk => exact h.elim
    | ct => exact h.elim
    | rt d => exact h.elim
theorem fnI_of {P : Program} {w : World} {K : PySem.W.Frag} {mg : Str → Option Value} {base : Heap} {x qual c : Str} {st : Stmt} {dvs : List V} {kws : List (Str × V)} {f : Addr} {fd : FuncData} {N ps : List Str} {k : Nat} {b : M Fl}
    (F : FunD K x qual (defArgs st) (defBody st) (defScope st) dvs kws f fd) (S : FnScope N ps (defScope st))
    (hb : ∀ (cdv : Value) (A : Around) (outer : List Env) (s : Shared) (H : Hp) (E : XK), Room k (A.deeper (envOfC qual (defScope st) s.heap.objs.size f cdv)) → NoG (A.deeper (envOfC qual (defScope st) s.heap.objs.size f cdv)) → DSs (cxOf (L2.CX P w) P w K mg base N qual (defScope st) f cdv A outer s H E) E (defBody st) b) :
    FnI P w K mg base (k + 1) f fd ps c (mkI c N.length b) :=
  fnI_ofC F S fun cdv _ => hb cdv
section
variable {X : Cx} {E : XK} {e : Expr} {es : List Expr} {ga : M A} {gs : M (List A)} {x c fl : Str} {p p1 pos pos' : Pos}
theorem ds_self (he : DE X E e ga) (T : Cls X.K (He.ga X.K c)) (nf : NoAttr X.K (He.ga X.K c) fl) (hN : X.N[(0 : Nat)]? = some x := by rfl) (hv : Vis X.env.scope x := by first | exact Or.inl rfl | exact Or.inr (Or.inl rfl) | exact Or.inr (Or.inr rfl)) (hd : (x == ("__debug__" : Str)) = false := by decide) (hcd : (x == ("__classdict__" : Str)) = false := by decide)
    (hs : swapsWith e (some (.Attribute (.Name x p) fl pos')) pos.line X.env = pure false := by rfl) : DS X E (.Assign [.Attribute (.Name x p) fl pos'] e pos) (sSelf c fl ga) :=
  (ps_fld (pe_var hN hv hd hcd) he hs).imp fun Dn σ H ⟨G, s, r, h⟩ => stepE ipS h r fun v H1 G1 a s1 l1 r1 ad h1 => by
    obtain ⟨d, s2, G2, l2, r2, dn, h2⟩ := stepForce ipS h1 r1 ad
    cases q : meC c s2 with
    | none => rw [q] at h2; exact h2.elim
    | some m =>
      rw [q] at h2
      dsimp only at h2
      obtain ⟨a1, gs, b1, b2⟩ := r2.self q
      obtain ⟨_, e2, e3⟩ := meC_some q
      by_cases z : m.fs.length < 1000
      · rw [if_pos z] at h2
        have b1' : H1 m.x = some (.ins (He.ga X.K m.c) m.dx gs) := by rw [e3]; exact b1
        have r3 := r2.writeMe e2 (f := fl) dn b1' b2
        rw [e3] at r3
        exact ⟨.ref m.x, a1, m.x, _, m.dx, gs, rfl, b1, T, nf, by rw [b2.len]; exact z, h2 σ _ G2 (.refl G2) (by have w := r3; simpa only [e3] using w)⟩
      · rw [if_neg z] at h2; exact h2.elim
end
theorem place_vals {sp : List Src} {vs mz zs : List V} {us mv ws : List Value} (h1 : Vals vs us) (h2 : Vals mz mv) (h3 : Vals zs ws) : Vals (place sp vs mz zs) (place sp us mv ws) := by
  have one : ∀ {xs : List V} {ys : List Value}, Vals xs ys → ∀ (i : Nat), (xs[i]? = none ∧ ys[i]? = none) ∨ ∃ x y, xs[i]? = some x ∧ ys[i]? = some y ∧ RelV x y := fun {xs ys} h i => by
    cases e : xs[i]? with
    | none => exact .inl ⟨rfl, List.getElem?_eq_none (by rw [← h.length]; exact List.getElem?_eq_none_iff.mp e)⟩
    | some x => obtain ⟨y, e1, r⟩ := h.get e; exact .inr ⟨x, y, rfl, e1, r⟩
  induction sp with
  | nil => exact .nil
  | cons a r ih =>
    have z : (srcOf vs mz zs a = none ∧ srcOf us mv ws a = none) ∨ ∃ x y, srcOf vs mz zs a = some x ∧ srcOf us mv ws a = some y ∧ RelV x y := by
      cases a with
      | u i => exact one h1 i
      | m i => exact one h2 i
      | w i => exact one h3 i
    unfold place at ih ⊢
    rw [List.filterMap_cons, List.filterMap_cons]
    rcases z with ⟨e1, e2⟩ | ⟨x, y, e1, e2, rr⟩
    · rw [e1, e2]; exact ih
    · rw [e1, e2]; exact .cons rr ih
theorem place_den {K : PySem.W.Frag} {Hs : Hp} {sp : List Src} {ds ms es : List D} {vs mz zs : List V} (h1 : DenL K Hs ds vs) (h2 : DenL K Hs ms mz) (h3 : DenL K Hs es zs) : DenL K Hs (place sp ds ms es) (place sp vs mz zs) := by
  have one : ∀ {xs : List D} {ys : List V}, DenL K Hs xs ys → ∀ (i : Nat), (xs[i]? = none ∧ ys[i]? = none) ∨ ∃ x y, xs[i]? = some x ∧ ys[i]? = some y ∧ Den K Hs x y := fun {xs ys} h i => by
    cases e : xs[i]? with
    | none => exact .inl ⟨rfl, List.getElem?_eq_none (by rw [h.len]; exact List.getElem?_eq_none_iff.mp e)⟩
    | some x => obtain ⟨y, e1, r⟩ := h.get e; exact .inr ⟨x, y, rfl, e1, r⟩
  induction sp with
  | nil => exact .nil
  | cons a r ih =>
    have z : (srcOf ds ms es a = none ∧ srcOf vs mz zs a = none) ∨ ∃ x y, srcOf ds ms es a = some x ∧ srcOf vs mz zs a = some y ∧ Den K Hs x y := by
      cases a with
      | u i => exact one h1 i
      | m i => exact one h2 i
      | w i => exact one h3 i
    unfold place at ih ⊢
    rw [List.filterMap_cons, List.filterMap_cons]
    rcases z with ⟨e1, e2⟩ | ⟨x, y, e1, e2, rr⟩
    · rw [e1, e2]; exact ih
    · rw [e1, e2]; exact .cons rr ih
theorem kbN {K : PySem.W.Frag} {x qual : Str} {params : Arguments} {body : List Stmt} {scope : Scope} {kws : List (Str × V)} {f : Addr} {fd : FuncData} {ps : List Str} (F : FunD K x qual params body scope [] kws f fd) (n : Nat) (ks : List Str) (sp : List Src)
    (h : ∀ (kV doc pm : Value) (an : Option Addr) (cdv ct : Value) (us ws : List Value), us.length = n → ws.length = ks.length → bindArgs (PySem.W.fnOf x qual params body scope .none kV doc pm an cdv ct) ⟨us, ks.zip ws⟩ = pure (ps.zip (place sp us [] ws))) :
    KBn K fd ps n ks (fun us ws => place sp us [] ws) (fun vs zs => place sp vs [] zs) := by
  obtain ⟨oc, od, dV, kV, doc, pm, an, cdv, ct, osl, rfl, lk, hcd, hD, hK⟩ := F.ex
  rcases hD with ⟨_, rfl⟩ | ⟨e, _⟩
  · exact ⟨fun s us ws X l1 l2 => .of_eq (h kV doc pm an cdv ct us ws l1 l2), fun r1 r2 => place_vals r1 .nil r2⟩
  · exact absurd rfl e
section
variable {X : Cx} {E : XK} {e : Expr} {es : List Expr} {kws : List Keyword} {ga : M A} {gs gk : M (List A)} {nm : Option Str} {kpos p pos : Pos} {k n n1 n2 : Nat} {f C : Addr} {fd : FuncData} {ps ks : List Str} {m : Mir} {x : Str} {sp : List Src} {mz : List V} {md : List D}
abbrev DK (X : Cx) (E : XK) (kws : List Keyword) (g : M (List A)) : Prop := PK X kws (tA X.K E g)
theorem _root_.L2.PK.imp {kws : List Keyword} {t t' : TA} (h : PK X kws t) (i : ∀ σ H Q, t' σ H Q → t σ H Q) : PK X kws t' := ⟨fun pos pins s σ H Q I q => h.run pos pins s σ H Q I (i σ H Q q)⟩
theorem dk_nil : DK X E [] (pur []) := pk_nil.imp fun σ H Q ⟨G, s, r, h⟩ => h [] H G (.refl G) r rfl
theorem dk_cons (ha : DE X E e ga) (hr : DK X E kws gs) : DK X E (⟨nm, e, kpos⟩ :: kws) (gCons ga gs) := (pk_cons ha hr).imp fun σ H Q ⟨G, s, r, h⟩ =>
  stepE ipA h r fun x H1 G1 av s1 l1 r1 ad1 h1 => stepA ipA h1 r1 fun xs H2 G2 as s2 l2 r2 ad2 h2 => h2 (x :: xs) H2 G2 (.refl G2) r2 ⟨x, xs, rfl, ad1.le l2, ad2⟩
def gCallK (m : Mir) (sp : List Src) (md : List D) (gs gk : M (List A)) : M A := bnd gs fun as => bnd gk fun bs => bnd (forceL as) fun ds => bnd (forceL bs) fun es => doCall m (place sp ds md es)
theorem d_args {K : PySem.W.Frag} {σ : St} {H : Hp} {Q : VK} {f : List D → List D → M A} (l1 : LenA n1 gs) (l2 : LenA n2 gk) (h : tD K E (bnd gs fun as => bnd gk fun bs => bnd (forceL as) fun ds => bnd (forceL bs) fun es => f ds es) σ H Q) {T : List V → List V → Hp → Prop}
    (k : ∀ vs zs H1 G1 s1 ds es, vs.length = n1 → zs.length = n2 → Rel K G1 σ H1 s1 → DenL K G1.Hs ds vs → DenL K G1.Hs es zs → PostE K E G1 σ Q (f ds es s1) → T vs zs H1) : (tA K E gs) σ H fun vs H1 => (tA K E gk) σ H1 fun zs H2 => T vs zs H2 := by
  obtain ⟨G, s, r, h⟩ := h
  refine ⟨G, s, r, ?_⟩
  unfold bnd at h
  cases q : gs s with
  | exc c fs s1 => rw [q] at h; exact h
  | bad => rw [q] at h; exact h.elim
  | ok as s1 =>
    rw [q] at h
    dsimp only at h
    intro vs H1 G1 ll1 r1 ad1
    refine ⟨G1, s1, r1, ?_⟩
    have h := ipE.mono h ll1
    cases q2 : gk s1 with
    | exc c fs s1 => rw [q2] at h; exact h
    | bad => rw [q2] at h; exact h.elim
    | ok bs s2 =>
      rw [q2] at h
      intro zs H2 G2 ll2 r2 ad2
      obtain ⟨ds, s3, G3, ll3, r3, d3, h3⟩ := stepForceL (P := fun G => PostE K E G σ Q) ipE (f := fun ds => bnd (forceL bs) fun es => f ds es) (ipE.mono h ll2) r2 (ad1.le ll2)
      obtain ⟨es, s4, G4, ll4, r4, d4, h4⟩ := stepForceL (P := fun G => PostE K E G σ Q) ipE h3 r3 (ad2.le ll3)
      exact k vs zs H2 G4 s4 ds es (by rw [ad1.len, l1 _ _ _ q]) (by rw [ad2.len, l2 _ _ _ q2]) r4 (d3.le ll4.hs) d4 h4
variable {c : Str} {mi : MirI}
noncomputable def gMake (c : Str) (m : MirI) (dds : List D) (gs : M (List A)) : M A := bnd gs fun as => bnd (forceL as) fun ds => doMake c m (ds ++ dds)
noncomputable def gMakeK (c : Str) (m : MirI) (sp : List Src) (md : List D) (gs gk : M (List A)) : M A := bnd gs fun as => bnd gk fun bs => bnd (forceL as) fun ds => bnd (forceL bs) fun es => doMake c m (place sp ds md es)
theorem de_make {dvs : List V} {dds : List D} {dus : List Value} (M0 : Mk X.K (He.ga X.K c) f) (F : FnG X.prog X.w X.K X.mg X.base (L2.CX X.prog X.w) k f fd ps (spI X.K c n mi)) (hr : Room (k + 1) X.A) (ng : NoG X.A) (hg : Gl X x) (hm : X.mg x = some (.ref (He.ga X.K c))) (hb : Binds X.K fd ps dus) (hd : Vals dvs dus) (hdd : ∀ Hs, DenL X.K Hs dds dvs)
    (hx : TakesE X E) (ha : DA X E (e :: es) gs) (hl : LenA n1 gs) (hn : n1 + dvs.length + 1 = n := by rfl) (hdb : (x == ("__debug__" : Str)) = false := by decide) (he : starEach (e :: es) X.env = (false, eval e X.env) :: starEach es X.env := by rfl) (hpl : (backTo pos (starEach es X.env)).any (·.1) = false := by rfl) :
    DE X E (.Call (.Name x p) (e :: es) [] pos) (gMake c mi dds gs) := (peg_make M0 F hr ng hg hm hb hd (passes_call hx fun _ _ _ _ h => h) ha hdb he hpl).imp fun σ H Q ⟨G, s, r, h⟩ => by
  have h0 : PostE X.K E G σ Q (bnd gs (fun as => bnd (forceL as) fun ds => doMake c mi (ds ++ dds)) s) := h
  refine ⟨G, s, r, ?_⟩
  unfold bnd at h0
  cases q : gs s with
  | exc c fs s1 => rw [q] at h0; exact h0
  | bad => rw [q] at h0; exact h0
  | ok as s1 =>
    rw [q] at h0
    intro vs H1 G1 l r1 ad y dy hy hdy ne
    obtain ⟨ds, s2, G2, l2, r2, d2, h2⟩ := stepForceL (P := fun G => PostE X.K E G σ Q) ipE (ipE.mono h0 l) r1 ad
    exact r2.make (d2.append (hdd _)) (by rw [List.length_append, ad.len, hl _ _ _ q, hn]) hy hdy ne h2
theorem de_makeK {g : List Value → List Value → List Value} {spc : List Src} (M0 : Mk X.K (He.ga X.K c) f) (F : FnG X.prog X.w X.K X.mg X.base (L2.CX X.prog X.w) k f fd ps (spI X.K c n mi)) (hr : Room (k + 1) X.A) (ng : NoG X.A) (hg : Gl X x) (hm : X.mg x = some (.ref (He.ga X.K c))) (hb : KBn X.K fd ps (n1 + 1) ks g (fun vs zs => place spc vs mz zs)) (hmd : ∀ Hs, DenL X.K Hs md mz)
    (hsp : ∀ (y : V) (vs zs : List V), vs.length = n1 → zs.length = ks.length → place spc (y :: vs) mz zs = y :: place sp vs mz zs) (hn : ∀ vs zs : List V, vs.length = n1 → zs.length = ks.length → (place sp vs mz zs).length + 1 = n)
    (hx : TakesE X E) (ha : DA X E (e :: es) gs) (hkw : DK X E kws gk) (l1 : LenA n1 gs) (l2 : LenA ks.length gk)
    (hall : (backToKw pos (keywordEach kws X.env)).all (·.1.isSome) = true := by rfl) (hks : (backToKw pos (keywordEach kws X.env)).filterMap (·.1) = ks := by rfl) (hdb : (x == ("__debug__" : Str)) = false := by decide)
    (he : starEach (e :: es) X.env = (false, eval e X.env) :: starEach es X.env := by rfl) (hpl : ((backTo pos (starEach (e :: es) X.env)).any (·.1) || (backToKw pos (keywordEach kws X.env)).any (·.1.isNone)) = false := by rfl) :
    DE X E (.Call (.Name x p) (e :: es) kws pos) (gMakeK c mi sp md gs gk) := (peg_makeK M0 F hr ng hg hm hb (passes_call hx fun _ _ _ _ h => h) ha hkw hall hks hdb he hpl).imp fun σ H Q h => d_args l1 l2 h fun vs zs H1 G1 s1 ds es e1 e2 r d1 d2 h =>
  ⟨e1, e2, fun y dy hy hdy ne => by
    dsimp only
    rw [hsp (.ref y) vs zs e1 e2]
    exact r.make (place_den d1 (hmd _) d2) (hn vs zs e1 e2) hy hdy ne h⟩
theorem de_makeK0 {g : List Value → List Value → List Value} {spc : List Src} (M0 : Mk X.K (He.ga X.K c) f) (F : FnG X.prog X.w X.K X.mg X.base (L2.CX X.prog X.w) k f fd ps (spI X.K c n mi)) (hr : Room (k + 1) X.A) (ng : NoG X.A) (hg : Gl X x) (hm : X.mg x = some (.ref (He.ga X.K c))) (hb : KBn X.K fd ps 1 ks g (fun vs zs => place spc vs mz zs)) (hmd : ∀ Hs, DenL X.K Hs md mz)
    (hsp : ∀ (y : V) (zs : List V), zs.length = ks.length → place spc [y] mz zs = y :: place sp [] mz zs) (hn : ∀ zs : List V, zs.length = ks.length → (place sp [] mz zs).length + 1 = n)
    (hx : TakesE X E) (hkw : DK X E kws gk) (l2 : LenA ks.length gk)
    (hall : (backToKw pos (keywordEach kws X.env)).all (·.1.isSome) = true := by rfl) (hks : (backToKw pos (keywordEach kws X.env)).filterMap (·.1) = ks := by rfl) (hdb : (x == ("__debug__" : Str)) = false := by decide)
    (hpl : ((backTo pos (starEach [] X.env)).any (·.1) || (backToKw pos (keywordEach kws X.env)).any (·.1.isNone)) = false := by rfl) :
    DE X E (.Call (.Name x p) [] kws pos) (gMakeK c mi sp md (pur []) gk) := (peg_makeK0 M0 F hr ng hg hm hb (passes_call hx fun _ _ _ _ h => h) hkw hall hks hdb hpl).imp fun σ H Q h => by
    have z := d_args (T := fun vs zs H1 => vs = [] → zs.length = ks.length ∧ ∀ y dy, H1 y = none → H1 dy = none → dy ≠ y → spI X.K c n mi (y |> fun y => V.ref y :: place sp vs mz zs) (upd (upd H1 dy (.own y)) y (.ins (He.ga X.K c) dy [])) (fun v H3 => v = .non ∧ Q (.ref y) H3) E) lenA_nil l2 h fun vs zs H1 G1 s1 ds es e1 e2 r d1 d2 h ev => by
      subst ev
      exact ⟨e2, fun y dy hy hdy ne => r.make (place_den d1 (hmd _) d2) (hn zs e2) hy hdy ne h⟩
    obtain ⟨G, s, r, z⟩ := z
    obtain ⟨G1, s1, r1, z1⟩ := z [] H G (.refl G) r rfl
    refine ⟨G1, s1, r1, ?_⟩
    cases q : gk s1 with
    | exc c fs s2 => rw [q] at z1; exact z1
    | bad => rw [q] at z1; exact z1
    | ok bs s2 =>
      rw [q] at z1
      exact fun zs H2 G2 ll r2 ad => by
        obtain ⟨e1, e2⟩ := z1 zs H2 G2 ll r2 ad rfl
        refine ⟨rfl, e1, fun y dy hy hdy ne => ?_⟩
        dsimp only
        rw [hsp (.ref y) zs e1]
        exact e2 y dy hy hdy ne
end
def dcLoop (vs : List Nat) (t : Tg) (c : M Bool) (ek ev : M A) : List D → List (Key × D) → M (List (Key × D))
  | [], acc => pur acc
  | d :: r, acc => fun s => match t d (wipeS vs s) with
    | none => .bad
    | some s1 => bnd c (fun b => if b = true then bnd ek (fun a => bnd (pk a) fun z => bnd ev fun a2 => bnd (force a2) fun x => match dK z with
      | some k => dcLoop vs t c ek ev r (putD acc k x)
      | none => bad) else dcLoop vs t c ek ev r acc) s1
def gDc (it : M (List D)) (vs : List Nat) (t : Tg) (c : M Bool) (ek ev : M A) : M D := bnd it fun ds => fun s => if ds.length ≤ 100000 then match dcLoop vs t c ek ev ds [] s with
  | .ok acc s' => .ok (.dic acc) (backS s vs s')
  | _ => .bad else .bad
theorem putD_len (ks : List (Key × D)) (k : Key) (d : D) : (putD ks k d).length ≤ ks.length + 1 := by
  unfold putD
  split
  · rw [List.length_map]; omega
  · rw [List.length_append]; simp
section
variable {js vs : List Nat} {g : M (List D)} {t : Tg} {c : M Bool} {ek ev : M A}
theorem d_dcloop {K : PySem.W.Frag} {G : Gh} {σ : St} {H1 : Hp} {s : S} {J : It} {ds : List D} {acc : List (Key × D)} {sE : S} {Pq : Addr → Hp → Prop} (hj : ∀ j ∈ js, j ∈ vs) (hn : ds.length ≤ 100000) (r : Rel K G σ H1 s) (ok : ItOk K G J ds)
    (h : dcLoop vs t c ek ev ds [] s = .ok acc sE) {p : Addr} (hp : H1 p = none)
    (q : ∀ H2 G2 o, G.le G2 → Rel K G2 (wipe σ vs) H2 (wipeS vs sE) → H2 p = none → DenO K G2.Hs (.dic acc) o → Pq p (upd H2 p o)) :
    ∃ W : Nat → Nat → Hp → Prop, (∃ m, W 0 m (upd H1 p (.dK []))) ∧ ∀ i m H, W i m H →
      (J.stop i H ∧ Pq p H) ∨ (J.go i H ∧ ∃ Nx : Hp → Prop, (∀ H', Nx H' → ∃ m', m' < m ∧ W (i + 1) m' H') ∧ ∀ x H', J.yld i H x H' → gD K js t x (wipe σ vs) H' fun σ2 H2 => wipe σ2 vs = wipe σ vs ∧ tT K E00 c σ2 H2 fun b H3 =>
        if b = true then tD K E00 ek σ2 H3 fun y H4 => tD K E00 ev σ2 H4 fun z H5 => ∃ kvs k, y = kV k ∧ H5 p = some (.dK kvs) ∧ kvs.length < sizeLine ∧ Nx (upd H5 p (.dK (putK kvs k z))) else Nx H3) := by
  obtain ⟨f1, f2, f3, f4⟩ := r.x.fresh hp
  refine ⟨fun i m H => m = ds.length - i ∧ i ≤ ds.length ∧ ∃ G1 s1 ac vs', G.le G1 ∧ Rel K (G1.hide p (.dK vs')) (wipe σ vs) H (wipeS vs s1) ∧ DenK K G1.Hs ac vs' ∧ ac.length ≤ i ∧ dcLoop vs t c ek ev (ds.drop i) ac s1 = .ok acc sE, ⟨_, rfl, Nat.zero_le _, G, s, [], [], .refl G, (r.wipe vs).hide hp trivial, .nil, Nat.le_refl _, h⟩, ?_⟩
  rintro i m H ⟨rfl, hi, G1, s1, ac, vs', l1, r1, da, hac, h1⟩
  have f1' : G1.Fx p = none := by rw [l1.fx]; exact f1
  have f3' : ¬ G1.Dm p := by rw [l1.dm]; exact f3
  have sb : ∀ {G2 : Gh} {o : HO}, G.le G2 → G.sb (G2.hide p o) := fun {G2 o} l => ⟨fun a u e => by
    have z : a ≠ p := ne_of_none e f1
    show upd G2.Fx p o a = some u
    rw [upd_ne z, l.fx]; exact e, l.hs⟩
  by_cases lt : i < ds.length
  · refine .inr ⟨ok.go lt (sb l1) r1, fun H' => ∃ G1 s1 ac vs', G.le G1 ∧ Rel K (G1.hide p (.dK vs')) (wipe σ vs) H' (wipeS vs s1) ∧ DenK K G1.Hs ac vs' ∧ ac.length ≤ i + 1 ∧ dcLoop vs t c ek ev (ds.drop (i + 1)) ac s1 = .ok acc sE,
      fun H' z => ⟨_, by omega, rfl, lt, z⟩, fun x H' y => ?_⟩
    obtain ⟨d, G2, e0, l2, r2, dn⟩ := ok.yld (sb l1) r1 lt y
    have ed : ds.drop i = d :: ds.drop (i + 1) := by
      rw [List.drop_eq_getElem_cons lt]
      rw [List.getElem?_eq_getElem lt] at e0
      rw [Option.some.inj e0]
    rw [ed] at h1
    have h2 : (match t d (wipeS vs s1) with
      | none => .bad
      | some s1 => bnd c (fun b => if b = true then bnd ek (fun a => bnd (pk a) fun z => bnd ev fun a2 => bnd (force a2) fun x => match dK z with
        | some k => dcLoop vs t c ek ev (ds.drop (i + 1)) (putD ac k x)
        | none => bad) else dcLoop vs t c ek ev (ds.drop (i + 1)) ac) s1) = R.ok acc sE := h1
    cases q1 : t d (wipeS vs s1) with
    | none => rw [q1] at h2; cases h2
    | some s2 =>
      rw [q1] at h2
      dsimp only at h2
      refine ⟨G2, wipeS vs s1, d, s2, r2, dn, q1, fun σ2 r3 b2 => ?_⟩
      have ew : wipe σ2 vs = wipe σ vs := by rw [But.wipe b2 hj, wipe_wipe]
      refine ⟨ew, G2, s2, r3, ?_⟩
      unfold bnd at h2
      cases q2 : c s2 with
      | exc c' fs s3 => rw [q2] at h2; cases h2
      | bad => rw [q2] at h2; cases h2
      | ok b s3 =>
        rw [q2] at h2
        dsimp only at h2
        intro H3 G3 l3 r4
        have eh2 : (G1.hide p (.dK vs')).le G3 := l2.trans l3
        cases b with
        | false =>
          rw [if_neg (by decide)] at h2 ⊢
          have e3 := Gh.le_hide eh2
          have lw := Gh.le_whh eh2
          rw [e3] at r4
          have r5 := Rel.wipe r4 vs
          rw [ew] at r5
          exact ⟨G1.wh G3, s3, ac, vs', l1.trans lw, r5, da.le lw.hs, Nat.le_succ_of_le hac, h2⟩
        | true =>
          rw [if_pos rfl] at h2 ⊢
          refine ⟨G3, s3, r4, ?_⟩
          cases q3 : ek s3 with
          | exc c' fs s4 => rw [q3] at h2; cases h2
          | bad => rw [q3] at h2; cases h2
          | ok a s4 =>
            rw [q3] at h2
            dsimp only at h2
            intro v H4 G4 l4 r5 ad
            cases q4 : pk a s4 with
            | exc c' fs s5 => exact (pk_exc q4).elim
            | bad => rw [q4] at h2; cases h2
            | ok zd s5 =>
              obtain ⟨pe, rfl⟩ := pk_ok q4
              rw [q4] at h2
              dsimp only at h2
              have dz := r5.peek ad pe
              refine ⟨G4, s5, r5, ?_⟩
              cases q5 : ev s5 with
              | exc c' fs s6 => rw [q5] at h2; cases h2
              | bad => rw [q5] at h2; cases h2
              | ok a2 s6 =>
                rw [q5] at h2
                dsimp only at h2
                intro w H5 G5 l5 r6 ad2
                cases q6 : force a2 s6 with
                | exc c' fs s7 => exact (force_exc q6).elim
                | bad => rw [q6] at h2; cases h2
                | ok x7 s7 =>
                  rw [q6] at h2
                  dsimp only at h2
                  obtain ⟨G7, l7, r7, dn7⟩ := r6.force ad2 q6
                  cases q8 : dK zd with
                  | none => rw [q8] at h2; cases h2
                  | some k =>
                    rw [q8] at h2
                    dsimp only at h2
                    have ey : v = kV k := by
                      cases zd with
                      | int i => cases q8; exact denH_int dz
                      | str i => cases q8; exact denH_str dz
                      | _ => cases q8
                    have eh5 : (G1.hide p (.dK vs')).le G7 := ((eh2.trans l4).trans l5).trans l7
                    have e5 := Gh.le_hide eh5
                    have lw := Gh.le_whh eh5
                    rw [e5] at r7
                    have hlen : vs'.length = ac.length := da.len
                    refine ⟨vs', k, ey, r7.x.fx p _ (show upd (G1.wh G7).Fx p (.dK vs') p = _ from upd_same), Nat.lt_of_lt_of_le (by omega : vs'.length < 100001) (by rw [sizeLine_eq]; decide), ?_⟩
                    have f1w : (G1.wh G7).Fx p = none := f1'
                    obtain ⟨H0, hp0, eH, r8⟩ := r7.unhide f1w f3' trivial
                    have r9 : Rel K ((G1.wh G7).hide p (.dK (putK vs' k w))) σ2 (upd H0 p (.dK (putK vs' k w))) s7 := r8.hide hp0 trivial
                    have r10 := Rel.wipe r9 vs
                    rw [ew] at r10
                    refine ⟨G1.wh G7, s7, putD ac k x7, putK vs' k w, l1.trans lw, ?_, (da.le lw.hs).put dn7, by have := putD_len ac k x7; omega, h2⟩
                    rw [eH, upd_upd]
                    exact r10
  · have e0 : i = ds.length := by omega
    refine .inl ⟨ok.stop (by omega) (sb l1) r1, ?_⟩
    rw [List.drop_eq_nil_of_le (by omega)] at h1
    have h2 : R.ok ac s1 = R.ok acc sE := h1
    cases h2
    obtain ⟨H0, hp0, rfl, r0⟩ := r1.unhide f1' f3' trivial
    exact q H0 G1 (.dK vs') l1 r0 hp0 ⟨_, rfl, da⟩
end
section
variable {X : Cx} {E : XK} {kx vx tg iter : Expr} {ifs : List Expr} {scope : Scope} {own : List (Str × Nat)} {pos : Pos} {js : List Nat} {g : M (List D)} {t : Tg} {c : M Bool} {ek ev : M A}
theorem d_dcJ {vs : List Nat} (hj : ∀ j ∈ js, j ∈ vs) {σ : St} {H : Hp} {Q : VK} (h : tF X.K E (gDc g vs t c ek ev) σ H Q) : tDc (iJ X E g) (gD X.K js t) (tT X.K E00 c) (tD X.K E00 ek) (tD X.K E00 ev) vs σ H Q := by
  obtain ⟨G, s, r, h⟩ := h
  refine ⟨G, s, r, ?_⟩
  unfold gDc bnd at h
  cases q : g s with
  | exc c fs s1 => rw [q] at h; exact h
  | bad => rw [q] at h; exact h
  | ok ds s1 =>
    rw [q] at h
    dsimp only at h
    by_cases hn : ds.length ≤ 100000
    · rw [if_pos hn] at h
      cases q2 : dcLoop vs t c ek ev ds [] s1 with
      | exc c fs s2 => rw [q2] at h; exact h.elim
      | bad => rw [q2] at h; exact h.elim
      | ok acc sE =>
        rw [q2] at h
        intro J H' G' l r' ok p hp
        refine d_dcloop (Pq := fun p H => Q (.ref p) H) hj hn r' ok q2 hp fun H2 G2 o l2 r2 hp2 ho => ?_
        have r3 := Rel.back (s0 := s1) (fun v d hv => by
          obtain ⟨w, e1, dn⟩ := r'.fr v d hv
          exact ⟨w, e1, dn.le l2.hs⟩) vs r2
        have e3 : backS s1 vs (wipeS vs sE) = backS s1 vs sE := back_wipe s1 vs sE
        rw [e3] at r3
        exact h p o H2 G2 (l.trans l2) r3 hp2 ho (by obtain ⟨vs', rfl, _⟩ := ho; trivial)
    · rw [if_neg hn] at h; exact h.elim
theorem df_dcJ (hc : X.calm = true) (hN : X.N.Nodup) (hi : DJ X E tg iter g) (ok : BlkOk X.N X.env.scope scope own)
    (hg : ∀ (s : Shared) (H : Hp) (C : Addr) (cl : List (Str × Addr)) (fp : List Addr), DG (X.blk s H scope (compEnvC scope cl C X.env) fp) tg js t) (ht : ∀ (s : Shared) (H : Hp) (C : Addr) (cl : List (Str × Addr)) (fp : List Addr), DtS (X.blk s H scope (compEnvC scope cl C X.env) fp) ifs c)
    (hk : ∀ (s : Shared) (H : Hp) (C : Addr) (cl : List (Str × Addr)) (fp : List Addr), DE (X.blk s H scope (compEnvC scope cl C X.env) fp) E00 kx ek) (he : ∀ (s : Shared) (H : Hp) (C : Addr) (cl : List (Str × Addr)) (fp : List Addr), DE (X.blk s H scope (compEnvC scope cl C X.env) fp) E00 vx ev)
    (hj : ∀ j ∈ js, j ∈ own.map (·.2) := by decide) (hs : ∀ x, foldedSetIterable iter X.env x = pure x := by intro _; rfl) :
    DF X E (.DictComp kx vx [⟨tg, iter, ifs, 0⟩] scope pos) (gDc g (own.map (·.2)) t c ek ev) := (pe_dc hc hN hi ok hg ht hk he hs).imp fun σ H Q h => d_dcJ hj h
end
end DL
end
section
namespace DL
open PySem PySem.Spec PyProof.Rows L2 PySem.Froz
section
variable {P : Program} {w : World} {A : Around} {E : Value → Shared → Prop} {s : Shared} {a : Addr} {L : List (Addr × List Str)} {es : Array (Int × Value)} {t : SetTable}
theorem TpS.size (R : TpS P w L es t) : es.size = L.length := by
  rw [← Array.length_toList, R.rows, List.length_map]
end
end DL
end
section
namespace DL
open PySem PySem.Spec PyProof.Rows L2 PySem.Froz PpSet
structure SetFam where
  β : Type
  O : Addr → β → HO
  κ : Type
  b0 : β
  acc : Hp → β → V → κ → Prop
  nxt : β → V → κ → β → Prop
abbrev emptySet (w : World) : Obj := { cls := .type "set", dict := none, data := .set #[] 0 (.fresh 0 0 (!w.params.followText "set-order")) }
structure AddR (F : SetFam) (X : Cx) : Prop where
  add : ∀ {pins : List (Addr × Obj)} {σ : St} {H : Hp} {s : Shared} {E : Value → Shared → Prop} {D : Addr} {S : F.β} {k : F.κ} {y : V} {z : Value} {Q : Value → Shared → Prop}, Inv X pins σ H s → RelV y z → H D = some (F.O D S) → F.acc H S y k →
    (∀ S' s', F.nxt S y k S' → Inv X pins σ (upd H D (F.O D S')) s' → Q .none s') → wpAny (model X.prog X.w) X.A (call (.builtin "set.add") [.ref D, z]) Q E s
  new : ∀ {H : Hp} {h : Heap}, ObjOk X.prog X.w H (h.push (emptySet X.w)) h.objs.size (F.O h.objs.size F.b0)
end DL
end
section
namespace DL
open PySem PySem.Spec PyProof.Rows L2 PySem.W
abbrev tkD (d : D) : List (Int ⊕ List Nat) := keyToks (py d)
theorem leD_eq (a b : D) : leD a b = !PyProof.Rows.lexLt itemOrd (tkD b) (tkD a) := rfl
theorem leD_trans (a b c : D) (h1 : leD a b = true) (h2 : leD b c = true) : leD a c = true := by
  rw [leD_eq, Bool.not_eq_true'] at h1 h2 ⊢
  cases e : PyProof.Rows.lexLt itemOrd (tkD c) (tkD a) with
  | false => rfl
  | true =>
    rcases PyProof.Rows.lex_negTrans (O := itemOrd) (tkD c) (tkD b) (tkD a) e with z | z
    · rw [z] at h2; cases h2
    · rw [z] at h1; cases h1
theorem leD_total (a b : D) : (leD a b || leD b a) = true := by
  rw [leD_eq, leD_eq]
  cases e1 : PyProof.Rows.lexLt itemOrd (tkD b) (tkD a) with
  | false => rfl
  | true =>
    cases e2 : PyProof.Rows.lexLt itemOrd (tkD a) (tkD b) with
    | false => rfl
    | true =>
      have z := PyProof.Rows.lex_trans (O := itemOrd) _ _ _ e1 e2
      rw [PyProof.Rows.lex_irrefl (O := itemOrd)] at z
      cases z
end DL
end
section
namespace DL
open PySem PySem.Spec PyProof.Rows L2 PySem.W PySem.Froz
theorem sortable_strs (xs : List Str) : sortable (xs.map D.str) := by
  refine ⟨List.all_eq_true.mpr fun d hd => ?_, List.all_eq_true.mpr fun d hd => List.all_eq_true.mpr fun e he => ?_, ?_⟩
  · obtain ⟨x, _, rfl⟩ := List.mem_map.mp hd
    rfl
  · obtain ⟨x, _, rfl⟩ := List.mem_map.mp hd
    obtain ⟨y, _, rfl⟩ := List.mem_map.mp he
    show alike (py (.str x)) (py (.str y)) = true
    rw [py, py, alike]
  · unfold sortB
    rw [Bool.or_eq_true]
    exact .inr (List.all_eq_true.mpr fun d hd => by
      obtain ⟨x, _, rfl⟩ := List.mem_map.mp hd
      rfl)
def addS (acc : List Str) (k : Str) : List Str := if k ∈ acc then acc else acc ++ [k]
end DL
end
section
namespace DL
open PySem PySem.Spec PyProof.Rows L2
section
variable {X : Cx} {E : XK} {a b c e : Expr} {es : List Expr} {ga gb gc : M A} {gs : M (List A)} {p pos : Pos} {x : Str} {k : Nat}
theorem de_globI {i : Int} (hg : Gl X x) (h : ∃ t, X.mg x = some (.int i t)) (h2 : (x == ("__debug__" : Str)) = false := by decide) : DE X E (.Name x pos) (pur (.d (.int i))) := by
  obtain ⟨t, hm⟩ := h
  exact de_glob (v := .int i) hg hm ⟨t, rfl⟩ (fun _ => by unfold Den; rfl) h2
theorem de_globS {z : Str} (hg : Gl X x) (h : ∃ t, X.mg x = some (.str z t)) (h2 : (x == ("__debug__" : Str)) = false := by decide) : DE X E (.Name x pos) (pur (.d (.str z))) := by
  obtain ⟨t, hm⟩ := h
  exact de_glob (v := .str z) hg hm ⟨t, rfl⟩ (fun _ => by unfold Den; rfl) h2
def gChain2 (F F' : D → D → Rv) (ga gb gc : M A) : M A := bnd ga fun a => bnd gb fun b => bnd (pk a) fun d => bnd (pk b) fun e => match F d e with
  | .old (.bl true) => bnd gc fun c => bnd (pk b) fun e' => bnd (pk c) fun z => rvM (F' e' z)
  | .old (.bl false) => pur (.d (.bl false))
  | _ => bad
theorem d_chain {K : PySem.W.Frag} {F F' : D → D → Rv} (σ : St) (H : Hp) (Q : VK) (h : tD K E (gChain2 F F' ga gb gc) σ H Q) : tChain (rD2 K F) (rD2 K F') (tD K E ga) (tD K E gb) (tD K E gc) σ H Q := by
  obtain ⟨G, s, r, h⟩ := h
  refine stepE ipE h r fun x H1 G1 av s1 l1 r1 ad1 h1 => stepE ipE h1 r1 fun y H2 G2 bv s2 l2 r2 ad2 h2 => ?_
  obtain ⟨d, e1, h3⟩ := stepPk ipE h2
  obtain ⟨e, e2, h4⟩ := stepPk ipE h3
  refine ⟨G2.Hs, d, e, ⟨r2.x.ba, r2.peekN (ad1.le l2) e1, r2.peekN ad2 e2⟩, r2.x.hs, r2.peek (ad1.le l2) e1, r2.peek ad2 e2, ?_⟩
  cases q : F d e with
  | nw z => rw [q] at h4; exact h4.elim
  | no => rw [q] at h4; exact h4.elim
  | old z =>
    rw [q] at h4
    cases z with
    | bl k =>
      intro v dv
      have ev : v = .bl k := by
        have dv' : Den K G2.Hs (.bl k) v := dv
        unfold Den at dv'; exact dv'
      refine ⟨k, ev, ?_⟩
      cases k with
      | true =>
        show tD K E gc σ H2 _
        refine stepE ipE h4 r2 fun w H3 G3 cv s3 l3 r3 ad3 h5 => ?_
        obtain ⟨e', e3, h6⟩ := stepPk ipE h5
        obtain ⟨z, e4, h7⟩ := stepPk ipE h6
        exact ⟨G3.Hs, e', z, ⟨r3.x.ba, r3.peekN (ad2.le l3) e3, r3.peekN ad3 e4⟩, r3.x.hs, r3.peek (ad2.le l3) e3, r3.peek ad3 e4, r3.rv h7⟩
      | false => exact h4 _ H2 G2 (.refl G2) r2 ad_bl
    | _ => exact h4.elim
theorem de_chain2 {op op' : CmpOp} {F F' : D → D → Rv} (ho : OpR X (compareOp op) (rD2 X.K F)) (ho' : OpR X (compareOp op') (rD2 X.K F')) (ha : DE X E a ga) (hb : DE X E b gb) (hc : DE X E c gc)
    (hm : lastMarks [op, op'] [b, c] = false := by with_unfolding_all rfl) : DE X E (.Compare a [op, op'] [b, c] pos) (gChain2 F F' ga gb gc) := (pe_chain ho ho' ha hb hc hm).imp fun σ H Q h => d_chain σ H Q h
def rgD (n : Int) : List D := (List.range n.toNat).map fun i => .int (i : Nat)
def gRg (mk : List D → D) (ga : M A) : M A := bnd ga fun a => bnd (pk a) fun d => match d with
  | .int j => if 0 ≤ j ∧ j ≤ 1000000 then pur (.d (mk (rgD j))) else bad
  | _ => bad
def gListRange1 := gRg .lst
def gTupleRange1 := gRg .tup
theorem df_callTy {T : String} {F : List D → Rv} (hc : CallR X (.type T) (rDn X.K F)) (hm0 : ∀ ds d, F ds = .nw d → MutD d) (hg : Gl X x) (hm : X.mg x = none) (hv : bootBuiltins x = some (.type T)) (ha : DA X E (e :: es) gs) (hn : x ≠ "__name__" := by decide) (hdb : (x == ("__debug__" : Str)) = false := by decide)
    (hs : starEach (e :: es) X.env = (false, eval e X.env) :: starEach es X.env := by rfl) (hpl : (backTo pos (starEach es X.env)).any (·.1) = false := by rfl) : DF X E (.Call (.Name x p) (e :: es) [] pos) (gFnF F gs) := (pe_callTy hc hg hm hv ha hn hdb hs hpl).imp fun σ H Q h => d_fnF hm0 h
theorem mut_FList : ∀ ds d, FList ds = .nw d → MutD d := fun ds d h => by
  unfold FList fn1 at h
  split at h
  · rename_i z
    unfold FList1 at h
    cases q : itemsD z with
    | none => rw [q] at h; cases h
    | some w => rw [q] at h; cases h; trivial
  · cases h
theorem mut_FDict : ∀ ds d, FDict ds = .nw d → MutD d := fun ds d h => by
  unfold FDict fn1 at h
  split at h
  · rename_i z
    unfold FDict1 at h
    cases z with
    | dic ks => cases h; trivial
    | lst xs =>
      dsimp only at h
      cases q : pairsD xs with
      | none => rw [q] at h; cases h
      | some w => rw [q] at h; cases h; trivial
    | _ => cases h
  · cases h
end
end DL
end
section
namespace DL
open PySem PySem.Spec PyProof.Rows L2 PySem.W PySem.Froz
def addI (acc : List Int) (k : Int) : List Int := if k ∈ acc then acc else acc ++ [k]
theorem sortable_ints (xs : List Int) : sortable (xs.map D.int) := by
  refine ⟨?_, ?_, ?_⟩
  · rw [List.all_map]
    exact List.all_eq_true.mpr fun x _ => by
      show (plD (.int x) && decide ((py (.int x)).depth ≤ 40)) = true
      unfold plD py PyData.depth
      decide
  · unfold alikeB
    rw [List.all_map]
    refine List.all_eq_true.mpr fun x _ => ?_
    show (xs.map D.int).all (fun b => alike (py (.int x)) (py b)) = true
    rw [List.all_map]
    refine List.all_eq_true.mpr fun y _ => ?_
    show alike (py (.int x)) (py (.int y)) = true
    unfold py
    rfl
  · unfold sortB
    rw [Bool.or_eq_true]
    refine .inr ?_
    rw [List.all_map]
    exact List.all_eq_true.mpr fun x _ => rfl
structure PF where
  γ : Type
  κ : Type
  b0 : γ
  key : D → Option κ
  add : γ → κ → γ
  out : γ → List D
  cap : Nat
  fine : List D → Bool
  len0 : (out b0).length = 0
  len1 : ∀ g k, (out (add g k)).length ≤ (out g).length + 1
structure PFok (X : Cx) (pf : PF) (F : SetFam) where
  rep : Gh → F.β → pf.γ → Prop
  mono : ∀ {G G' : Gh} {S g}, G.le G' → rep G S g → rep G' S g
  start : ∀ {G : Gh}, rep G F.b0 pf.b0
  nf : ∀ {p S}, NoFrz (F.O p S)
  step : ∀ {G : Gh} {H : Hp} {S g z k v}, Bare G.Hs → Sub G.Hs H → rep G S g → (pf.out g).length + 1 < pf.cap → Den X.K G.Hs z v → pf.key z = some k → ∃ κ, F.acc H S v κ ∧ ∀ S', F.nxt S v κ S' → rep G S' (pf.add g k)
section
variable {X : Cx} {js vs : List Nat} {g : M (List D)} {t : Tg} {c : M Bool} {ev : M A} {pf : PF} {F : SetFam}
structure SortOk (X : Cx) (pf : PF) (F : SetFam) (ok : PFok X pf F) (rS : List V → Hp → VK → Prop) : Prop where
  post : ∀ {G : Gh} {H : Hp} {p : Addr} {S : F.β} {acc : pf.γ} {Q : VK}, ok.rep G S acc → H p = some (F.O p S) → Bare G.Hs → Sub G.Hs H → pf.fine (pf.out acc) = true → (pf.out acc).length < pf.cap →
    (∀ p' o, H p' = none → DenO X.K G.Hs (.lst ((pf.out acc).mergeSort leD)) o → Q (.ref p') (upd H p' o)) → rS [V.ref p] H Q
structure LenOk (X : Cx) (pf : PF) (F : SetFam) (ok : PFok X pf F) (rS : List V → Hp → VK → Prop) : Prop where
  post : ∀ {G : Gh} {H : Hp} {p : Addr} {S : F.β} {acc : pf.γ} {Q : VK}, ok.rep G S acc → H p = some (F.O p S) → (pf.out acc).length < pf.cap → Q (.int (pf.out acc).length) H → rS [V.ref p] H Q
variable {E : XK}
end
section
variable {P : Program} {w : World} {A : Around} {E : Value → Shared → Prop} {s : Shared}
structure Fill (P : Program) (w : World) (S : Addr) (n : Nat) (Pv : Nat → Value → Prop) (T : Nat → Heap → Prop) : Prop where
  move : ∀ {i h h'}, T i h → (∀ o, h.get? S = some o → h'.get? S = some o) → T i h'
  step : ∀ {i v} {s : Shared} {A : Around} {E : Value → Shared → Prop} {Q : Bool → Shared → Prop}, i < n → Pv i v → T i s.heap →
    (∀ b h' tk, s.toks ≤ tk → Heap.SameBut S s.heap h' → T (i + 1) h' → Q b { s with heap := h', toks := tk }) → wpAny (model P w) A (setAdd S v) Q E s
end
def dedI (ns : List Int) : List Int := ns.foldl addI []
def dedS (ns : List Str) : List Str := ns.foldl addS []
theorem _root_.L2.CallR.or' {X : Cx} {f : Value} {r r' : List V → Hp → VK → Prop} (h : CallR X f r) (h' : CallR X f r') : CallR X f (fun xs H Q => r xs H Q ∨ r' xs H Q) := fun pins s σ H xs us Q I rx q => by
  rcases q with q | q
  · exact h pins s σ H xs us Q I rx q
  · exact h' pins s σ H xs us Q I rx q
def setD (ds : List D) : Option (List D) := match intsD ds with
  | some ns => if ns.length + 1 < scanBound then some ((dedI ns).map D.int) else none
  | none => match strsD ds with
    | some ks => if ks.length + 1 < scanBound then some ((dedS ks).map D.str) else none
    | none => none
section
variable {X : Cx} {E : XK} {k : Nat} {a : Expr} {ga : M A}
theorem ds_bad {st : Stmt} : DS X E st bad := ⟨fun pins s σ H D I ⟨_, _, _, q⟩ => q.elim⟩
theorem tabs_nil {f : TyN → Bool → Prop} : ∀ t b, (t, b) ∈ ([] : List (TyN × Bool)) → f t b := fun _ _ h => nomatch h
theorem tabs_cons {f : TyN → Bool → Prop} {t0 : TyN} {b0 : Bool} {l : List (TyN × Bool)} (h : f t0 b0) (r : ∀ t b, (t, b) ∈ l → f t b) : ∀ t b, (t, b) ∈ (t0, b0) :: l → f t b := fun t b m => by
  rcases List.mem_cons.mp m with e | e
  · cases e; exact h
  · exact r t b e
theorem kit_self {K : PySem.W.Frag} {t : Value} (h : (t == t) = true := by first | rfl | simp) : PySem.W.kitOne K t t = some true := by unfold PySem.W.kitOne; rw [if_pos h]
end
section
variable {X : Cx} {E : XK} {k : Nat} {e : Expr} {ga : M A}
def FRev (d : D) : Rv := match d with
  | .lst xs => .nw (.lst xs.reverse)
  | .tup xs => .nw (.tup xs.reverse)
  | _ => .no
end
end DL
end
section
namespace L2
open PySem PySem.Spec PyProof.Rows
theorem tuple_mul0 (l : Addr) (n : Nat) (dd : Option Addr) (sl : Array (Option Value)) (x : Int) (u : Tok) (c0 : (decide (x < -(2 ^ 63)) || decide (x ≥ 2 ^ 63)) = false) :
    Meets (Builtin.«tuple.__mul__» ⟨[.ref l, .int x u], []⟩) (fun _ R s => s.heap.get? l = some { cls := .type "tuple", dict := dd, data := .seq #[] n, slots := sl } ∧ R (.ok (.ret (Value.ref l))) s) :=
  .of_wp fun prog w A R s h => by
    obtain ⟨hp, g, d, tk, os⟩ := s
    obtain ⟨hl, h⟩ := h
    have f1 := AutoSeq1.idx_int
    wp_walk using wpAny_loadPart' hl
    repeat (first
      | (refine wpAny_ite_false (decide_eq_false (by rw [c0]; exact Bool.false_ne_true)) ?_; wp_walk using wpAny_loadPart' hl)
      | (refine wpAny_ite_true (decide_eq_true rfl) ?_; wp_walk using wpAny_loadPart' hl))
    exact ⟨_, rfl, h⟩
section
variable {X : Cx}
def rRep0 (K : PySem.W.Frag) : R2 := fun x y H Q => ∃ l k, x = .ref l ∧ y = .int k ∧ SqT K H l [] ∧ -1000 ≤ k ∧ k ≤ 1000 ∧ Q (.ref l) H
theorem op_rep0 : OpR X (binaryOp .Mult) (rRep0 X.K) := by
  intro pins s σ H x y v u Q I rx ry h
  obtain ⟨l, k, rfl, rfl, hT, h1, h2, q⟩ := h
  cases rx
  obtain ⟨t, rfl⟩ := ry
  obtain ⟨its, r, ⟨⟨cls, dd, data, sl⟩, ho, hc, n, hd⟩, hs⟩ := I.tuple hT
  simp only at hc hd
  subst hc hd
  cases r
  have c0 : (decide (k < -(2 ^ 63)) || decide (k ≥ 2 ^ 63)) = false := by
    rw [decide_eq_false (by omega), decide_eq_false (by omega)]; rfl
  exact wpAny_binaryOp_repeat_ref (T := "tuple") (U := "int") (by decide) ⟨_, ho, rfl⟩ (fun s' => typeIs_int s' k t) noFill_tuple_mul F.fills_int_mul F.slot_int_rmul repeat_tuple F.slot_int_index.lookup
    (call_meets F.slot_int_rmul (typeIs_int s k t) F.entry_int_rmul (F.args_int_rmul_2 _ _) (int_rmul_tuple k t l _ n dd sl)
      ⟨ho, rfl, ⟨_, ho, rfl⟩, call_meets F.slot_tuple_mul ⟨_, ho, rfl⟩ F.entry_tuple_mul (F.args_tuple_mul_2 _ _) (tuple_mul0 l n dd sl k t c0) ⟨ho, ⟨.ref l, H, I, rfl, q⟩⟩⟩)
def rMulS : R2 := fun x y H Q => ∃ z k, x = .str z ∧ y = .int k ∧ 0 ≤ k ∧ k ≤ 1000 ∧ z.length ≤ 1000 ∧ Q (.str (Txt.mul z k)) H
theorem op_mulS : OpR X (binaryOp .Mult) rMulS := by
  intro pins s σ H x y v u Q I rx ry h
  obtain ⟨z, k, rfl, rfl, h1, h2, hz, q⟩ := h
  obtain ⟨t, rfl⟩ := rx
  obtain ⟨t2, rfl⟩ := ry
  refine SB.mul ⟨?_, fun n1 _ => ?_, fun n1 _ => ?_⟩ fun t' k' => ⟨.str (Txt.mul z k), H, I.tok _, ⟨t', rfl⟩, q⟩
  · rw [decide_eq_false (by omega), decide_eq_false (by omega)]; rfl
  · have a1 : ((2 : Int) ^ 63 - 1) / 1000 ≤ (2 ^ 63 - 1) / k := by
      refine Int.le_ediv_of_mul_le (by omega) ?_
      have := Int.mul_le_mul_of_nonneg_left (c := ((2 : Int) ^ 63 - 1) / 1000) h2 (by omega)
      omega
    omega
  · unfold PySem.Builtin.Str.tooLong
    have a1 : z.length * k.toNat ≤ 1000 * 1000 := Nat.mul_le_mul hz (by omega)
    first
      | exact decide_eq_false (by rw [sizeLine_eq]; omega)
      | exact decide_eq_false (by omega)
      | (unfold strTooLong; exact decide_eq_false (by omega))
end
end L2
namespace DL
open PySem PySem.Spec PyProof.Rows L2
def FMulX (d e : D) : Rv := match d, e with
  | .str z, .int k => if 0 ≤ k ∧ k ≤ 1000 ∧ z.length ≤ 1000 then .old (.str (Txt.mul z k)) else .no
  | .tup [], .int k => if -1000 ≤ k ∧ k ≤ 1000 then .old (.tup []) else .no
  | d, e => FMul d e
section
variable {X : Cx}
theorem r_mulX : OpR X (binaryOp .Mult) (rD2 X.K FMulX) := by
  refine ((r_mul.or' op_rep0).or' op_mulS).imp' fun x y H Q ⟨Hs, d, e, b, s, h1, h2, q⟩ => ?_
  cases d with
  | str z =>
    cases e with
    | int k =>
      have e1 := denH_str h1; have e2 := denH_int h2; subst e1 e2
      obtain ⟨⟨c1, c2, c3⟩, q⟩ := ite_rv q
      exact .inr ⟨z, k, rfl, rfl, c1, c2, c3, rv_str q⟩
    | _ => exact .inl (.inl ⟨Hs, _, _, b, s, h1, h2, q⟩)
  | tup xs =>
    cases xs with
    | nil =>
      cases e with
      | int k =>
        have e2 := denH_int h2; subst e2
        obtain ⟨⟨c1, c2⟩, q⟩ := ite_rv q
        have hd : Den X.K Hs (.tup []) x := h1
        obtain ⟨a, vs, rfl, p1, p1', q1⟩ := denH_tup b.1 s h1
        have e3 : vs = [] := q1.nil_iff.mpr rfl
        subst e3
        exact .inl (.inr ⟨a, k, rfl, rfl, p1', c1, c2, q _ hd⟩)
      | _ => exact .inl (.inl ⟨Hs, _, _, b, s, h1, h2, q⟩)
    | cons z zs => exact .inl (.inl ⟨Hs, _, _, b, s, h1, h2, q⟩)
  | _ => exact .inl (.inl ⟨Hs, _, _, b, s, h1, h2, q⟩)
end
end DL
end
section
namespace DL
open PySem PySem.Spec PyProof.Rows L2 RZ
def zipD (xs ys : List D) : List D := (xs.zip ys).map fun p => .tup [p.1, p.2]
section
variable {X : Cx} {E : XK} {a b : Expr} {ga gb : M A}
def gZip (ga gb : M A) : M (List D) := bnd ga fun a => bnd gb fun b => bnd (force a) fun d => bnd (force b) fun e => match d, e with
  | .lst xs, .lst ys => pur (zipD xs ys)
  | .tup xs, .tup ys => pur (zipD xs ys)
  | _, _ => bad
end
end DL
namespace DL
open PySem PySem.Spec PyProof.Rows L2
theorem ds_ifx {X : Cx} {E : XK} {c : Expr} {sts sts2 : List Stmt} {b1 b2 : M Fl} {pos : Pos} {g : M Bool} (hc : DT X E c g) (ha : DSs X E sts b1) (hb : DSs X E sts2 b2) : DS X E (.If c sts sts2 pos) (gIf g b1 b2) := ds_if hc ha hb
end DL
end
section
namespace DL
open PySem PySem.Spec PyProof.Rows L2
def rsOf (i : Nat) (s : S) : Option Rs := match s.sl[i]?, s.rs with
  | some (.fr (.adr a)), some r => if a = r.sd then some r else none
  | _, _ => none
theorem rsOf_some {i : Nat} {s : S} {q : Rs} (h : rsOf i s = some q) : s.sl[i]? = some (.fr (.adr q.sd)) ∧ s.rs = some q := by
  unfold rsOf at h
  split at h
  · rename_i a r e1 e2
    by_cases c : a = r.sd
    · rw [if_pos c] at h; cases h; rw [c] at e1; exact ⟨e1, e2⟩
    · rw [if_neg c] at h; cases h
  · cases h
def upRs (q : Rs) (s : S) : S := { s with rs := some q }
section
variable {K : PySem.W.Frag} {E : XK} {G : Gh} {σ : St} {H : Hp} {s : S} {i : Nat} {q : Rs}
theorem Rel.rsAt (r : Rel K G σ H s) (h : rsOf i s = some q) : σ[i]? = some (some (.ref q.sd)) ∧ RsAt K G H q := by
  obtain ⟨e1, e2⟩ := rsOf_some h
  obtain ⟨v, e3, dn⟩ := r.fr i _ e1
  have ev : v = .ref q.sd := by unfold Den at dn; exact dn
  rw [ev] at e3
  have z := r.x.rs
  rw [e2] at z
  exact ⟨e3, z⟩
theorem Rel.upRs {q' : Rs} {H' : Hp} (r : Rel K G σ H s) (h : s.rs = some q) (hh : ∀ a, ¬ q.has a → H' a = H a) (hs : ∀ a, q'.has a ↔ q.has a) (nf : ∀ a, q.has a → ∃ o, H' a = some o ∧ NoFrz o) (z : RsAt K G H' q') : Rel K G σ H' (DL.upRs q' s) := by
  have z0 : RsAt K G H q := by have y := r.x.rs; rw [h] at y; exact y
  have nh : ∀ a o, G.Hs a = some o → ¬ q.has a := fun a o e y => by rw [(z0.no a y).1] at e; cases e
  refine ⟨⟨fun a o e => ?_, fun a o e => ?_, r.x.ba, r.x.dm, fun a y => ?_, fun a ob u e => ?_, z⟩, r.fr, fun j d e => ?_, r.ap, r.ln, ?_⟩
  · rw [hh a fun y => by rw [(z0.no a y).2.1] at e; cases e]; exact r.x.fx a o e
  · rw [hh a (nh a o e)]; exact r.x.hs a o e
  · rw [hh a fun w => (z0.no a w).2.2 y]; exact r.x.dh a y
  · intro nt
    by_cases c : q.has a
    · obtain ⟨o, e2, n2⟩ := nf a c
      rw [e] at e2; cases e2
      obtain ⟨xs, eu⟩ := n2.tup
      exact absurd eu (nt xs)
    · rw [hh a c] at e; exact r.x.lo a ob u e nt
  · obtain ⟨p, o, a1, a2, a3, a4, a5, a6, a7, a8⟩ := r.ow j d e
    have n := a8 q h
    refine ⟨p, o, a1, by rw [hh p n]; exact a2, a3, a4, a5, a6, a7, fun q2 e2 y => ?_⟩
    cases e2
    exact n ((hs p).mp y)
  · have w := r.me
    show MeOk K G H' (some q') s.me
    cases e : s.me with
    | none => trivial
    | some m =>
      rw [e] at w
      have y : MeAt K G H s.rs m := w
      obtain ⟨gs, g1, g2⟩ := y.o
      have n := y.nr q h
      refine ⟨⟨gs, by rw [hh _ n]; exact g1, g2⟩, y.ns, y.nf, y.nd, fun q2 e2 z2 => ?_⟩
      cases e2
      exact n ((hs _).mp z2)
theorem Rs.nofz {q : Rs} (z : RsAt K G H q) {a : Addr} (h : q.has a) : ∃ o, H a = some o ∧ NoFrz o := by
  rcases h with h | h | h | ⟨p, h⟩
  · rw [h]; exact ⟨_, z.d, trivial⟩
  · rw [h]; exact ⟨_, z.g, trivial⟩
  · rw [h]; exact ⟨_, z.c, trivial⟩
  · obtain ⟨ps, h1, _⟩ := z.t _ h
    exact ⟨_, h1, trivial⟩
theorem RsAt.apart (z : RsAt K G H q) : q.sd ≠ q.sg ∧ q.sd ≠ q.sc ∧ (∀ p ∈ q.tb, p.1 ≠ q.sd ∧ p.1 ≠ q.sg ∧ p.1 ≠ q.sc) := by
  refine ⟨fun e => ?_, fun e => ?_, fun p hp => ⟨fun e => ?_, fun e => ?_, fun e => ?_⟩⟩
  · have := z.g; rw [← e, z.d] at this; cases this
  · have := z.c; rw [← e, z.d] at this; cases this
  · obtain ⟨ps, h1, _⟩ := z.t p hp; rw [e, z.d] at h1; cases h1
  · obtain ⟨ps, h1, _⟩ := z.t p hp; rw [e, z.g] at h1; cases h1
  · obtain ⟨ps, h1, _⟩ := z.t p hp; rw [e, z.c] at h1; cases h1
theorem Rel.putRs {dg tn : Int} (r : Rel K G σ H s) (h : s.rs = some q) : Rel K G σ (upd H q.sd (rsDict { q with dg := dg, tn := tn })) (DL.upRs { q with dg := dg, tn := tn } s) := by
  have z0 : RsAt K G H q := by have y := r.x.rs; rw [h] at y; exact y
  obtain ⟨n1, n2, n3⟩ := z0.apart
  refine r.upRs (q := q) h (fun a n => upd_ne fun e => n (.inl e)) (fun a => Iff.rfl) (fun a c => ?_) ⟨upd_same, ?_, ?_, fun p hp => ?_, z0.no, z0.ne, z0.a, z0.u, z0.rgTo fun a t => upd_ne (z0.tgNe t (.inl rfl)), z0.fzTo fun a t => upd_ne (z0.tgNe t (.inl rfl)), z0.tg⟩
  · by_cases e : a = q.sd
    · rw [e]; exact ⟨_, upd_same, trivial⟩
    · rw [upd_ne e]; exact Rs.nofz z0 c
  · show upd H q.sd _ q.sg = _; rw [upd_ne n1.symm]; exact z0.g
  · show upd H q.sd _ q.sc = _; rw [upd_ne n2.symm]; exact z0.c
  · obtain ⟨ps, h1, h2⟩ := z0.t p hp
    exact ⟨ps, by rw [upd_ne (n3 p hp).1]; exact h1, h2⟩
theorem Rel.popRs {gr : List Int} (r : Rel K G σ H s) (h : s.rs = some q) : Rel K G σ (upd H q.sg (.lst (gr.map V.int))) (DL.upRs { q with gr := gr } s) := by
  have z0 : RsAt K G H q := by have y := r.x.rs; rw [h] at y; exact y
  obtain ⟨n1, n2, n3⟩ := z0.apart
  refine r.upRs (q := q) h (fun a n => upd_ne fun e => n (.inr (.inl e))) (fun a => Iff.rfl) (fun a c => ?_) ⟨?_, upd_same, ?_, fun p hp => ?_, z0.no, z0.ne, z0.a, z0.u, z0.rgTo fun a t => upd_ne (z0.tgNe t (.inr (.inl rfl))), z0.fzTo fun a t => upd_ne (z0.tgNe t (.inr (.inl rfl))), z0.tg⟩
  · by_cases e : a = q.sg
    · rw [e]; exact ⟨_, upd_same, trivial⟩
    · rw [upd_ne e]; exact Rs.nofz z0 c
  · show upd H q.sg _ q.sd = _; rw [upd_ne n1]; exact z0.d
  · show upd H q.sg _ q.sc = _; rw [upd_ne z0.ne.symm]; exact z0.c
  · obtain ⟨ps, h1, h2⟩ := z0.t p hp
    exact ⟨ps, by rw [upd_ne (n3 p hp).2.1]; exact h1, h2⟩
end
def gRsI (i : Nat) (f : Rs → Int) : M A := fun s => match rsOf i s with
  | some r => .ok (.d (.int (f r))) s
  | none => .bad
def gRsT (i : Nat) (f : Rs → Bool) : M Bool := fun s => match rsOf i s with
  | some r => .ok (f r) s
  | none => .bad
def gRsPop (i : Nat) : M A := fun s => match rsOf i s with
  | some r => match r.gr with
    | g :: t => .ok (.d (.int g)) (upRs { r with gr := t } s)
    | [] => .bad
  | none => .bad
def sRsPut (i : Nat) (f : Rs → Int → Rs) (ga : M A) : M Fl := bnd ga fun a => bnd (pk a) fun d => fun s => match d, rsOf i s with
  | .int v, some r => .ok .nx (upRs (f r v) s)
  | _, _ => .bad
def sRsInc (i : Nat) : M Fl := fun s => match rsOf i s with
  | some r => .ok .nx (upRs { r with tn := r.tn + 1 } s)
  | none => .bad
section
variable {X : Cx} {E : XK} {k : Nat} {e : Expr} {ga : M A} {i : Nat} {x : Str} {p p2 p3 p4 pos pos' : Pos} {j j2 : Nat} {key : Str}
def RsKey (key : Str) (f : Rs → V) : Prop := ∀ r : Rs, valV ([(kStr "digits", .int r.dg), (kStr "great", .ref r.sg), (kStr "cells", .ref r.sc), (kStr "turn", .int r.tn)] : List (Key × V)) (kStr key) = some (f r)
theorem key_dg : RsKey "digits" (fun r => .int r.dg) := fun r => rfl
theorem key_gr : RsKey "great" (fun r => .ref r.sg) := fun r => by rfl
theorem key_ce : RsKey "cells" (fun r => .ref r.sc) := fun r => by rfl
theorem key_tn : RsKey "turn" (fun r => .int r.tn) := fun r => by rfl
theorem pe_rs {f : Rs → V} (hk : RsKey key f) (r0 : Room k X.A) (hN : X.N[i]? = some x) (hv : Vis X.env.scope x) (hd : (x == ("__debug__" : Str)) = false) (hcd : (x == ("__classdict__" : Str)) = false) :
    PE X (.Subscript (.Name x p) (.Constant (.str key) j p2) pos) (fun σ H Q => ∃ r, σ[i]? = some (some (.ref r.sd)) ∧ H r.sd = some (rsDict r) ∧ Q (f r) H) :=
  (pe_dget (hu_of r0) (pe_var hN hv hd hcd) pe_str (fun _ _ => rfl)).imp fun σ H Q ⟨r, e1, e2, q⟩ => ⟨_, e1, r.sd, f r, rfl, by rw [← hk r]; exact DGet.k (k := kStr key) e2, q⟩
theorem de_rsI {f : Rs → Int} (hk : RsKey key fun r => .int (f r)) (r0 : Room k X.A) (i : Nat) (hN : X.N[i]? = some x := by rfl) (hv : Vis X.env.scope x := by first | exact Or.inl rfl | exact Or.inr (Or.inl rfl) | exact Or.inr (Or.inr rfl)) (hd : (x == ("__debug__" : Str)) = false := by decide) (hcd : (x == ("__classdict__" : Str)) = false := by decide) :
    DE X E (.Subscript (.Name x p) (.Constant (.str key) j p2) pos) (gRsI i f) := (pe_rs hk r0 hN hv hd hcd).imp fun σ H Q ⟨G, s, r, h⟩ => by
  unfold gRsI at h
  cases q : rsOf i s with
  | none => rw [q] at h; exact h.elim
  | some y =>
    rw [q] at h
    obtain ⟨e1, z⟩ := r.rsAt q
    exact ⟨y, e1, z.d, h _ H G (.refl G) r (by show Den _ _ _ _; unfold Den; rfl)⟩
theorem ok_ints (ns : List Int) : okD (.lst (ns.map D.int)) = true := by
  have h : ∀ ns : List Int, plAll (ns.map D.int) = true ∧ PyData.depthAll (pyL (ns.map D.int)) = 0 := fun ns => by
    induction ns with
    | nil => exact ⟨by unfold plAll; rfl, by rw [List.map_nil, pyL, PyData.depthAll]⟩
    | cons n r ih =>
      rw [List.map_cons, plAll, pyL, PyData.depthAll, ih.1, ih.2, plD, py, PyData.depth]
      exact ⟨rfl, rfl⟩
  unfold okD
  rw [plD, py, PyData.depth, (h ns).1, (h ns).2]
  rfl
theorem ne_nil (ns : List Int) : FNe (.lst (ns.map D.int)) (.lst []) = .old (.bl (decide (ns ≠ []))) := by
  unfold FNe
  rw [if_pos ⟨ok_ints ns, ok_ints []⟩]
  cases ns with
  | nil => rfl
  | cons n r =>
    rw [List.map_cons, py, py, pyL, pyL]
    rfl
theorem dt_rsNe {g : Rs → Addr} {f : Rs → List Int} (hk : RsKey key fun r => .ref (g r)) (hg : ∀ {G H r}, RsAt X.K G H r → H (g r) = some (.lst ((f r).map V.int))) (r0 : Room k X.A) (i : Nat) (hN : X.N[i]? = some x := by rfl) (hv : Vis X.env.scope x := by first | exact Or.inl rfl | exact Or.inr (Or.inl rfl) | exact Or.inr (Or.inr rfl)) (hd : (x == ("__debug__" : Str)) = false := by decide) (hcd : (x == ("__classdict__" : Str)) = false := by decide) (hh : ∀ r : Rs, r.has (g r) := by first | exact fun r => .inr (.inl rfl) | exact fun r => .inr (.inr (.inl rfl)) | exact fun r => .inl rfl) :
    DT X E (.Compare (.Subscript (.Name x p) (.Constant (.str key) j p2) pos) [.NotEq] [.List [] p3] p4) (gRsT i fun r => decide (f r ≠ [])) :=
  (pt_cmpR (r_ne r0) (pe_rs hk r0 hN hv hd hcd) (pe_lst pa_nil) rfl).imp fun σ H Q ⟨G, s, r, h⟩ => by
    unfold gRsT at h
    cases q : rsOf i s with
    | none => rw [q] at h; exact h.elim
    | some y =>
      rw [q] at h
      obtain ⟨e1, z⟩ := r.rsAt q
      refine ⟨y, e1, z.d, by show 0 ≤ sizeLine; exact Nat.zero_le _, fun p hp => ?_⟩
      have r2 := r.newH hp (o := .lst []) trivial
      have ne : g y ≠ p := ne_of_none (hg z) hp
      refine ⟨G.Hs, .lst ((f y).map D.int), .lst [], ⟨r2.x.ba, nt_new (z.no _ (hh y)).1, nt_new (r.x.fresh hp).2.1⟩, r2.x.hs, ⟨_, _, rfl, by rw [upd_ne ne]; exact hg z, DenL.ints _⟩, ⟨_, _, rfl, upd_same, .nil⟩, ?_⟩
      rw [ne_nil]
      intro v dv
      have ev : v = .bl (decide (f y ≠ [])) := by unfold Den at dv; exact dv
      exact ⟨_, ev, h _ G (.refl G) r2⟩
end
theorem put_dg (r : Rs) (v : Int) : (HO.dK (putK [(kStr "digits", V.int r.dg), (kStr "great", .ref r.sg), (kStr "cells", .ref r.sc), (kStr "turn", .int r.tn)] (kStr "digits") (.int v))) = rsDict { r with dg := v } := rfl
theorem put_tn (r : Rs) (v : Int) : (HO.dK (putK [(kStr "digits", V.int r.dg), (kStr "great", .ref r.sg), (kStr "cells", .ref r.sc), (kStr "turn", .int r.tn)] (kStr "turn") (.int v))) = rsDict { r with tn := v } := rfl
def gRsLen (i : Nat) : M A := fun s => match rsOf i s with
  | some r => if r.ce.length ≤ sizeLine then .ok (.d (.int r.ce.length)) s else .bad
  | none => .bad
def gRsCel (i : Nat) (ga : M A) : M A := fun s => match rsOf i s with
  | some r0 => bnd ga (fun a => bnd (pk a) fun d => fun s => match d, rsOf i s with
    | .int j, some r => if r.sc = r0.sc then (match atI r.ce j with
      | some z => .ok (.d (.int z)) s
      | none => .bad) else .bad
    | _, _ => .bad) s
  | none => .bad
theorem atI_map {ns : List Int} {j z : Int} (h : atI ns j = some z) : atI (ns.map V.int) j = some (.int z) := by
  unfold atI at h ⊢
  rw [List.length_map]
  cases q : ixN ns.length j with
  | none => rw [q] at h; cases h
  | some m =>
    rw [q] at h
    have h' : ns[m]? = some z := h
    show (ns.map V.int)[m]? = some (.int z)
    rw [List.getElem?_map, h']; rfl
section
variable {X : Cx} {E : XK} {k : Nat} {e : Expr} {ga : M A} {x : Str} {p p2 p3 p4 pos pos' apos cpos : Pos} {j j2 jj : Nat}
theorem ds_rsPut (r0 : Room k X.A) (i : Nat) (he : DE X E e ga) (hN : X.N[i]? = some x := by rfl) (hv : Vis X.env.scope x := by first | exact Or.inl rfl | exact Or.inr (Or.inl rfl) | exact Or.inr (Or.inr rfl)) (hd : (x == ("__debug__" : Str)) = false := by decide) (hcd : (x == ("__classdict__" : Str)) = false := by decide)
    (hs : swapsWith e (some (.Subscript (.Name x p) (.Constant (.str "digits") j p2) pos')) pos.line X.env = pure false := by rfl) : DS X E (.Assign [.Subscript (.Name x p) (.Constant (.str "digits") j p2) pos'] e pos) (sRsPut i (fun r v => { r with dg := v }) ga) :=
  (ps_dput (hu_of r0) (pe_var hN hv hd hcd) pe_str he hs).imp fun Dn σ H ⟨G, s, r, h⟩ => by
    refine stepE ipS h r fun v H1 G1 a s1 l1 r1 ad h1 => ?_
    obtain ⟨d, e1, h2⟩ := stepPk ipS h1
    have dn := r1.peek ad e1
    cases d with
    | int z =>
      have := denH_int dn; subst this
      cases q : rsOf i s1 with
      | none => rw [q] at h2; exact h2.elim
      | some y =>
        rw [q] at h2
        obtain ⟨e2, z2⟩ := r1.rsAt q
        refine ⟨_, e2, y.sd, _, rfl, DPut.k (k := kStr "digits") z2.d (by show 4 < sizeLine; rw [sizeLine_eq]; omega), ?_⟩
        rw [put_dg]
        exact h2 _ _ G1 (.refl G1) (r1.putRs (dg := z) (tn := y.tn) (rsOf_some q).2)
    | _ => exact h2.elim
theorem ds_rsInc (r0 : Room k X.A) (i : Nat) (hN : X.N[i]? = some x := by rfl) (hv : Vis X.env.scope x := by first | exact Or.inl rfl | exact Or.inr (Or.inl rfl) | exact Or.inr (Or.inr rfl)) (hd : (x == ("__debug__" : Str)) = false := by decide) (hcd : (x == ("__classdict__" : Str)) = false := by decide)
    (ha : ∀ ov iv new, augStore (.Constant (.str "turn") j p2) ov iv new = (do holding [new, ov, iv] (setItem ov iv new); release [new, ov, iv] []; pure .next) := by intros; rfl) :
    DS X E (.AugAssign (.Subscript (.Name x p) (.Constant (.str "turn") j p2) pos') .Add (.Constant (.int 1) jj p3) pos) (sRsInc i) :=
  (ps_daug (hu_of r0) (pe_var hN hv hd hcd) pe_str pe_int in_add ha).imp fun Dn σ H ⟨G, s, r, h⟩ => by
    unfold sRsInc at h
    cases q : rsOf i s with
    | none => rw [q] at h; exact h.elim
    | some y =>
      rw [q] at h
      obtain ⟨e2, z2⟩ := r.rsAt q
      refine ⟨_, e2, y.sd, .int y.tn, rfl, ?_, y.tn, 1, rfl, rfl, _, DPut.k (k := kStr "turn") z2.d (by show 4 < sizeLine; rw [sizeLine_eq]; omega), ?_⟩
      · rw [← key_tn y]; exact DGet.k (k := kStr "turn") z2.d
      · rw [put_tn]
        exact h _ _ G (.refl G) (r.putRs (dg := y.dg) (tn := y.tn + 1) (rsOf_some q).2)
theorem de_rsPop (r0 : Room k X.A) (i : Nat) (hN : X.N[i]? = some x := by rfl) (hv : Vis X.env.scope x := by first | exact Or.inl rfl | exact Or.inr (Or.inl rfl) | exact Or.inr (Or.inr rfl)) (hd : (x == ("__debug__" : Str)) = false := by decide) (hcd : (x == ("__classdict__" : Str)) = false := by decide)
    (hs : starEach [(.Constant (.int 0) jj p3 : Expr)] X.env = (false, eval (.Constant (.int 0) jj p3) X.env) :: starEach [] X.env := by rfl) (hbase : attributeBase (.Subscript (.Name x p) (.Constant (.str "great") j p2) p4) "pop" X.env (eval (.Subscript (.Name x p) (.Constant (.str "great") j p2) p4) X.env) = eval (.Subscript (.Name x p) (.Constant (.str "great") j p2) p4) X.env := by rfl)
    (hfew : ((backTo cpos (starEach [(.Constant (.int 0) jj p3 : Expr)] X.env)).all (fun x => !x.1) && (backToKw cpos (keywordEach [] X.env)).all (fun x => x.1.isSome) && decide ([(.Constant (.int 0) jj p3 : Expr)].length + ([] : List Keyword).length + (if ([] : List Keyword).isEmpty then 0 else 1) < 30)) = true := by rfl)
    (hline : (apos.endLine == cpos.line) = true := by rfl) (hplain : (backTo cpos (starEach [] X.env)).any (·.1) = false := by rfl) :
    DE X E (.Call (.Attribute (.Subscript (.Name x p) (.Constant (.str "great") j p2) p4) "pop" apos) [.Constant (.int 0) jj p3] [] cpos) (gRsPop i) :=
  (pe_bm PySem.F.plainAttrs_list PySem.F.slot_list_pop PySem.F.type_list_pop mt_popAt (pe_rs key_gr r0 hN hv hd hcd) (pa_cons pe_int pa_nil hs) hbase hfew hline hs hplain).imp fun σ H Q ⟨G, s, r, h⟩ => by
    unfold gRsPop at h
    cases q : rsOf i s with
    | none => rw [q] at h; exact h.elim
    | some y =>
      rw [q] at h
      dsimp only at h
      obtain ⟨e1, z⟩ := r.rsAt q
      cases q2 : y.gr with
      | nil => rw [q2] at h; exact h.elim
      | cons g t =>
        rw [q2] at h
        have zg := z.g
        rw [q2] at zg
        refine ⟨y, e1, z.d, .inl ⟨rfl, _, .of zg⟩, y.sg, (g :: t).map V.int, 0, 0, .int g, rfl, rfl, zg, by omega, by omega, by rw [List.length_map, List.length_cons]; unfold seqIndex?; simp, rfl, ?_⟩
        exact h _ _ G (.refl G) (r.popRs (gr := t) (rsOf_some q).2) (by show Den _ _ _ _; unfold Den; rfl)
theorem de_rsLen (r0 : Room k X.A) (i : Nat) (hg : Gl X "len") (hm : X.mg "len" = none) (hv0 : bootBuiltins "len" = some (.builtin "len")) (hN : X.N[i]? = some x := by rfl) (hv : Vis X.env.scope x := by first | exact Or.inl rfl | exact Or.inr (Or.inl rfl) | exact Or.inr (Or.inr rfl)) (hd : (x == ("__debug__" : Str)) = false := by decide) (hcd : (x == ("__classdict__" : Str)) = false := by decide)
    (hs : starEach [(.Subscript (.Name x p) (.Constant (.str "cells") j p2) p4 : Expr)] X.env = (false, eval (.Subscript (.Name x p) (.Constant (.str "cells") j p2) p4) X.env) :: starEach [] X.env := by rfl) (hpl : (backTo pos (starEach [] X.env)).any (·.1) = false := by rfl) :
    DE X E (.Call (.Name "len" p3) [.Subscript (.Name x p) (.Constant (.str "cells") j p2) p4] [] pos) (gRsLen i) :=
  (pe_callB call_len_seq hg hm hv0 (pa_cons (pe_rs key_ce r0 hN hv hd hcd) pa_nil hs) (by decide) (by decide) hs hpl).imp fun σ H Q ⟨G, s, r, h⟩ => by
    unfold gRsLen at h
    cases q : rsOf i s with
    | none => rw [q] at h; exact h.elim
    | some y =>
      rw [q] at h
      dsimp only at h
      obtain ⟨e1, z⟩ := r.rsAt q
      by_cases c : y.ce.length ≤ sizeLine
      · rw [if_pos c] at h
        refine ⟨y, e1, z.d, y.sc, y.ce.map V.int, rfl, .inl (.of z.c), ?_⟩
        rw [List.length_map]
        exact h _ H G (.refl G) r (by show Den _ _ _ _; unfold Den; rfl)
      · rw [if_neg c] at h; exact h.elim
theorem de_rsCell (r0 : Room k X.A) (i : Nat) (he : DE X E e ga) (hN : X.N[i]? = some x := by rfl) (hv : Vis X.env.scope x := by first | exact Or.inl rfl | exact Or.inr (Or.inl rfl) | exact Or.inr (Or.inr rfl)) (hd : (x == ("__debug__" : Str)) = false := by decide) (hcd : (x == ("__classdict__" : Str)) = false := by decide) (h1 : PlainIx e := by exact fun _ _ => rfl) :
    DE X E (.Subscript (.Subscript (.Name x p) (.Constant (.str "cells") j p2) p4) e pos) (gRsCel i ga) :=
  (pe_ix ix_list (pe_rs key_ce r0 hN hv hd hcd) he h1).imp fun σ H Q ⟨G, s, r, h⟩ => by
    unfold gRsCel at h
    cases q : rsOf i s with
    | none => rw [q] at h; exact h.elim
    | some y =>
      rw [q] at h
      dsimp only at h
      obtain ⟨e1, z⟩ := r.rsAt q
      refine ⟨y, e1, z.d, ?_⟩
      refine stepE ipE h r fun v H1 G1 a s1 l1 r1 ad h1 => ?_
      obtain ⟨d, e2, h2⟩ := stepPk ipE h1
      have dn := r1.peek ad e2
      cases d with
      | int n =>
        have := denH_int dn; subst this
        cases q2 : rsOf i s1 with
        | none => rw [q2] at h2; exact h2.elim
        | some y2 =>
          rw [q2] at h2
          dsimp only at h2
          obtain ⟨e3, z3⟩ := r1.rsAt q2
          by_cases c : y2.sc = y.sc
          · rw [if_pos c] at h2
            cases q3 : atI y2.ce n with
            | none => rw [q3] at h2; exact h2.elim
            | some w =>
              rw [q3] at h2
              exact ⟨y.sc, y2.ce.map V.int, n, .int w, rfl, rfl, by rw [← c]; exact .of z3.c, atI_map q3, h2 _ H1 G1 (.refl G1) r1 (by show Den _ _ _ _; unfold Den; rfl)⟩
          · rw [if_neg c] at h2; exact h2.elim
      | _ => exact h2.elim
end
end DL
end
section
namespace DL
open PySem PySem.Spec PyProof.Rows L2 PySem.W LamX
structure LamF (params : Arguments) (scope : Scope) (x : Str) : Prop where
  kind : scope.kind = .function
  co : scope.isCoroutine = false
  gen : scope.isGenerator = false
  loc : scope.names.lookup x = some .local
  own : ∀ y ∈ scope.names, y.2 ≠ .cell ∧ y.2 ≠ .free
  bind : ∀ (q : Str) (body : Expr) (cl : List (Str × Addr)) (pm cdv ct v : Value), bindArgs (kla_fn "<lambda>" q params body scope cl pm cdv ct) ⟨[v], []⟩ = pure [(x, v)]
end DL
end
section
namespace DL
open PySem PySem.Spec PyProof.Rows L2
theorem sqL_upd {K : PySem.W.Frag} {H : Hp} {a D : Addr} {xs : List V} {o : HO} (h : SqL K H a xs) (hD : H D = none) : SqL K (upd H D o) a xs :=
  h.ext fun b u e => by rw [upd_ne (ne_of_none e hD)]; exact e
theorem tlc_ints {K : PySem.W.Frag} {a : Addr} {ns : List Int} {tt : TT} {te : TE} {σ : St} {H : Hp} {Q : VK} (b : Int → Bool) (f : Int → Int) (hv : σ[0]? = some (some (.ref a))) (hS : SqL K H a (ns.map V.int)) (hl : ns.length < sizeLine)
    (ht : ∀ n H Q, Q (b n) H → tt ((σ.set 1 none).set 1 (some (.int n))) H Q) (he : ∀ n H Q, Q (.int (f n)) H → te ((σ.set 1 none).set 1 (some (.int n))) H Q)
    (hq : ∀ D, H D = none → Q (.ref D) (upd H D (.lst (((ns.filter b).map f).map V.int)))) : tLc (iList K (tVar 0)) (gName 1) tt te [1] σ H Q := by
  refine ⟨.ref a, hv, a, rfl, ⟨_, hS⟩, fun D hD => ?_⟩
  refine lc_list (K := K) (a := a) (xs := ns.map V.int) (Qd := Q (.ref D)) (fun i H' => H' = upd H D (.lst ((((ns.take i).filter b).map f).map V.int))) (by simp) (fun i H' _ e => by rw [e]; exact sqL_upd hS hD) (fun i x H' hx e => ?_) (fun H' e => ?_)
  · rw [List.getElem?_map] at hx
    obtain ⟨n, hn, rfl⟩ := Option.map_eq_some_iff.mp hx
    have tk : ns.take (i + 1) = ns.take i ++ [n] := by rw [List.take_add_one, hn]; rfl
    have lt : i < ns.length := (List.getElem?_eq_some_iff.mp hn).1
    have lf : (((ns.take i).filter b).map f).length ≤ ns.length := by
      rw [List.length_map]
      exact Nat.le_trans (List.length_filter_le _ _) (by rw [List.length_take]; omega)
    refine ⟨by simp [wipe], ht n _ _ ?_⟩
    subst e
    cases hb : b n with
    | true =>
      rw [if_pos rfl]
      refine he n _ _ ⟨_, upd_same, by rw [List.length_map]; omega, ?_⟩
      rw [tk, upd_upd]
      simp [List.filter_append, hb]
    | false =>
      rw [if_neg (by simp)]
      rw [tk]
      simp [List.filter_append, hb]
  · rw [e, List.length_map, List.take_length]
    exact hq D hD
def endH (K : PySem.W.Frag) (a : Addr) (us : Array Value) (ns : List Int) (ts : List Addr) : Hp := fun b => if b = a then (match K.lookup a with
  | none => some (.frz { cls := .type "list", data := .seq us } (.lst (ns.map V.int)))
  | some _ => none) else if b ∈ ts then some (.tbl #[]) else none
section
variable {P : Program} {w : World} {K : PySem.W.Frag} {mg mb : Str → Option Value} {k : Nat} {fa a : Addr} {cs : List (Addr × Addr)} {fd : FuncData} {x : Str} {sp : Sp} {s0 : Shared} {us : List Value} {ns : List Int}
theorem endH_a : endH K a us.toArray ns (cs.map (·.2)) a = (match K.lookup a with
    | none => some (.frz { cls := .type "list", data := .seq us.toArray } (.lst (ns.map V.int)))
    | some _ => none) := if_pos rfl
theorem endH_t {b : Addr} (n : b ≠ a) (m : b ∈ cs.map (·.2)) : endH K a us.toArray ns (cs.map (·.2)) b = some (.tbl #[]) := (if_neg n).trans (if_pos m)
theorem endH_n {b : Addr} (n : b ≠ a) (m : b ∉ cs.map (·.2)) : endH K a us.toArray ns (cs.map (·.2)) b = none := (if_neg n).trans (if_neg m)
theorem law_callG (inK : K.In s0.heap) (nsG : s0.heap.Ns mainGlobals mg) (nsB : s0.heap.Ns builtinsNs mb) (bB : ∀ x : Str, x ≠ "__name__" → mb x = bootBuiltins x) (noL : s0.heap.NoLimit) (noG : s0.gens = #[])
    (tE : ∀ p ∈ cs, s0.heap.get? p.2 = some { cls := .none, data := .fields #[] }) (tK : ∀ p ∈ cs, K.lookup p.2 = none) (tC : ∀ p ∈ cs, PySem.W.CodeHd s0.heap p.1 p.2)
    (bmH : ∃ (bm : Addr) (ob : Obj), mg "__builtins__" = some (.ref bm) ∧ bm ≠ builtinsNs ∧ s0.heap.get? bm = some ob ∧ ob.cls = .type "module" ∧ ob.dict = some builtinsNs ∧ ob.data = .plain)
    (sA : s0.heap.get? a = some { cls := .type "list", data := .seq us.toArray }) (sI : IntsAre us ns) (sL : ns.length ≤ sizeLine) (room : Room k callerA)
    (run : ∀ base : Heap, K.In base → base.Ns mainGlobals mg → (∀ p ∈ cs, LamX.TabB base mg p.1 p.2) → FnG P w K mg base (L2.CX P w) k fa fd [x] sp) (bind : ∀ (s : Shared) (u : Value), BindsTo s fd ⟨[u], []⟩ [(x, u)])
    (pr : ∀ H : Hp, (∀ p ∈ cs, H p.2 = some (.tbl #[])) → SqL K H a (ns.map V.int) → sp [.ref a] H (fun v _ => v = .bl true) fun _ _ _ => False)
    (noX : ∀ H e s', L2.CX P w [] H s0 (fun _ _ _ => False) e s' → False) :
    codeAny (model P w) callerA (.call (.ref fa) ⟨[.ref a], []⟩) (fun r s' => r = .ok (.ret (.bool true)) ∧ OldK s0.heap s'.heap ∧ s'.os = s0.os ∧ AllBare s'.gens) s0 := by
  have valsI := vals_ints sI
  have lenI := sI.length
  have tabAt : ∀ {b : Addr}, b ∈ cs.map (·.2) → s0.heap.get? b = some { cls := .none, data := .fields #[] } := fun {b} hb => by
    obtain ⟨q, hq, rfl⟩ := List.mem_map.mp hb
    exact tE q hq
  have inT : ∀ q ∈ cs, q.2 ∈ cs.map (·.2) := fun q hq => List.mem_map_of_mem hq
  have notA : ∀ {b : Addr}, b ∈ cs.map (·.2) → b ≠ a := fun {b} hb z => by
    have y := tabAt hb
    rw [z, sA] at y
    have y' : Data.seq us.toArray _ = Data.fields #[] := congrArg Obj.data (Option.some.inj y)
    cases y'
  let H := endH K a us.toArray ns (cs.map (·.2))
  have hA := endH_a (K := K) (a := a) (us := us) (ns := ns) (cs := cs)
  have Hcase : ∀ b, H b = none ∨ (b = a ∧ K.lookup a = none ∧ H b = some (.frz { cls := .type "list", data := .seq us.toArray } (.lst (ns.map V.int)))) ∨ (b ∈ cs.map (·.2) ∧ H b = some (.tbl #[])) := fun b => by
    by_cases e : b = a
    · subst e
      cases q : K.lookup b with
      | none => rw [q] at hA; exact .inr (.inl ⟨rfl, rfl, hA⟩)
      | some o => rw [q] at hA; exact .inl hA
    · by_cases m : b ∈ cs.map (·.2)
      · exact .inr (.inr ⟨m, endH_t e m⟩)
      · exact .inl (endH_n e m)
  have Hnone : ∀ {b : Addr} {o : Obj}, s0.heap.get? b = some o → (∀ v n, o.data ≠ .seq v n) → o.data ≠ .fields #[] → H b = none := fun {b o} e n1 n2 => by
    rcases Hcase b with h | ⟨rfl, _, _⟩ | ⟨m, _⟩
    · exact h
    · rw [sA] at e; cases e; exact (n1 _ _ rfl).elim
    · rw [tabAt m] at e; cases e; exact (n2 rfl).elim
  have keepB : ∀ {b : Addr} {o : Obj}, s0.heap.get? b = some o → H b = none → (hidT s0.heap H).get? b = some o := fun e n => hidT_get e n
  have nsKeep : ∀ {b : Addr} {m : Str → Option Value}, s0.heap.Ns b m → (hidT s0.heap H).Ns b m := fun {b m} ⟨o, es, ep, e, d, r⟩ =>
    ⟨o, es, ep, keepB e (Hnone e (fun v n z => by rw [d] at z; cases z) fun z => by rw [d] at z; cases z), d, r⟩
  have inB : K.In (hidT s0.heap H) := fun b o e => keepB (inK b o e) (by
    rcases Hcase b with h | ⟨rfl, kn, _⟩ | ⟨m, _⟩
    · exact h
    · rw [kn] at e; cases e
    · obtain ⟨q, hq, rfl⟩ := List.mem_map.mp m
      rw [tK q hq] at e; cases e)
  have okH : HOk P w H s0.heap := fun b u z => by
    rcases Hcase b with h | ⟨rfl, _, h⟩ | ⟨m, h⟩
    · rw [z] at h; cases h
    · rw [z] at h; cases h
      exact ⟨sA, by rw [List.length_map]; exact sL, us, _, valsI, sA⟩
    · rw [z] at h; cases h
      exact tabAt m
  have sqA : SqL K H a (ns.map V.int) := by
    cases q : K.lookup a with
    | none => rw [q] at hA; exact .inl (.inr ⟨_, hA⟩)
    | some o =>
      have e := inK a o q
      rw [sA] at e; cases e
      exact .inr ⟨_, us.toArray, _, q, rfl, rfl, rfl, by rw [List.size_toArray, lenI]; exact sL, by simpa using valsI⟩
  have tabB : ∀ p ∈ cs, LamX.TabB (hidT s0.heap H) mg p.1 p.2 := fun p hp => by
    have tp := tE p hp
    refine ⟨?_, ?_, fun z => ?_⟩
    · obtain ⟨o, vs, file, tf, flags, tg, inF, text, tt, c1, c2, c3, c4, c5, c6, c7, c8, c9, c10⟩ := tC p hp
      refine ⟨o, vs, file, tf, flags, tg, inF, text, tt, keepB c1 (Hnone c1 (fun v n z => ?_) fun z => ?_), c2, c3, c4, c5, c6, c7, c8, c9, c10⟩
      · rw [c3] at z; cases z
      · rw [c3] at z; cases z; simp at c4
    · obtain ⟨bm, ob, b1, b2, b3, b4, b5, b6⟩ := bmH
      refine ⟨bm, ob, b1, b2, fun q => ?_, fun q => ?_, keepB b3 (Hnone b3 (fun v n z => ?_) fun z => ?_), b4, b5, b6⟩
      · obtain ⟨o, es, ep, e, hd, _⟩ := nsG
        rw [q, e] at b3; cases b3
        rw [hd] at b6; cases b6
      · rw [q, tp] at b3; cases b3; cases b6
      · rw [b6] at z; cases z
      · rw [b6] at z; cases z
    · obtain ⟨o, es, ep, e, hd, _⟩ := nsG
      rw [z, tp] at e; cases e; cases hd
  have modB : L2.Mod K mg (hidT s0.heap H) := ⟨inB, nsKeep nsG, ⟨mb, nsKeep nsB, bB⟩, by obtain ⟨mc, l1, l2⟩ := noL; exact ⟨mc, nsKeep l1, l2⟩⟩
  have env0 : Env0 P w K mg (hidT s0.heap H) callerA [] s0 H := ⟨rfl, modB, fun b o e => of_hidT e, Nat.le_of_eq (hidT_size _ _), trivial, fun b hb => absurd (show b ∈ ([] : List Addr) from hb) (by simp), okH, .of_eq noG⟩
  refine codeAny_mono ((run _ inB (nsKeep nsG) tabB).run callerA [] s0 H ⟨[.ref a], []⟩ [.ref a] [.ref a] _ _ room rfl env0 (bind s0 (.ref a)) (.cons rfl .nil) (pr H (fun p hp => endH_t (notA (inT p hp)) (inT p hp)) sqA)) fun r s' h => ?_
  cases r with
  | error e => exact (noX H e s' h).elim
  | ok fl =>
    cases fl with
    | next => exact False.elim h
    | brk => exact False.elim h
    | cont => exact False.elim h
    | ret u =>
      obtain ⟨v, H', hos, hba, un, okH', hr, hv⟩ := h
      have hv' : v = .bl true := hv
      subst hv'
      obtain rfl : u = Value.bool true := hr
      have same : ∀ b o, b ∉ cs.map (·.2) → s0.heap.get? b = some o → s'.heap.get? b = some o := fun b o nb e => by
        rcases Hcase b with h | ⟨rfl, _, h⟩ | ⟨m, _⟩
        · exact un.keep b o e h (by intro z; exact absurd (show b ∈ ([] : List Addr) from z) (by simp)) (by simp)
        · obtain ⟨e2, _⟩ := okH' b _ (un.frzs b _ _ h)
          rw [sA] at e; cases e
          exact e2
        · exact absurd m nb
      have more : ∀ p ∈ cs, ∃ z : Array Value, s'.heap.get? p.2 = some { cls := .none, data := .fields z } := fun p hp => by
        obtain ⟨z, hz⟩ := un.tbls p.2 #[] (endH_t (notA (inT p hp)) (inT p hp))
        exact ⟨_, okH' p.2 _ hz⟩
      refine ⟨rfl, ⟨fun b o e => ?_, fun b o e => ?_⟩, hos, hba⟩
      · by_cases hb : b ∈ cs.map (·.2)
        · obtain ⟨p, hp, rfl⟩ := List.mem_map.mp hb
          obtain ⟨z, hz⟩ := more p hp
          rw [tE p hp] at e; cases e
          exact .inr (.inl ⟨((tC p hp).tab (tE p hp)).isCodeTable, rfl, #[], z, rfl, by rw [Array.empty_append]; exact hz⟩)
        · exact .inl (same b o hb e)
      · by_cases hb : b ∈ cs.map (·.2)
        · obtain ⟨p, hp, rfl⟩ := List.mem_map.mp hb
          obtain ⟨z, hz⟩ := more p hp
          exact ⟨_, hz⟩
        · exact ⟨o, same b o hb e⟩
end
def LawG (l : PySem.W.OpenLaw) (w : World) (K : PySem.W.Frag) (k n : Nat) (x : Str) (mg : Str → Option Value) (fa : Addr) (h : Heap) : Prop :=
  ∃ (fd : FuncData) (cs : List (Addr × Addr)) (sp : Sp), (∀ p ∈ cs, h.get? p.2 = some { cls := .none, data := .fields #[] }) ∧ (∀ p ∈ cs, K.lookup p.2 = none) ∧ (∀ p ∈ cs, PySem.W.CodeHd h p.1 p.2) ∧ (∀ (s : Shared) (u : Value), BindsTo s fd ⟨[u], []⟩ [(x, u)]) ∧
    (∀ (H : Hp) (a : Addr) (ns : List Int), ns.length ≤ n → (∀ p ∈ cs, H p.2 = some (.tbl #[])) → SqL K H a (ns.map V.int) → sp [.ref a] H (fun v _ => v = .bl true) fun _ _ _ => False) ∧
    ∀ base : Heap, K.In base → base.Ns mainGlobals mg → (∀ p ∈ cs, LamX.TabB base mg p.1 p.2) → FnG l.prog w K mg base (L2.CX l.prog w) k fa fd [x] sp
theorem walk_ofG {l : PySem.W.OpenLaw} {n k : Nat} {q : Program} {loose : List Str} {XP : (Str → Option Value) → Heap → Prop} {YP : World → Heap → Prop} {d : DefRec} {x : Str}
    (hn : l.most = some n) (hn2 : n ≤ sizeLine) (hdf : d.params.defaults = []) (room : Room k callerA)
    (F : ∀ (w : World) (mg : Str → Option Value) (fa : Addr) (h : Heap), YP w h → h.Ns mainGlobals mg → mg d.name = some (.ref fa) → ∃ K : PySem.W.Frag, K.In h ∧ LawG l w K k n x mg fa h)
    (noX : ∀ (w : World) (H : Hp) (s : Shared) (e : Value) (s' : Shared), L2.CX l.prog w [] H s (fun _ _ _ => False) e s' → False) :
    PySem.W.WalkO q loose XP YP l.row.toRowW d [] (fun f vs => PySem.call f vs) :=
  Att.attach_callB hn hdf fun w _ s1 mg mb fa _ _ _ _ a us ns G Y _ _ _ hmg hobj hints hlen _ hg => by
    obtain ⟨K, inK, fd, cs, sp, t1, t2, t3, hb, hsp, hF⟩ := F w mg fa _ Y G.T.g hmg
    exact law_callG inK G.T.g G.T.b G.T.builtins G.T.nolimit hg t1 t2 t3 G.T.bmain hobj hints (Nat.le_trans hlen hn2) room hF hb (fun H tH sH => hsp H a ns hlen tH sH) fun H e s' => noX w H s1 e s'
end DL
end
section
namespace DL
open PySem PySem.Spec PyProof.Rows L2
def absI (n : Int) : Int := if n < 0 then -n else n
def greatOf (ns : List Int) : List Int := (ns.filter fun n => decide (10 ^ 18 ≤ absI n)).map fun n => absI n / 10 ^ 18
def cellsOf (ns : List Int) : List Int := (ns.filter fun _ => true).map fun n => absI n % 10 ^ 18
def begunH (H : Hp) (g p c : Addr) (gr ce : List Int) : Hp := upd (upd (upd (upd H g (.lst (gr.map V.int))) p (.dK [])) c (.lst (ce.map V.int))) p (rsDict ⟨p, g, c, 0, gr, ce, 0, [], [], []⟩)
structure Begun (H : Hp) (g p c : Addr) (gr ce : List Int) : Prop where
  ag : H g = none
  ap : upd H g (.lst (gr.map V.int)) p = none
  ac : upd (upd H g (.lst (gr.map V.int))) p (.dK []) c = none
def spBegun (K : PySem.W.Frag) : Sp := fun vs H Q _ => ∃ (a : Addr) (ns : List Int), vs = [.ref a] ∧ SqL K H a (ns.map V.int) ∧ ns.length ≤ 63 ∧ ∀ g p c, Begun H g p c (greatOf ns) (cellsOf ns) → Q (.ref p) (begunH H g p c (greatOf ns) (cellsOf ns))
section
variable {H : Hp} {g p c : Addr} {gr ce : List Int}
theorem Begun.pg (b : Begun H g p c gr ce) : p ≠ g := fun e => by
  have y := b.ap
  rw [e, upd_same] at y; cases y
theorem Begun.cp (b : Begun H g p c gr ce) : c ≠ p := fun e => by
  have y := b.ac
  rw [e, upd_same] at y; cases y
theorem Begun.cg (b : Begun H g p c gr ce) : c ≠ g := fun e => by
  have y := b.ac
  rw [e, upd_ne b.pg.symm, upd_same] at y; cases y
theorem Begun.p0 (b : Begun H g p c gr ce) : H p = none := (upd_ne b.pg).symm.trans b.ap
theorem Begun.c0 (b : Begun H g p c gr ce) : H c = none := (upd_ne b.cg).symm.trans ((upd_ne b.cp).symm.trans b.ac)
theorem Begun.atP : begunH H g p c gr ce p = some (rsDict ⟨p, g, c, 0, gr, ce, 0, [], [], []⟩) := upd_same
theorem Begun.atG (b : Begun H g p c gr ce) : begunH H g p c gr ce g = some (.lst (gr.map V.int)) := by
  unfold begunH
  rw [upd_ne b.pg.symm, upd_ne b.cg.symm, upd_ne b.pg.symm, upd_same]
theorem Begun.atC (b : Begun H g p c gr ce) : begunH H g p c gr ce c = some (.lst (ce.map V.int)) := by
  unfold begunH
  rw [upd_ne b.cp, upd_same]
theorem Begun.at_ (b : Begun H g p c gr ce) {a : Addr} {o : HO} (h : H a = some o) : begunH H g p c gr ce a = some o := by
  unfold begunH
  rw [upd_ne (ne_of_none h b.p0), upd_ne (ne_of_none h b.c0), upd_ne (ne_of_none h b.p0), upd_ne (ne_of_none h b.ag)]
  exact h
def frzOf (H : Hp) : Hp := fun a => match H a with
  | some (.frz o u) => some (.frz o u)
  | _ => none
theorem frzOf_at {a : Addr} {o : HO} (h : frzOf H a = some o) : H a = some o := by
  unfold frzOf at h
  split at h
  · rename_i e; rw [e]; exact h
  · cases h
end
section
variable {K : PySem.W.Frag}
theorem propB_ok {C f : Str} (h : propB K C f = true) : PropOf K (He.ga K C) f (He.ma K (He.ga K C) f) (He5.wf K (He.ga K C) "property" f) := by
  obtain ⟨h1, h⟩ := He.ba h
  obtain ⟨h2, h⟩ := He.ba h
  obtain ⟨h3, h4⟩ := He.ba h
  refine ⟨He.eqO_ok h1, He.eqO_ok h2, of_decide_eq_true h3, ?_⟩
  unfold He5.wf
  split at h4
  · rename_i a r e
    exact ⟨r, by rw [e]⟩
  · cases h4
theorem ownB_ok {C : Str} (hc : Cls K (He.ga K C)) (h : ownB K C = true) : OwnTy K C := by
  obtain ⟨h1, h⟩ := He.ba h
  obtain ⟨h2, h⟩ := He.ba h
  obtain ⟨h3, h4⟩ := He.ba h
  exact ⟨hc, He.eqO_ok h1, He.eqO_ok h2, of_decide_eq_true h3, of_decide_eq_true h4⟩
theorem sysB_ok (h : sysB K = true) : SysD K := by
  unfold sysB at h
  split at h
  · rename_i o e
    exact ⟨o, e, of_decide_eq_true h⟩
  · cases h
theorem notB_ok {t c : Value} (h : notB K t c = true) : PySem.W.kitOne K t c = some false := of_decide_eq_true h
end
end DL
namespace DL
theorem greatOf_pos (ns : List Int) : ∀ z ∈ greatOf ns, 1 ≤ z := fun z h => by
  unfold greatOf at h
  obtain ⟨n, hn, rfl⟩ := List.mem_map.mp h
  have := of_decide_eq_true (List.mem_filter.mp hn).2
  exact (Int.le_ediv_iff_mul_le (by decide)).mpr (by rw [Int.one_mul]; exact this)
theorem cellsOf_lt (ns : List Int) : ∀ z ∈ cellsOf ns, 0 ≤ z ∧ z < 10 ^ 18 := fun z h => by
  unfold cellsOf at h
  obtain ⟨n, hn, rfl⟩ := List.mem_map.mp h
  exact ⟨Int.emod_nonneg _ (by decide), Int.emod_lt_of_pos _ (by decide)⟩
theorem greatOf_len (ns : List Int) : (greatOf ns).length ≤ ns.length := by unfold greatOf; rw [List.length_map]; exact List.length_filter_le _ _
theorem cellsOf_len (ns : List Int) : (cellsOf ns).length ≤ ns.length := by unfold cellsOf; rw [List.length_map]; exact List.length_filter_le _ _
end DL
end
section
namespace L2
open PySem PySem.Spec PyProof.Rows PySem.W
def spX (K : PySem.W.Frag) (C : Addr) (f : Str) : Sp := fun vs H Q E => ∃ a v, vs = [.ref a, v] ∧ H a = some (exo a C none) ∧ ∀ d, H d = none → d ≠ a → Q .non (upd (upd H d (exd d [(f, v)])) a (exo a C (some d)))
end L2
end
section
namespace DL
open PySem PySem.Spec PyProof.Rows L2
section
variable {X : Cx} {E : XK} {x c f : Str} {e : Expr} {ge : M A} {p p3 pos : Pos} {k : Nat} {fd : FuncData} {ps : List Str} {fI : Addr}
structure ExcK (X : Cx) (c f : Str) (k : Nat) (fI : Addr) (fd : FuncData) (ps : List Str) : Prop where
  T : OexC X.K (He.ga X.K c)
  iC : PySem.W.findIn X.K (.ref (He.ga X.K c)) "__init__" = some (some (.ref fI))
  tI : PySem.W.typeIn X.K (.ref fI) = some (.type "function")
  F : FnOk X.prog X.w X.K X.mg X.base (L2.CX X.prog X.w) k fI fd ps (spX X.K (He.ga X.K c) f)
  hb : L2.Binds X.K fd ps []
end
end DL
end
section
namespace DL
open PySem PySem.Spec PyProof.Rows L2 PySem.W LamX
inductive TO where
  | ok (d : D) | exc (c : Str) (fs : Option (List (Str × D)))
end DL
end
section
namespace DL
open PySem PySem.Spec PyProof.Rows L2 PySem.W
structure ExI (K : PySem.W.Frag) (C f : Addr) (n : Str) : Prop where
  T : OexC K C
  iC : findIn K (.ref C) "__init__" = some (some (.ref f))
  tI : typeIn K (.ref f) = some (.type "function")
  no : findIn K (.ref C) n = some none
structure CIn (K : PySem.W.Frag) (C : Addr) : Prop where
  g : specialIn K (.ref C) "__getattribute__" = some (some (.builtin "type.__getattribute__"))
  r : readsIn K C (.type "type") = true
  f : findCls K (.ref C) (.type "type") "__init__" = some (.val (.builtin "ValueError.__init__"))
theorem kitB_ok {K : PySem.W.Frag} {D : Addr} {cv : Value} {b : Bool} (h : kitB K D cv b = true) : kitOne K (.ref D) cv = some b := of_decide_eq_true h
end DL
end
section
namespace DL
open PySem PySem.Spec PyProof.Rows L2 PySem.W LamX
section
variable {H : Hp} {g p c : Addr} {gr ce : List Int}
theorem begun_relT {K : PySem.W.Frag} {σ : St} {n : Nat} {qs : List Str} (b : Begun H g p c gr ce) (ht : ∀ q ∈ qs, H (tabQ K q) = some (.tbl #[])) (hu : ∀ q ∈ qs, ∀ q' ∈ qs, tabQ K q = tabQ K q' → q = q') (h1 : σ[1]? = some (some (.ref p))) (hn : σ.length = n + 2) :
    Rel K ⟨frzOf (begunH H g p c gr ce), fun _ => False, fun _ => none⟩ σ (begunH H g p c gr ce) ⟨.no :: .fr (.adr p) :: List.replicate n .no, some ⟨p, g, c, 0, gr, ce, 0, qs.map fun q => (tabQ K q, q), [], []⟩, none⟩ where
  x := {
    fx := fun a o h => frzOf_at h
    hs := fun a o h => by cases h
    ba := fun a o u h => by cases h
    dm := fun a h => h.elim
    dh := fun a h => h.elim
    lo := fun a ob u h _ => by show frzOf _ a = _; unfold frzOf; rw [h]
    rs := by
      refine (show RsAt K _ _ _ from ⟨Begun.atP, b.atG, b.atC, fun q hq => ?_, fun a h => ⟨rfl, ?_, fun z => z⟩, b.cg.symm, fun q hq => ?_, fun q hq q' hq' e => ?_, fun _ _ e => (by cases e), fun _ _ e => (by cases e), fun _ _ e => nomatch e⟩)
      · obtain ⟨z, hz, rfl⟩ := List.mem_map.mp hq
        exact ⟨#[], b.at_ (ht z hz), trivial, fun pos cv z => by cases z⟩
      · show frzOf _ a = none
        unfold frzOf
        rcases h with h | h | h | ⟨q, h⟩
        · rw [h, Begun.atP]; rfl
        · rw [h, b.atG]
        · rw [h, b.atC]
        · obtain ⟨z, hz, e⟩ := List.mem_map.mp h
          rw [← (Prod.mk.inj e).1, b.at_ (ht z hz)]
      · obtain ⟨z, hz, rfl⟩ := List.mem_map.mp hq
        rfl
      · obtain ⟨z, hz, rfl⟩ := List.mem_map.mp hq
        obtain ⟨z', hz', rfl⟩ := List.mem_map.mp hq'
        exact hu z hz z' hz' e }
  fr := fun i d h => by
    match i, h with
    | 0, h => cases h
    | 1, h => cases h; exact ⟨_, h1, by unfold Den; rfl⟩
    | i + 2, h =>
      have h' : (List.replicate n Sl.no)[i]? = some (.fr d) := h
      have := List.mem_of_getElem? h'
      rw [List.mem_replicate] at this
      exact absurd this.2 (by simp)
  ow := fun i d h => by
    match i, h with
    | 0, h => cases h
    | 1, h => cases h
    | i + 2, h =>
      have h' : (List.replicate n Sl.no)[i]? = some (.ow d) := h
      have := List.mem_of_getElem? h'
      rw [List.mem_replicate] at this
      exact absurd this.2 (by simp)
  ap := fun i j d e q h _ _ _ => by
    match i, h with
    | 0, h => cases h
    | 1, h => cases h
    | i + 2, h =>
      have h' : (List.replicate n Sl.no)[i]? = some (.ow d) := h
      have := List.mem_of_getElem? h'
      rw [List.mem_replicate] at this
      exact absurd this.2 (by simp)
  ln := by simp [hn]
  me := trivial
end
end DL
end
section
namespace DL
open PySem PySem.Spec PyProof.Rows L2
theorem noFrz_mut {o : HO} (h : MutO o) : NoFrz o := by cases o <;> first | trivial | exact h.elim
def PostSF (K : PySem.W.Frag) (E : XK) (G : Gh) (Q : VK) : R D → Prop
  | .ok d s => ∀ p o H' G', G.le G' → RelX K G' H' s.rs → H' p = some o → MutO o → DenO K G'.Hs d o → G'.Hs p = none → G'.Fx p = none → ¬ G'.Dm p → RsNe s.rs p → Q (.ref p) H'
  | .exc c fs s => PostX K E G c fs s.rs
  | .bad => False
theorem PostSF.mono {K : PySem.W.Frag} {E : XK} {G G' : Gh} {Q : VK} {r : R D} (h : PostSF K E G Q r) (l : G.le G') : PostSF K E G' Q r := by
  cases r with
  | ok d s => exact fun p o H' G2 l2 => h p o H' G2 (l.trans l2)
  | exc c fs s => exact PostX.mono h l
  | bad => exact h
def PostRF (K : PySem.W.Frag) (E : XK) (G : Gh) (Q : VK) : Rf → Prop
  | .ok d rs => ∀ p o H' G', G.le G' → RelX K G' H' rs → H' p = some o → MutO o → DenO K G'.Hs d o → G'.Hs p = none → G'.Fx p = none → ¬ G'.Dm p → RsNe rs p → Q (.ref p) H'
  | .exc c fs rs => PostX K E G c fs rs
  | .bad => False
def spDF (K : PySem.W.Frag) (n : Nat) (m : Mir) : Sp := fun vs H Q E => vs.length = n ∧ ∃ G ds rs, RelX K G H rs ∧ DenL K G.Hs ds vs ∧ PostRF K E G Q (m ds rs)
theorem spDF_of_spD {K : PySem.W.Frag} {n : Nat} {m : Mir} {vs : List V} {H : Hp} {Q : VK} {E : XK} (h : spD K n m vs H Q E) : spDF K n m vs H Q E := by
  obtain ⟨hn, G, ds, rs, x, dl, h⟩ := h
  refine ⟨hn, G, ds, rs, x, dl, ?_⟩
  cases q : m ds rs with
  | bad => rw [q] at h; exact h
  | exc c fs rs' => rw [q] at h; exact h
  | ok d rs' =>
    rw [q] at h
    intro p o H' G' l x' hp mu dn h1 h2 h3 h4
    exact h (.ref p) H' (G'.add p o) (l.trans (Gh.le_add h1)) (x'.join hp h1 h3 h4 (noFrz_mut mu)) (den_root (by show upd G'.Hs p o p = some o; exact upd_same) (dn.le (Le.upd h1)))
theorem _root_.DL.FnG.plain {P : Program} {w : World} {K : PySem.W.Frag} {mg : Str → Option Value} {base : Heap} {CX : CXT} {k : Nat} {f : Addr} {fd : FuncData} {ps : List Str} {n : Nat} {m : Mir} (F : FnG P w K mg base CX k f fd ps (spDF K n m)) : FnG P w K mg base CX k f fd ps (spD K n m) := F.imp fun _ _ _ _ => spDF_of_spD
end DL
end
section
namespace DL
open PySem PySem.Spec PyProof.Rows L2 PySem.W LamX
def FSet (c : Str) : TO → Rv
  | .exc c' none => if c' = c then .old (.bl true) else .no
  | _ => .no
end DL
end
section
namespace DL
open PySem PySem.Spec PyProof.Rows L2
section
variable {K : PySem.W.Frag} {x qual : Str} {params : Arguments} {body : List Stmt} {scope : Scope} {kws : List (Str × V)} {f : Addr} {fd : FuncData} {ps : List Str}
theorem bN1 (F : FunD K x qual params body scope [] kws f fd) (hl : ps.length = 1) (h : ∀ (kV doc pm : Value) (an : Option Addr) (cdv ct : Value) (a : Value), bindArgs (PySem.W.fnOf x qual params body scope .none kV doc pm an cdv ct) ⟨[a], []⟩ = pure (ps.zip [a])) : Binds K fd ps [] := F.bindsN fun kV doc pm an cdv ct us hu => match us, hu.trans hl with | [a], _ => h kV doc pm an cdv ct a
theorem bN2 (F : FunD K x qual params body scope [] kws f fd) (hl : ps.length = 2) (h : ∀ (kV doc pm : Value) (an : Option Addr) (cdv ct : Value) (a b : Value), bindArgs (PySem.W.fnOf x qual params body scope .none kV doc pm an cdv ct) ⟨[a, b], []⟩ = pure (ps.zip [a, b])) : Binds K fd ps [] := F.bindsN fun kV doc pm an cdv ct us hu => match us, hu.trans hl with | [a, b], _ => h kV doc pm an cdv ct a b
theorem bN3 (F : FunD K x qual params body scope [] kws f fd) (hl : ps.length = 3) (h : ∀ (kV doc pm : Value) (an : Option Addr) (cdv ct : Value) (a b c : Value), bindArgs (PySem.W.fnOf x qual params body scope .none kV doc pm an cdv ct) ⟨[a, b, c], []⟩ = pure (ps.zip [a, b, c])) : Binds K fd ps [] := F.bindsN fun kV doc pm an cdv ct us hu => match us, hu.trans hl with | [a, b, c], _ => h kV doc pm an cdv ct a b c
theorem bN4 (F : FunD K x qual params body scope [] kws f fd) (hl : ps.length = 4) (h : ∀ (kV doc pm : Value) (an : Option Addr) (cdv ct : Value) (a b c d : Value), bindArgs (PySem.W.fnOf x qual params body scope .none kV doc pm an cdv ct) ⟨[a, b, c, d], []⟩ = pure (ps.zip [a, b, c, d])) : Binds K fd ps [] := F.bindsN fun kV doc pm an cdv ct us hu => match us, hu.trans hl with | [a, b, c, d], _ => h kV doc pm an cdv ct a b c d
end
theorem items_inv {X : Cx} {pins : List (Addr × Obj)} {σ : L2.St} {H : Hp} {s : Shared} {hp : Heap} {tk : Nat} {ks : List (Key × V)} {ps : List (Key × Value)} {ac : Array Value} {c : Nat} {ts : List Addr}
    (I : Inv X pins σ H s) (small : ks.length ≤ sizeLine) (kv : KV ks ps)
    (keep : ∀ a u, s.heap.get? a = some u → hp.get? a = some u)
    (root : hp.get? s.heap.objs.size = some { cls := .type "list", dict := none, data := .seq ac c, slots := #[] })
    (many : ts.length = ps.length) (g : PySem.W.KdxG (mixKind X.prog X.w) ps s.heap.objs.size hp ts) (el : ac.toList = ts.map Value.ref) :
    H s.heap.objs.size = none ∧ (∀ t ∈ ts, H t = none) ∧ s.heap.objs.size ∉ ts ∧ ts.Nodup ∧
    Inv X pins σ (LiI.putT (upd H s.heap.objs.size (.lst (ts.map V.ref))) ts ks) { s with heap := hp, toks := tk } := by
  have same : ks.length = ps.length := Paired.length kv
  have nS : s.heap.objs.size ∉ ts := fun z => Nat.lt_irrefl _ (g.above _ z)
  have dis : ts.Nodup := List.Pairwise.imp (fun {a b} (z : a < b) => Nat.ne_of_lt z) g.rise
  have fresh : ∀ t ∈ ts, H t = none := fun t m => I.hok.fresh (Nat.le_of_lt (g.above t m))
  have fS : H s.heap.objs.size = none := I.hok.fresh (Nat.le_refl _)
  have here := LiI.putT_at ts ks (upd H s.heap.objs.size (.lst (ts.map V.ref))) (by omega) dis
  have away : ∀ a, a ∉ ts → a ≠ s.heap.objs.size → LiI.putT (upd H s.heap.objs.size (.lst (ts.map V.ref))) ts ks a = H a := fun a z1 z2 => by
    rw [LiI.putT_off ts ks _ z1, upd_ne z2]
  have old : ∀ a u, s.heap.get? a = some u → a ∉ ts ∧ a ≠ s.heap.objs.size := fun a u e =>
    ⟨fun z => absurd (Heap.lt_size e) (Nat.not_lt.mpr (Nat.le_of_lt (g.above a z))), Nat.ne_of_lt (Heap.lt_size e)⟩
  have stay : ∀ a u, H a = some u → (LiI.putT (upd H s.heap.objs.size (.lst (ts.map V.ref))) ts ks) a = some u := fun a u e => by
    have z1 : a ∉ ts := fun z => by rw [fresh a z] at e; cases e
    have z2 : a ≠ s.heap.objs.size := fun z => by rw [z, fS] at e; cases e
    rw [away a z1 z2, e]
  have rootT : LiI.putT (upd H s.heap.objs.size (.lst (ts.map V.ref))) ts ks s.heap.objs.size = some (.lst (ts.map V.ref)) := by rw [LiI.putT_off ts ks _ nS, upd_same]
  refine ⟨fS, fresh, nS, dis, ?_⟩
  refine I.call' (ch := []) rfl
    ⟨fun a u e _ _ _ => keep a u e, fun a u e _ _ _ => ⟨u.slots, keep a u e⟩, fun a u e n _ => ?_, fun a u e _ => ⟨u, keep a u e⟩,
      fun a _ e => stay a _ e, fun a _ _ e => stay a _ e, fun a _ e => ⟨#[], by rw [stay a _ e]; simp⟩⟩ (fun a u e => ?_) I.bare fun a z => by simp at z
  · rw [away a (old a u e).1 (old a u e).2]; exact n
  · by_cases inT : a ∈ ts
    · obtain ⟨j, pk, a1, a2, a3⟩ := LiI.paired_ix here inT
      rw [a3] at e
      cases e
      obtain ⟨key, k, x, b1, b2, b3⟩ := g.pairs j a a1
      obtain ⟨qv, c1, c2, c3⟩ := LiI.paired_get kv a2
      rw [b1] at c1
      cases c1
      have rk : RelV (kV pk.1) key := by rw [c2]; exact relV_key (show keyIs k key = true from b2)
      exact ⟨by show 2 ≤ sizeLine; decide, [key, x], .cons rk (.cons c3 .nil), _, b3, rfl, _, rfl⟩
    · by_cases isS : a = s.heap.objs.size
      · rw [isS] at e ⊢
        rw [rootT] at e
        cases e
        refine ⟨by rw [List.length_map]; omega, ac.toList, c, by rw [el]; exact LiI.vals_refs ts, ?_⟩
        rw [Array.toArray_toList]; exact root
      · rw [away a inT isS] at e
        exact (I.hok a u e).stay (fun d v _ y => keep d v y) (fun d y => stay d _ y) fun d xs y => stay d _ y
def rItX : V → Hp → VK → Prop := fun x H Q => ∃ (d : Addr) (ks : List (Key × V)), x = .ref d ∧ Rd H d (.dK ks) ∧
  ∀ (p : Addr) (ts : List Addr), H p = none → (∀ t ∈ ts, H t = none) → p ∉ ts → ts.Nodup → ts.length = ks.length → Q (.ref p) (LiI.putT (upd H p (.lst (ts.map V.ref))) ts ks)
section
variable {X : Cx} {E : XK} {e : Expr} {te : TE} {p apos cpos pos : Pos} {ga : M A}
theorem pe_itemsX (hc : X.calm = true) (he : PE X e te) (hg : Gl X "list") (hm : X.mg "list" = none) (hv : bootBuiltins "list" = some (.type "list"))
    (hbase : attributeBase e "items" X.env (eval e X.env) = eval e X.env := by rfl) (hline : (apos.endLine == cpos.line) = true := by rfl)
    (hs : starEach [.Call (.Attribute e "items" apos) [] [] cpos] X.env = (false, eval (.Call (.Attribute e "items" apos) [] [] cpos) X.env) :: starEach [] X.env := by rfl) :
    PE X (.Call (.Name "list" p) [.Call (.Attribute e "items" apos) [] [] cpos] [] pos) (fun σ H Q => te σ H fun x H1 => rItX x H1 Q) := by
  constructor
  intro pins s σ H Q I hq
  refine wpAny_Call_Name_kw (ld_blt I hg hm hv (PyProof.Rows.callWith_type1 ?_ hs rfl))
  rw [hs]
  show wpAny _ _ (spliced ((false, eval (.Call (.Attribute e "items" apos) [] [] cpos) X.env) :: backTo pos (starEach [] X.env))) _ _ s
  refine Calls.spliced_cons (wpAny_Call_method (T := "dict") (id := "dict.items") hbase rfl hline F.plainAttrs_dict F.slot_dict_items F.type_dict_items ?_)
  refine thn (he.run pins s σ H _ I hq) fun u s1 z => ?_
  obtain ⟨x, H1, I1, rx, d, ks, ex, hd, q⟩ := z
  subst ex
  obtain rfl : u = Value.ref d := rx
  have ob : ObjOk X.prog X.w H1 s1.heap d (.dK ks) := by
    rcases hd with hd | ⟨o, hd⟩
    · exact I1.hok d _ hd
    · exact (I1.hok d _ hd).2
  obtain ⟨hz, hs0, vs, kv, hdo⟩ := ob
  obtain ⟨ep, hat⟩ := hdo.dictAt
  have same : ks.length = vs.length := Paired.length kv
  refine ⟨hdo.typeIs, hdo.mapOf.noDict, ?_⟩
  show wpAny _ _ (callWith cpos (.builtin "dict.items") [.ref d] [] []) _ X.xe s1
  refine method_meetsIn F.slot_dict_items F.entry_dict_items rfl (PySem.evalArgs_none ⟨rfl, hdo.typeIs, F.args_dict_items_1 _, _, meets_dict_items (mixKind X.prog X.w) d hs0, ⟨vs, hdo⟩, ?_⟩)
  have I2 : Inv X pins σ H1 { s1 with heap := s1.heap.push { cls := .type "dict_items", data := .fields #[.ref d] } } :=
    I1.kept (t' := s1.toks) fun a b c => Heap.get?_push_of_some _ c
  refine Calls.spliced_nil (PySem.W.kdx_call (knd := mixKind X.prog X.w) (kvs := vs) (ep := ep) (I1.ok.hd hc) ⟨_, Heap.get?_push_size _ rfl, rfl, rfl⟩ (hat.push _) (by omega) ?_)
  intro h' tk acc c as hk hS hl hG hacc
  obtain ⟨k1, k2, k3, k4, J⟩ := items_inv (tk := tk) I2 hz kv hk hS hl hG hacc
  exact ⟨.ref _, _, J, rfl, q _ as k1 k2 k3 k4 (by omega)⟩
def itemsLD (ks : List (Key × D)) : List D := ks.map fun p => .tup [kD p.1, p.2]
theorem lay_items {K : PySem.W.Frag} {σ : St} {s : S} : ∀ (ts : List Addr) (kvs : List (Key × V)) (ks : List (Key × D)) {G : Gh} {H : Hp}, Rel K G σ H s → DenK K G.Hs ks kvs → ts.length = kvs.length → ts.Nodup → (∀ t ∈ ts, H t = none) →
    ∃ G2, G.le G2 ∧ Rel K G2 σ (LiI.putT H ts kvs) s ∧ DenL K G2.Hs (itemsLD ks) (ts.map V.ref)
  | [], kvs, ks, G, H, r, dk, hl, _, _ => by
    have e : kvs = [] := List.length_eq_zero_iff.mp hl.symm
    subst e
    have e2 : ks = [] := List.length_eq_zero_iff.mp (dk.len.symm)
    subst e2
    exact ⟨G, .refl G, r, .nil⟩
  | t :: ts, [], _, _, _, _, _, hl, _, _ => by cases hl
  | t :: ts, (k, v) :: kvs, ks, G, H, r, dk, hl, nd, fr => by
    cases ks with
    | nil => unfold DenK at dk; cases dk
    | cons kd ks =>
      obtain ⟨k', d⟩ := kd
      unfold DenK at dk
      obtain ⟨v', r', e, dv, dk⟩ := dk
      cases e
      have ht := fr t List.mem_cons_self
      obtain ⟨f1, f2, f3, f4⟩ := r.x.fresh ht
      have hl' := Gh.le_add (G := G) (p := t) (o := .tup [kV k, v]) f2
      have r1 : Rel K (G.add t (.tup [kV k, v])) σ (upd H t (.tup [kV k, v])) s := r.new ht trivial
      obtain ⟨G2, l2, r2, dl⟩ := lay_items ts kvs ks r1 (dk.le hl'.hs) (by simpa using hl) (List.nodup_cons.mp nd).2 fun u hu => by
        rw [upd_ne fun z : u = t => (List.nodup_cons.mp nd).1 (z ▸ hu)]
        exact fr u (List.mem_cons_of_mem _ hu)
      refine ⟨G2, hl'.trans l2, r2, .cons ?_ dl⟩
      refine Den.le l2.hs (den_root (o := .tup [kV k, v]) (by show upd G.Hs t _ t = _; exact upd_same) ⟨_, rfl, ?_⟩)
      exact .cons (den_kD k) (.cons (dv.le hl'.hs) .nil)
theorem putT_upd {p : Addr} {o : HO} : ∀ (ts : List Addr) (kvs : List (Key × V)) (H : Hp), p ∉ ts → LiI.putT (upd H p o) ts kvs = upd (LiI.putT H ts kvs) p o
  | [], _, _, _ => rfl
  | _ :: _, [], _, _ => rfl
  | t :: ts, q :: kvs, H, h => by
    have n : p ≠ t := fun z => h (z ▸ List.mem_cons_self)
    show LiI.putT (upd (upd H p o) t (.tup [kV q.1, q.2])) ts kvs = upd (LiI.putT (upd H t (.tup [kV q.1, q.2])) ts kvs) p o
    rw [← putT_upd ts kvs _ fun z => h (List.mem_cons_of_mem _ z)]
    congr 1
    funext b
    unfold upd
    by_cases e1 : b = t
    · rw [if_pos e1]
      by_cases e2 : b = p
      · exact absurd (e2.symm.trans e1) n
      · rw [if_neg e2, if_pos e1]
    · rw [if_neg e1]
      by_cases e2 : b = p
      · rw [if_pos e2, if_pos e2]
      · rw [if_neg e2, if_neg e2, if_neg e1]
def gListItems (ga : M A) : M D := bnd ga fun a => bnd (pk a) fun d => match d with
  | .dic ks => pur (.lst (itemsLD ks))
  | _ => bad
theorem df_listItems (hc : X.calm = true) (he : DE X E e ga) (hg : Gl X "list") (hm : X.mg "list" = none) (hv : bootBuiltins "list" = some (.type "list"))
    (hbase : attributeBase e "items" X.env (eval e X.env) = eval e X.env := by rfl) (hline : (apos.endLine == cpos.line) = true := by rfl)
    (hs : starEach [.Call (.Attribute e "items" apos) [] [] cpos] X.env = (false, eval (.Call (.Attribute e "items" apos) [] [] cpos) X.env) :: starEach [] X.env := by rfl) :
    DF X E (.Call (.Name "list" p) [.Call (.Attribute e "items" apos) [] [] cpos] [] pos) (gListItems ga) :=
  (pe_itemsX hc he hg hm hv hbase hline hs).imp fun σ H Q ⟨G, s, r, h⟩ => stepE ipF h r fun v H1 G1 a s1 l1 r1 ad h1 => by
    obtain ⟨d, e1, h2⟩ := stepPk ipF h1
    have dn := r1.peek ad e1
    cases d with
    | dic ks =>
      obtain ⟨p0, kvs, rfl, hd, dk⟩ := dn
      refine ⟨p0, kvs, rfl, hd, fun p ts hp ht hpt nd hl => ?_⟩
      obtain ⟨G2, l2, r2, dl⟩ := lay_items ts kvs ks r1 dk hl nd ht
      rw [putT_upd ts kvs H1 hpt]
      exact h2 p (.lst (ts.map V.ref)) _ G2 l2 r2 (by rw [LiI.putT_off ts kvs _ hpt]; exact hp) (den_lst dl) trivial
    | _ => exact h2.elim
end
end DL
end
section
namespace DL
open PySem PySem.Spec PyProof.Rows L2 PySem.W
abbrev veM : List Value := [.type "ValueError", .type "Exception", .type "BaseException", .type "object"]
structure Ex0 (K : PySem.W.Frag) (C : Addr) : Prop where
  ex : excIn K C veM "ValueError.__new__" = true
  kp : keepIn K (.ref C) = true
  su : subIn K (.ref C) (.type "BaseException") = some true
  ty : typeIn K (.ref C) = some (.type "type")
def isTupB : D → Bool
  | .tup _ => true
  | _ => false
def sortableE (ds : List D) : Prop := ds.all okD = true ∧ alikeB ds = true ∧ ds.all isTupB = true
instance {ds : List D} : Decidable (sortableE ds) := inferInstanceAs (Decidable (_ ∧ _ ∧ _))
def FNeL (d e : D) : Rv := match d, e with
  | .lst xs, .lst [] => .old (.bl (!xs.isEmpty))
  | _, _ => .no
theorem plain_nil {h : Heap} {a : Addr} (x : PlainL h a ([] : List Value).toArray) : Reads h (.ref a) (.list []) [a] := by
  obtain ⟨o, n, e, c, _, d⟩ := x
  exact Reads.list e c d .nil
section
variable {X : Cx} {k : Nat}
theorem r_neL (r : Room k X.A) : OpR X (compareOp .NotEq) (rD2 X.K FNeL) := opF (fun d e => by
    unfold FNeL
    split
    · exact rfl
    · trivial) fun pins s σ H Hs d e x y v u Q I hb hs h1 h2 rx ry q => by
  have hu := r.units
  cases d with
  | lst xs =>
    cases e with
    | lst ys =>
      cases ys with
      | nil =>
        have q' : RvPost X.K Hs H Q (.old (.bl (!xs.isEmpty))) := q
        unfold Den at h1 h2
        obtain ⟨a, vs, rfl, p1, q1⟩ := h1
        obtain ⟨b, ws, rfl, p2, q2⟩ := h2
        cases (show v = Value.ref a from rx)
        cases (show u = Value.ref b from ry)
        obtain ⟨its, r1, i1, _⟩ := I.list (.of (sub_raw hs p1 fun z => z))
        obtain ⟨jts, r2, i2, _⟩ := I.list (.of (sub_raw hs p2 fun z => z))
        have l1 := q1.len
        have l2 := q2.len
        have l3 := r1.length
        have l4 := r2.length
        have fin := rv_bl q'
        cases xs with
        | nil =>
          have e1 : its = [] := List.length_eq_zero_iff.mp (by have : ([] : List D).length = 0 := rfl; omega)
          have e2 : jts = [] := List.length_eq_zero_iff.mp (by have : ([] : List D).length = 0 := rfl; omega)
          subst e1 e2
          exact SeqAt.ne_plain (da := .list []) (db := .list []) (plain_nil i1) (plain_nil i2) rfl rfl (by simp [PyData.depth, PyData.depthAll]; omega) ⟨.bl _, H, I, rfl, fin⟩
        | cons z r =>
          exact SeqAt.RcNeAt.lists_lengths i1.isList i2.isList (by simp only [List.length_cons, List.length_nil] at l1 l2; simp only [List.size_toArray, bne_iff_ne, ne_eq]; omega) (by omega) X.prog X.w _ _ ⟨.bl _, H, I, rfl, fin⟩
      | cons y ys => exact q.elim
    | _ => exact q.elim
  | _ => exact q.elim
end
end DL
end
section
namespace DL
open PySem PySem.Spec PyProof.Rows L2
section
variable {X : Cx} {E : XK} {e : Expr} {te : TE} {p apos cpos pos : Pos} {ga : M A}
def valsLD (ks : List (Key × D)) : List D := ks.map (·.2)
def gListVals (ga : M A) : M D := bnd ga fun a => bnd (pk a) fun d => match d with
  | .dic ks => pur (.lst (valsLD ks))
  | _ => bad
end
end DL
end
section
namespace DL
open PySem PySem.Spec PyProof.Rows L2 PySem.W LamX
def XDenS (K : PySem.W.Frag) (Hs : Hp) (fs : Option (List (Str × D))) (od : Option Addr) : Prop := match fs with
  | none => od = none
  | some fs => ∃ d gs, od = some d ∧ Hs d = some (.xd gs) ∧ DenF K Hs fs gs
section
variable {K : PySem.W.Frag} {E : XK} {G : Gh} {σ : St} {H : Hp} {s : S} {Q : VK} {rf : Rf}
theorem xd_noRs {rs : Option Rs} (x : RelX K G H rs) {a : Addr} {gs : List (Str × V)} (h : H a = some (.xd gs)) : RsNe rs a := by
  intro r er y
  subst er
  have z : RsAt K G H r := x.rs
  rcases y with y | y | y | ⟨q, y⟩
  · rw [y, z.d] at h; cases h
  · rw [y, z.g] at h; cases h
  · rw [y, z.c] at h; cases h
  · obtain ⟨ps, h1, _⟩ := z.t _ y
    rw [h1] at h; cases h
theorem XDen.join {rs : Option Rs} {fs : Option (List (Str × D))} {od : Option Addr} (x : RelX K G H rs) (xd : XDen K G H fs od) : ∃ G', G.le G' ∧ RelX K G' H rs ∧ XDenS K G'.Hs fs od := by
  cases fs with
  | none => exact ⟨G, .refl G, x, xd⟩
  | some fs =>
    obtain ⟨d, gs, e, h1, h2, h3⟩ := xd
    cases q : G.Hs d with
    | none =>
      have l := Gh.le_add (G := G) (p := d) (o := .xd gs) q
      exact ⟨_, l, x.join h1 q h2.1 (xd_noRs x h1) trivial, d, gs, e, by show upd G.Hs d _ d = _; exact upd_same, h3.le l.hs⟩
    | some o =>
      refine ⟨G, .refl G, x, d, gs, e, ?_, h3⟩
      rcases x.hs d o q with h | ⟨_, ob, h⟩ | ⟨⟨k, h⟩, _⟩
      rotate_left 2
      · exact absurd ⟨k, by rw [← h]; exact q⟩ h2.2
      · rw [h1] at h; cases h; exact q
      · rw [h1] at h; cases h
end
end DL
end
section
namespace DL
open PySem PySem.Spec PyProof.Rows L2
def BindsSt (s : Shared) (fd : FuncData) (args : Args) (binds : List (Str × Value)) (pv : Str) (rest : List Value) : Prop :=
  ∀ (M : Model) (A : Around) (E : Value → Shared → Prop) (Q : List (Str × Value) → Shared → Prop), wpAny M A (newTuple rest >>= fun t => pure (binds ++ [(pv, t)])) Q E s → wpAny M A (bindArgs fd args) Q E s
structure FnS (P : Program) (w : World) (K : PySem.W.Frag) (mg : Str → Option Value) (base : Heap) (CX : CXT) (k : Nat) (f : Addr) (fd : FuncData) (ps : List Str) (pv : Str) (sp : Sp) : Prop where
  run : ∀ (A : Around) (outer : List Env) (s : Shared) (H : Hp) (args : Args) (us rest : List Value) (vs xs : List V) (Q : VK) (E : XK), Room k A → NoG A → Env0 P w K mg base A outer s H → BindsSt s fd args (ps.zip us) pv rest →
    Vals vs us → Vals xs rest → vs.length = ps.length → xs.length ≤ sizeLine → (∀ p, H p = none → sp (vs ++ [V.ref p]) (upd H p (.tup xs)) Q E) → codeAny (model P w) A (.call (.ref f) args) (CR CX outer P w H s Q E) s
theorem FnS.mono {P : Program} {w : World} {K : PySem.W.Frag} {mg : Str → Option Value} {base : Heap} {CX : CXT} {j k : Nat} {f : Addr} {fd : FuncData} {ps : List Str} {pv : Str} {sp : Sp} (F : FnS P w K mg base CX j f fd ps pv sp) (h : j ≤ k) : FnS P w K mg base CX k f fd ps pv sp :=
  ⟨fun A outer s H args us rest vs xs Q E hr => F.run A outer s H args us rest vs xs Q E (hr.mono h)⟩
structure SBn (K : PySem.W.Frag) (fd : FuncData) (ps : List Str) (pv : Str) (n : Nat) (ks : List Str) (g : List Value → List Value → List Value) (gV : List V → List V → List V) : Prop where
  to : ∀ (s : Shared) (us rest ws : List Value), K.In s.heap → us.length = n → ws.length = ks.length → BindsSt s fd ⟨us ++ rest, ks.zip ws⟩ (ps.zip (g us ws)) pv rest
  rel : ∀ {vs : List V} {us : List Value} {zs : List V} {ws : List Value}, Vals vs us → Vals zs ws → Vals (gV vs zs) (g us ws)
def tMethK (C : Addr) (mn : Str) (sp : Sp) (nk : Nat) (gV : List V → List V → List V) (E : XK) (ta : TE) (tk : TA) : TE := fun σ H Q => ta σ H fun x H1 => ∃ a dx fs, x = .ref a ∧ H1 a = some (.ins C dx fs) ∧ fs.lookup mn = none ∧
  tk σ H1 fun zs H3 => zs.length = nk ∧ sp (gV [x] zs) H3 Q E
section
variable {X : Cx} {CX : CXT} {k n : Nat} {f C : Addr} {fd : FuncData} {ps ks : List Str} {pv : Str} {sp : Sp} {E : XK} {m : Str} {pos apos : Pos} {e o : Expr} {es : List Expr} {kws : List Keyword} {ta : TE} {t tk : TA}
variable {g : List Value → List Value → List Value} {gV : List V → List V → List V}
theorem peg_methK {pl : Sem Bool} (he : PE X o ta) (c : Cls X.K C) (hm : Meth X.K C m f) (F : FnG X.prog X.w X.K X.mg X.base CX k f fd ps sp) (hr : Room k X.A) (ng : NoG X.A) (hb : KBn X.K fd ps 1 ks g gV) (hx : Passes CX X E) (hkw : PK X kws tk)
    (hall : (backToKw pos (keywordEach kws X.env)).all (·.1.isSome) = true := by rfl) (hks : (backToKw pos (keywordEach kws X.env)).filterMap (·.1) = ks := by rfl)
    (hpl : ((backTo pos (starEach [] X.env)).any (·.1) || (backToKw pos (keywordEach kws X.env)).any (·.1.isNone)) = false := by rfl)
    (ht : eval (.Call (.Attribute o m apos) [] kws pos) X.env = (do
      let ov ← eval o X.env
      standAt apos.atName
      let (f, first) ← holding [ov] (getMethod ov m pl)
      callWith pos f first (backTo pos (starEach [] X.env)) (backToKw pos (keywordEach kws X.env))) := by rfl) :
    PE X (.Call (.Attribute o m apos) [] kws pos) (tMethK C m sp ks.length gV E ta tk) := ⟨fun pins s σ H Q I h =>
  PySem.W.methodCall_KW (pl := pl) (thn (he.run pins s σ H _ I h) fun u s1 ⟨x, H1, I1, rx, a, dx, fs, ex, ea, l, q⟩ => by
    subst ex
    cases (show u = Value.ref a from rx)
    exact getmeth_ok I1 ea c hm l (PySem.W.callWith_KW0 (first := [.ref a]) (h₀ := X.base) I.ok.mod.kin hm.kp hall (thn (hkw.run pos pins s1 σ H1 _ I1 q) fun ws s2 ⟨zs, H2, I2, rz, l2, q1⟩ =>
      ⟨I2.kIn, by rw [hks]; exact rung_fnk (us := [.ref a]) (vs := [.ref a]) F hr ng hb hx I2 (.cons rfl .nil) rz rfl l2 q1⟩) hpl)) ht⟩
end
section
variable {X : Cx} {E : XK} {e o : Expr} {es : List Expr} {kws : List Keyword} {ga : M A} {gs gk : M (List A)} {pos apos : Pos} {k n n1 n2 : Nat} {f : Addr} {fd : FuncData} {ps ks : List Str} {pv : Str} {m : Mir} {mn c : Str} {sp : List Src} {mz : List V} {md : List D}
theorem d_argsL {K : PySem.W.Frag} {σ : St} {H : Hp} {Q : VK} {G : Gh} {s : S} {f : List D → List D → M A} (l1 : LenA n1 gs) (l2 : LenA n2 gk) (r : Rel K G σ H s) (h : PostE K E G σ Q ((bnd gs fun as => bnd gk fun bs => bnd (forceL as) fun ds => bnd (forceL bs) fun es => f ds es) s)) {T : List V → List V → Hp → Prop}
    (k : ∀ vs zs H1 G1 s1 ds es, G.le G1 → vs.length = n1 → zs.length = n2 → Rel K G1 σ H1 s1 → DenL K G1.Hs ds vs → DenL K G1.Hs es zs → PostE K E G1 σ Q (f ds es s1) → T vs zs H1) : (tA K E gs) σ H fun vs H1 => (tA K E gk) σ H1 fun zs H2 => T vs zs H2 := by
  refine ⟨G, s, r, ?_⟩
  unfold bnd at h
  cases q : gs s with
  | exc c fs s1 => rw [q] at h; exact h
  | bad => rw [q] at h; exact h.elim
  | ok as s1 =>
    rw [q] at h
    dsimp only at h
    intro vs H1 G1 ll1 r1 ad1
    refine ⟨G1, s1, r1, ?_⟩
    have h := ipE.mono h ll1
    cases q2 : gk s1 with
    | exc c fs s1 => rw [q2] at h; exact h
    | bad => rw [q2] at h; exact h.elim
    | ok bs s2 =>
      rw [q2] at h
      intro zs H2 G2 ll2 r2 ad2
      obtain ⟨ds, s3, G3, ll3, r3, d3, h3⟩ := stepForceL (P := fun G => PostE K E G σ Q) ipE (f := fun ds => bnd (forceL bs) fun es => f ds es) (ipE.mono h ll2) r2 (ad1.le ll2)
      obtain ⟨es, s4, G4, ll4, r4, d4, h4⟩ := stepForceL (P := fun G => PostE K E G σ Q) ipE h3 r3 (ad2.le ll3)
      exact k vs zs H2 G4 s4 ds es (((ll1.trans ll2).trans ll3).trans ll4) (by rw [ad1.len, l1 _ _ _ q]) (by rw [ad2.len, l2 _ _ _ q2]) r4 (d3.le ll4.hs) d4 h4
def gMethS (c mn : Str) (m : Mir) (sp : List Src) (md : List D) (ga : M A) (gs gk : M (List A)) : M A := bnd ga fun a => bnd (force a) fun d0 => if okM c mn d0 = true then bnd gs fun as => bnd gk fun bs => bnd (forceL as) fun ds => bnd (forceL bs) fun es => doCall m (place sp [d0] md es ++ [.tup ds]) else bad
def gMethK (c mn : Str) (m : Mir) (sp : List Src) (md : List D) (ga : M A) (gk : M (List A)) : M A := bnd ga fun a => bnd (force a) fun d0 => if okM c mn d0 = true then bnd (pur []) fun as => bnd gk fun bs => bnd (forceL as) fun ds => bnd (forceL bs) fun es => doCall m (place sp [d0] md es) else bad
theorem okM_ins {d : D} (h : okM c mn d = true) : ∃ fs, d = .ins c fs ∧ fs.lookup mn = none := by
  cases d with
  | ins c' fs =>
    have ok' : (decide (c' = c) && (fs.lookup mn).isNone) = true := h
    simp only [Bool.and_eq_true, decide_eq_true_eq, Option.isNone_iff_eq_none] at ok'
    obtain ⟨ec, en⟩ := ok'
    subst ec
    exact ⟨fs, rfl, en⟩
  | _ => cases h
theorem d_methK {K : PySem.W.Frag} {σ : St} {H : Hp} {Q : VK} (l2 : LenA n2 gk) (hmd : ∀ Hs, DenL K Hs md mz) (hn : ∀ (y : V) (zs : List V), zs.length = n2 → (place sp [y] mz zs).length = n)
    (h : tD K E (gMethK c mn m sp md ga gk) σ H Q) : tMethK (He.ga K c) mn (spD K n m) n2 (fun vs zs => place sp vs mz zs) E (tD K E ga) (tA K E gk) σ H Q := by
  obtain ⟨G, s, r, h⟩ := h
  refine stepE ipE h r fun v H1 G1 a s1 l1' r1 ad h1 => ?_
  obtain ⟨d, s2, G2, l2', r2, dn, h2⟩ := stepForce ipE h1 r1 ad
  by_cases ok : okM c mn d = true
  · rw [if_pos ok] at h2
    obtain ⟨fs, rfl, en⟩ := okM_ins ok
    have dn0 := dn
    unfold Den at dn
    obtain ⟨p, dx, gs', rfl, hp, df⟩ := dn
    have hp' : H1 p = some (.ins (He.ga K c) dx gs') := by
      rcases r2.x.hs p _ hp with z | ⟨z, _⟩ | ⟨⟨_, z⟩, _⟩
      · exact z
      · exact z.elim
      · cases z
    refine ⟨p, dx, gs', rfl, hp', df.look.2 en, ?_⟩
    have z := d_argsL (f := fun ds es => doCall m (place sp [.ins c fs] md es)) lenA_nil l2 r2 h2 (T := fun vs zs H1 => vs = [] → zs.length = n2 ∧ spD K n m (place sp [V.ref p] mz zs) H1 Q E) fun vs zs H3 G3 s3 ds es l3 e1 e2 r3 d1 d2 h3 _ =>
      ⟨e2, r3.call (place_den (.cons (dn0.le l3.hs) .nil) (hmd _) d2) (hn _ _ e2) h3⟩
    obtain ⟨G, s, r, z⟩ := z
    obtain ⟨G1, s1, r1, z1⟩ := z [] H1 G (.refl G) r rfl
    refine ⟨G1, s1, r1, ?_⟩
    cases q : gk s1 with
    | exc c fs s2 => rw [q] at z1; exact z1
    | bad => rw [q] at z1; exact z1
    | ok bs s2 =>
      rw [q] at z1
      exact fun zs H2 G2 ll r2 ad => z1 zs H2 G2 ll r2 ad rfl
  · rw [if_neg ok] at h2; exact h2.elim
theorem de_methK {pl : Sem Bool} {g : List Value → List Value → List Value} (ho : DE X E o ga) (T : Cls X.K (He.ga X.K c)) (hm : Meth X.K (He.ga X.K c) mn f) (F : FnG X.prog X.w X.K X.mg X.base (L2.CX X.prog X.w) k f fd ps (spD X.K n m)) (hr : Room k X.A) (ng : NoG X.A)
    (hb : KBn X.K fd ps 1 ks g (fun vs zs => place sp vs mz zs)) (hmd : ∀ Hs, DenL X.K Hs md mz) (hx : Passes (L2.CX X.prog X.w) X E) (hkw : DK X E kws gk) (l2 : LenA ks.length gk) (hn : ∀ (y : V) (zs : List V), zs.length = ks.length → (place sp [y] mz zs).length = n)
    (hall : (backToKw pos (keywordEach kws X.env)).all (·.1.isSome) = true := by rfl) (hks : (backToKw pos (keywordEach kws X.env)).filterMap (·.1) = ks := by rfl)
    (hpl : ((backTo pos (starEach [] X.env)).any (·.1) || (backToKw pos (keywordEach kws X.env)).any (·.1.isNone)) = false := by rfl)
    (ht : eval (.Call (.Attribute o mn apos) [] kws pos) X.env = (do
      let ov ← eval o X.env
      standAt apos.atName
      let (f, first) ← holding [ov] (getMethod ov mn pl)
      callWith pos f first (backTo pos (starEach [] X.env)) (backToKw pos (keywordEach kws X.env))) := by rfl) :
    DE X E (.Call (.Attribute o mn apos) [] kws pos) (gMethK c mn m sp md ga gk) := (peg_methK ho T hm F hr ng hb hx hkw hall hks hpl ht).imp fun σ H Q h => d_methK l2 hmd hn h
end
structure GE (H H' : Hp) : Prop where
  ex : ∀ a o, H a = some o → H' a = some o
  lo : ∀ a ob u, H' a = some (.frz ob u) → (∀ xs, u ≠ .tup xs) → H a = some (.frz ob u)
theorem GE.refl (H : Hp) : GE H H := ⟨fun _ _ h => h, fun _ _ _ h _ => h⟩
theorem GE.trans {H H1 H2 : Hp} (a : GE H H1) (b : GE H1 H2) : GE H H2 := ⟨fun p o h => b.ex p o (a.ex p o h), fun p ob u h n => a.lo p ob u (b.lo p ob u h n) n⟩
theorem GE.sub {Hs H H' : Hp} (g : GE H H') (s : Sub Hs H) : Sub Hs H' := fun a o e => (s a o e).elim (fun h => .inl (g.ex a o h)) fun h => h.elim (fun ⟨k, ob, h⟩ => .inr (.inl ⟨k, ob, g.ex a _ h⟩)) fun ⟨k, h⟩ => .inr (.inr ⟨k, fun z => by
  cases q : H a with
  | none => exact h q
  | some u => rw [g.ex a u q] at z; cases z⟩)
section
variable {K : PySem.W.Frag} {G : Gh} {σ : St} {H H' : Hp} {s : S}
theorem RsAt.has_some {r : Rs} (z : RsAt K G H r) {a : Addr} (h : r.has a) : ∃ o, H a = some o := by
  rcases h with rfl | rfl | rfl | ⟨q, hq⟩
  · exact ⟨_, z.d⟩
  · exact ⟨_, z.g⟩
  · exact ⟨_, z.c⟩
  · obtain ⟨ps, e, _⟩ := z.t _ hq
    exact ⟨_, e⟩
theorem RelX.ge {rs : Option Rs} (r : RelX K G H rs) (g : GE H H') : RelX K G H' rs := by
  refine ⟨fun a o e => g.ex a o (r.fx a o e), g.sub r.hs, r.ba, r.dm, fun a q => ?_, fun a ob u e n => r.lo a ob u (g.lo a ob u e n) n, ?_⟩
  · cases e : H a with
    | none => exact absurd e (r.dh a q)
    | some o => rw [g.ex a o e]; exact fun z => nomatch z
  · cases rs with
    | none => trivial
    | some q =>
      have z : RsAt K G H q := r.rs
      refine RsAt.re z (fun a h => ?_) (Le.refl _) z.no ⟨fun a t => ?_, fun _ _ f => f, fun _ t => t⟩
      · obtain ⟨o, e⟩ := z.has_some h
        rw [e, g.ex a o e]
      · obtain ⟨k, t⟩ := t
        cases e : H a with
        | none => exact absurd e (sub_some r.hs t)
        | some o => rw [g.ex a o e]
theorem Rel.ge (r : Rel K G σ H s) (g : GE H H') : Rel K G σ H' s := by
  refine ⟨r.x.ge g, r.fr, fun i d e => ?_, r.ap, r.ln, ?_⟩
  · obtain ⟨p, o, a1, a2, a3⟩ := r.ow i d e
    exact ⟨p, o, a1, g.ex p o a2, a3⟩
  · have w := r.me
    cases e : s.me with
    | none => trivial
    | some q =>
      rw [e] at w
      have z : MeAt K G H s.rs q := w
      obtain ⟨gs, h1, h2⟩ := z.o
      exact ⟨⟨gs, g.ex _ _ h1, h2⟩, z.ns, z.nf, z.nd, z.nr⟩
theorem relX_none {Hs : Hp} (ba : Bare Hs) (hs : Sub Hs H) : RelX K ⟨H, fun a => H a ≠ none ∧ Hs a = none, Hs⟩ H none := ⟨fun _ _ e => e, hs, ba, fun _ q => q.2, fun _ q => q.1, fun _ _ _ e _ => e, trivial⟩
end
section
variable {X : Cx} {n : Nat} {f : Addr} {fd : FuncData} {ps : List Str} {m : Mir} {c : Str}
theorem plain_shape {h : Heap} {a : Addr} {its : Array Value} (p : h.IsList a its) : ∃ n dd sl, h.get? a = some { cls := .type "list", dict := dd, data := .seq its n, slots := sl } := by
  obtain ⟨⟨cls, dd, data, sl⟩, ho, hc, n, hd⟩ := p
  simp only at hc hd
  subst hc hd
  exact ⟨n, dd, sl, ho⟩
end
end DL
end
section
namespace DL
open PySem PySem.Spec PyProof.Rows L2 PySem.W
def w1 : D → D
  | .tpl xs => .tup xs
  | d => d
def t1 : D → D
  | .tup xs => .tpl xs
  | d => d
end DL
end
section
namespace DL
open PySem PySem.Spec PyProof.Rows L2
def bmB (K : PySem.W.Frag) (g : Addr) : Bool := He.eqO (PySem.W.specialIn K (.ref g) "__get__") (some (some (.builtin "function.__get__"))) && (decide (PySem.W.takesIn K (.ref g) = some false) && PySem.W.fnIn K g)
theorem obsL_eq {as : (Addr → Option Obj) → List Addr} {fa : List He.Fa} {fn : List He5.DefA} {tf : Ats} {ex : PySem.W.Frag → Bool} {g : Addr → Option Obj} {s : Shared} (h : ∀ a, g a = s.heap.get? a) : obsL as fa fn tf ex g = (hookL as fa fn tf ex).obs s := by
  have e : g = s.heap.get? := funext h
  rw [e] <;> rfl
def plainD : D → Bool
  | .non => true
  | .bl _ => true
  | .int _ => true
  | .str _ => true
  | _ => false
section
variable {K : PySem.W.Frag} {Hs Hs' : Hp}
theorem Den.plain {d : D} {v : V} (hp : plainD d = true) (h : Den K Hs d v) : Den K Hs' d v := by
  cases d <;> first | (unfold Den at h ⊢; exact h) | cases hp
theorem DenL.plain : ∀ {ds : List D} {vs : List V}, ds.all plainD = true → DenL K Hs ds vs → DenL K Hs' ds vs
  | [], _, _, h => by unfold DenL at h ⊢; exact h
  | d :: ds, _, hp, h => by
    rw [List.all_cons, Bool.and_eq_true] at hp
    unfold DenL at h ⊢
    obtain ⟨v, r, e, h1, h2⟩ := h
    exact ⟨v, r, e, h1.plain hp.1, DenL.plain hp.2 h2⟩
end
def tgL (ts : List Tg) : Tg := fun d s => match d with
  | .lst ds => tgAll ts ds s
  | _ => none
section
variable {js : List Nat}
theorem d_unl {K : PySem.W.Frag} {ts : List Tg} {n : Nat} (hn : ts.length = n) {v : V} {σ : St} {H : Hp} {Q : St → Hp → Prop} (h : gD K js (tgL ts) v σ H Q) : gUnl K n (gDs K js (tgAll ts)) v σ H Q := by
  obtain ⟨G, s, d, s', r, dn, e, k⟩ := h
  cases d with
  | lst ds =>
    have e' : tgAll ts ds s = some s' := e
    unfold Den at dn
    obtain ⟨a, vs, rfl, ht, dl⟩ := dn
    exact ⟨a, vs, rfl, .of (sub_raw r.x.hs ht fun z => z), by rw [dl.len, tgAll_len e', hn], G, s, ds, s', r, dl, e', k⟩
  | _ => cases e
end
theorem dg_unl {X : Cx} {es : List Expr} {k : Nat} {pos : Pos} {js : List Nat} {ts : List Tg} (hc : X.calm = true) (h : DGs X es js (tgAll ts)) (hn : (assignEach es X.env).length = ts.length := by rfl) (hst : (assignEach es X.env).findIdx? (·.1) = none := by rfl) :
    DG X (.Tuple es k pos) js (tgL ts) := (pg_unl hc h hn hst).imp fun v σ H Q q => d_unl rfl q
structure SB0 (K : PySem.W.Frag) (fd : FuncData) (ps : List Str) (pv : Str) (ks : List Str) (g : List Value → List Value → List Value) (gV : List V → List V → List V) : Prop where
  to : ∀ (s : Shared) (ws : List Value), K.In s.heap → ws.length = ks.length → ∀ (M : Model) (A : Around) (E : Value → Shared → Prop) (Q : List (Str × Value) → Shared → Prop), wpAny M A (newTuple [] >>= fun t => pure (ps.zip (g [] ws) ++ [(pv, t)])) Q E s → wpAny M A (bindArgs fd ⟨[], ks.zip ws⟩) Q E s
  rel : ∀ {vs : List V} {us : List Value} {zs : List V} {ws : List Value}, Vals vs us → Vals zs ws → Vals (gV vs zs) (g us ws)
end DL
end
section
namespace DL
open PySem PySem.Spec PyProof.Rows L2 PySem.W LamX
def LamP (q : Str) (params : Arguments) (body : Expr) (scope : Scope) (clo : List (Str × Addr)) (f c' : Addr) : Heap → Prop := fun h => ∃ pm ctv, h.get? f = some (kla_obj "<lambda>" q params body scope clo pm c' ctv)
def LamH (q : Str) (params : Arguments) (body : Expr) (scope : Scope) (clo : List (Str × Addr)) : Addr → Hp → Prop := fun f Hs => ∃ c', Hs f = some (.ext (LamP q params body scope clo f c')) ∧ Hs c' = some (CodeO c' q)
structure LamAlt (X : Cx) (k : Nat) (P : Addr → Hp → Prop) (ge : M A) : Prop where
  ex : ∃ (params : Arguments) (body : Expr) (scope : Scope), P = LamH (X.env.qual ++ "<lambda>") params body scope (cloFrom X.env.cells scope.names []) ∧ LamS X.env.scope scope ∧
    (∀ (q : Str) (cl : List (Str × Addr)) (pm cv ctv : Value), bindArgs (kla_fn "<lambda>" q params body scope cl pm cv ctv) ⟨[], []⟩ = pure []) ∧
    (∀ (A : Around) (outer : List Env) (s : Shared) (H : Hp) (E : XK) (f c' : Addr), Room k (A.deeper (lamEnv X scope s.heap.objs.size f c')) → NoG (A.deeper (lamEnv X scope s.heap.objs.size f c')) → DE (lamCx X A outer s H E scope f c') E body ge)
abbrev Lams := Nat → Addr → Hp → Prop
def noL : Lams := fun _ _ _ => True
end DL
end
section
namespace SumL
open PySem PySem.Spec PyProof.Rows L2
open Sem (wp)
abbrev LstAt (h : Heap) (l : Addr) (items : Array Value) (n : Nat) : Prop := h.get? l = some { cls := .type "list", dict := none, data := .seq items n, slots := #[] }
theorem args2 (a b : Value) : argsOk "sum" ⟨[a, b], []⟩ := by unfold argsOk; kernel_rfl
section
variable {prog : Program} {w : World} {A : Around} {R : Result → Shared → Prop} {I : Addr} {fp wr : List Addr} {n : Nat} {P : Nat → Value → Prop} {St : Nat → Heap → Prop}
theorem loop (W : Walks prog w A.in1 I fp wr n P St) (its : Nat → List Value) (h0 : Heap) (hits : ∀ i v, P i v → ∃ p c, v = .ref p ∧ LstAt h0 p (its i).toArray c) (S : Addr) (hSf : ∀ b ∈ fp, b < S) (hwr : ∀ b ∈ wr, h0.objs.size ≤ b) (hS0 : h0.objs.size ≤ S)
    (p0 : Addr) (hp0 : p0 < h0.objs.size) (acc : Nat → List Value) (hacc : ∀ i, acc (i + 1) = acc i ++ its i) (hlen : ∀ i, i ≤ n → (acc i).length ≤ sizeLine) :
    ∀ (k i : Nat) (s : Shared) (p : Addr) (c c' : Nat), n - i = k → i ≤ n → St i s.heap → s.heap.get? S = some { cls := .type "list", dict := none, data := .seq #[.ref p] c, slots := #[] } → LstAt s.heap p (acc i).toArray c' → p ∉ wr → p ≠ S → (i = 0 ∧ p = p0 ∨ 0 < i ∧ h0.objs.size ≤ p) →
    (∀ b o, h0.get? b = some o → s.heap.get? b = some o) →
    (∀ h' tk p' c'', (∀ b o, h0.get? b = some o → h'.get? b = some o) → LstAt h' p' (acc n).toArray c'' → (n = 0 ∧ p' = p0 ∨ 0 < n ∧ h0.objs.size ≤ p') → R (.ok (.ret (.ref p'))) { s with heap := h', toks := tk }) →
    codeAny (model prog w) A (.builtin "sum.loop" ⟨[.ref I, .ref S, rawInt 2, rawInt 0], []⟩) R s := by
  have hSf' : S ∉ fp := fun h => Nat.lt_irrefl _ (hSf _ h)
  have hSw : S ∉ wr := fun h => hSf' (W.sub _ h)
  intro k
  induction k with
  | zero =>
    intro i s p c c' hk hi hst hS hp hpw hpS hor h0k hR
    have hin : i = n := by omega
    subst hin
    refine codeAny_builtin F.entry_sum_loop ?_
    rw [Around.under_plainId F.plain_sum_loop _]
    show wpAny _ A.in1 (seqItems? (.ref S) >>= _) _ _ s
    refine wpAny_bind (wpAny_seqItems hS rfl ?_)
    show wpAny _ A.in1 (tryCatch (pyNext (.ref I)) _ >>= _) _ _ s
    refine wpAny_bind (wpAny_tryCatch (W.done s _ _ hst fun h' tk hk' => ?_))
    exact wpAny_pure (hR h' tk p c' (fun b o e => hk' b o (fun hb => Nat.lt_irrefl _ (Nat.lt_of_lt_of_le (Heap.lt_size e) (hwr b hb))) (h0k b o e)) (hk' p _ hpw hp) hor)
  | succ k ih =>
    intro i s p c c' hk hi hst hS hp hpw hpS hor h0k hR
    have hlt : i < n := by omega
    refine codeAny_builtin F.entry_sum_loop ?_
    rw [Around.under_plainId F.plain_sum_loop _]
    show wpAny _ A.in1 (seqItems? (.ref S) >>= _) _ _ s
    refine wpAny_bind (wpAny_seqItems hS rfl ?_)
    show wpAny _ A.in1 (tryCatch (pyNext (.ref I)) _ >>= _) _ _ s
    refine wpAny_bind (wpAny_tryCatch (W.item i s _ _ hlt hst fun v h' tk hP hst' hk' => ?_))
    obtain ⟨q, cq, rfl, hq⟩ := hits i v hP
    have old : ∀ b o, h0.get? b = some o → h'.get? b = some o := fun b o e => hk' b o (fun hb => Nat.lt_irrefl _ (Nat.lt_of_lt_of_le (Heap.lt_size e) (hwr b hb))) (h0k b o e)
    have hS' := hk' S _ hSw hS
    have hp' := hk' p _ hpw hp
    have hq' : LstAt h' q (its i).toArray cq := old q _ hq
    have hsz : (acc i).toArray.size + (its i).toArray.size ≤ sizeLine := by
      have := hlen (i + 1) hlt
      rw [hacc, List.length_append] at this
      simpa using this
    show wpAny _ A.in1 ((holding [Value.ref q] (binaryOp .Add (.ref p) (.ref q))).attempt >>= _) _ _ _
    refine wpAny_bind (wpAny_attempt (wpAny_holding (PySem.P.add_list hp' hq' ?_ hsz)))
    have eapp : (acc i).toArray ++ (its i).toArray = (acc (i + 1)).toArray := by rw [hacc]; simp
    rw [eapp]
    dsimp only
    generalize hg : h'.push { cls := .type "list", data := .seq (acc (i + 1)).toArray } = g
    have gk : ∀ b o, h'.get? b = some o → g.get? b = some o := fun b o e => by rw [← hg]; exact Heap.get?_push_of_some _ e
    have gn : LstAt g h'.objs.size (acc (i + 1)).toArray 0 := by rw [← hg]; exact Heap.get?_push_size _ rfl
    have hS2 := gk S _ hS'
    have hSlt : S < h'.objs.size := Heap.lt_size hS'
    show wpAny _ A.in1 (updateSeq S (fun _ => #[.ref h'.objs.size]) >>= _) _ _ _
    refine wpAny_bind (wpAny_updateSeq hS2 rfl ?_)
    have hS3 := Heap.get?_update_self (Obj.mapSeq fun _ => #[Value.ref h'.objs.size]) hS2 rfl
    refine wpAny_bind (wpAny_letGo ?_)
    refine wpAny_bind (wpAny_updateSeq hS3 rfl (wpAny_pure ⟨plainId_quiet F.plain_sum_loop _, ih (i + 1) _ h'.objs.size _ 0 (by omega) hlt (W.frame _ _ _ hst' fun b hb o e => ?_) (Heap.get?_update_self _ hS3 rfl) ?_ ?_ ?_ ?_ ?_ ?_⟩))
    · exact (Heap.get?_update_other _ _ (fun h : S = b => hSf' (by rw [h]; exact hb))).trans ((Heap.get?_update_other _ _ (fun h : S = b => hSf' (by rw [h]; exact hb))).trans (gk b o e))
    · exact (Heap.get?_update_other _ _ (Nat.ne_of_lt hSlt)).trans ((Heap.get?_update_other _ _ (Nat.ne_of_lt hSlt)).trans gn)
    · exact fun hw => Nat.lt_irrefl _ (Nat.lt_trans hSlt (hSf _ (W.sub _ hw)))
    · exact Nat.ne_of_gt hSlt
    · exact .inr ⟨Nat.succ_pos _, Nat.le_of_lt (Nat.lt_of_le_of_lt hS0 hSlt)⟩
    · intro b o e
      have ne : S ≠ b := fun h => Nat.lt_irrefl _ (Nat.lt_of_lt_of_le (Heap.lt_size e) (h ▸ hS0))
      exact (Heap.get?_update_other _ _ ne).trans ((Heap.get?_update_other _ _ ne).trans (gk b o (old b o e)))
    · exact fun h'' tk'' p'' c'' a1 a2 a3 => hR h'' tk'' p'' c'' a1 a2 a3
end
section
variable {prog : Program} {w : World} {A : Around} {E : Value → Shared → Prop} {s : Shared}
theorem acc_le {its : Nat → List Value} {acc : Nat → List Value} (hacc : ∀ i, acc (i + 1) = acc i ++ its i) : ∀ n i, i ≤ n → (acc i).length ≤ (acc n).length
  | 0, i, h => by rw [Nat.le_zero.mp h]; exact Nat.le_refl _
  | n + 1, i, h => by
    rcases Nat.lt_or_ge n i with z | z
    · rw [show i = n + 1 by omega]; exact Nat.le_refl _
    · rw [hacc, List.length_append]
      exact Nat.le_trans (acc_le hacc n i z) (Nat.le_add_right _ _)
theorem call {a b : Addr} {items : Array Value} {c : Nat} {its acc : Nat → List Value} {Q : Value → Shared → Prop} (hh : A.handled = none) (ha : s.heap.IsList a items) (hits : ∀ i v, items[i]? = some v → ∃ p c, v = .ref p ∧ LstAt s.heap p (its i).toArray c)
    (hb : LstAt s.heap b (acc 0).toArray c) (hacc : ∀ i, acc (i + 1) = acc i ++ its i) (hlen : (acc items.size).length ≤ sizeLine)
    (h : ∀ h' tk p' c'', (∀ b o, s.heap.get? b = some o → h'.get? b = some o) → LstAt h' p' (acc items.size).toArray c'' → (items.size = 0 ∧ p' = b ∨ 0 < items.size ∧ s.heap.objs.size ≤ p') → Q (.ref p') { s with heap := h', toks := tk }) :
    wpAny (model prog w) A (PySem.call (.builtin "sum") [.ref a, .ref b]) Q E s := by
  refine call_function_tree F.kind_sum F.plain_sum F.entry_sum (args2 _ _) ?_
  unfold Builtin.«sum»
  simp only [List.length_cons, List.length_nil]
  rw [if_neg (by decide)]
  refine wpAny_bind (wpAny_of_eq (show Builtin.Builtins.bindParams "sum" ["start"] 0 ⟨[.ref b], []⟩ = pure [some (.ref b)] from rfl) ?_)
  refine wpAny_bind (wpAny_pyIter_list ha ?_)
  refine wpAny_bind (wpAny_pure ?_)
  obtain ⟨g, hg⟩ : ∃ g, s.heap.push { cls := .type "list_iterator", data := .fields #[.ref a, .int 0 0] } = g := ⟨_, rfl⟩
  rw [hg]
  have gk : ∀ b o, s.heap.get? b = some o → g.get? b = some o := fun b o e => by rw [← hg]; exact Heap.get?_push_of_some _ e
  have gs : g.objs.size = s.heap.objs.size + 1 := by rw [← hg]; exact Heap.size_push ..
  have hbg : LstAt g b (acc 0).toArray c := gk b _ hb
  have hT : ({ s with heap := g } : Shared).TypeIs (.ref b) "list" := ⟨_, hbg, rfl⟩
  simp only [List.forIn_cons, List.forIn_nil]
  refine wpAny_bind (wpAny_bind (wpAny_bind (wpAny_isInstance (T := "list") (b := false) hT PySem.F.sub_list_str ?_)))
  simp only [Bool.false_eq_true, if_false]
  refine wpAny_pure (wpAny_bind (wpAny_bind (wpAny_isInstance (T := "list") (b := false) hT PySem.F.sub_list_bytes ?_)))
  simp only [Bool.false_eq_true, if_false]
  refine wpAny_pure (wpAny_bind (wpAny_bind (wpAny_isInstance (T := "list") (b := false) hT PySem.F.sub_list_bytearray ?_)))
  simp only [Bool.false_eq_true, if_false]
  refine wpAny_pure (wpAny_pure ?_)
  refine wpAny_bind (wpAny_newObj_type ?_)
  have hal : a < s.heap.objs.size := by obtain ⟨o, ho, _⟩ := ha; exact Heap.lt_size ho
  have hbl : b < s.heap.objs.size := Heap.lt_size hb
  have W := Walks.list (prog := prog) (w := w) (A := A.in1) hh s.heap.objs.size a (Nat.ne_of_lt hal) items
  have it0 : g.IsListIter s.heap.objs.size a 0 := by rw [← hg]; exact ⟨_, Heap.get?_push_size _ rfl, rfl, rfl⟩
  refine wpAny_pure ⟨plainId_quiet F.plain_sum_loop _, loop (A := A) W its s.heap hits g.objs.size (fun b hb => ?_) (fun b hb => ?_) (by rw [gs]; exact Nat.le_succ _) b hbl acc hacc (fun i hi => Nat.le_trans (acc_le hacc _ _ hi) hlen) items.size 0 _ b 0 c rfl (Nat.zero_le _)
    (W.frame 0 g _ ⟨it0, ha.at (gk a)⟩ fun b _ o e => Heap.get?_push_of_some _ e) (Heap.get?_push_size _ rfl) (Heap.get?_push_of_some _ hbg) (fun hm => ?_) (fun z => ?_) (.inl ⟨rfl, rfl⟩) (fun b o e => by exact Heap.get?_push_of_some _ (gk b o e)) fun h' tk p' c'' a1 a2 a3 => ?_⟩
  · rw [gs]
    rcases List.mem_cons.mp hb with rfl | hb
    · exact Nat.lt_succ_self _
    · rw [List.mem_singleton.mp hb]; exact Nat.lt_succ_of_lt hal
  · rw [List.mem_singleton.mp hb]; exact Nat.le_refl _
  · rw [List.mem_singleton.mp hm] at hbl; exact Nat.lt_irrefl _ hbl
  · rw [z, gs] at hbl; exact Nat.lt_irrefl _ (Nat.lt_of_succ_lt hbl)
  · exact h h' tk p' c'' a1 a2 a3
end
end SumL
end
section
namespace DL
open PySem PySem.Spec PyProof.Rows L2
inductive Pt where
  | k (z : Str)
  | v (g : M A)
inductive DPs (X : Cx) (E : XK) : List Expr → List Pt → Prop where
  | nil : DPs X E [] []
  | k {z : Str} {j : Nat} {pos : Pos} {es : List Expr} {ps : List Pt} (r : DPs X E es ps) : DPs X E (.Constant (.str z) j pos :: es) (.k z :: ps)
  | v {e : Expr} {pos : Pos} {g : M A} {es : List Expr} {ps : List Pt} (h : DE X E e g) (r : DPs X E es ps) : DPs X E (.FormattedValue e (-1) none pos :: es) (.v g :: ps)
end DL
end
section
namespace DL
open PySem PySem.Spec PyProof.Rows L2 PySem.W PySem.Froz
section
variable {P : Program} {w : World} {A : Around} {E : Value → Shared → Prop} {s : Shared}
structure FillK (P : Program) (w : World) (S : Addr) (n : Nat) (Pv : Nat → Value → Prop) (T : Nat → Heap → Prop) : Prop where
  move : ∀ {i h h'}, T i h → (∀ b o, b ≤ S → h.get? b = some o → h'.get? b = some o) → T i h'
  step : ∀ {i v} {s : Shared} {A : Around} {E : Value → Shared → Prop} {Q : Bool → Shared → Prop}, A.units < cLine → i < n → Pv i v → T i s.heap →
    (∀ b h' tk, s.toks ≤ tk → Heap.SameBut S s.heap h' → T (i + 1) h' → Q b { s with heap := h', toks := tk }) → wpAny (model P w) A (setAdd S v) Q E s
end
end DL
end
section
namespace DL
open PySem PySem.Spec PyProof.Rows L2
def Rs.at (r : Rs) (k : Nat) : Option D := if r.r0 ≤ k then r.rg[k - r.r0]? else none
def Rs.see (r : Rs) (k : Nat) : Option D := if k < r.r0 then r.fz[k]? else r.rg[k - r.r0]?
def Rs.put (r : Rs) (k : Nat) (d : D) : Rs := { r with rg := r.rg.set (k - r.r0) d }
def Rs.add (r : Rs) (d : D) : Rs := { r with rg := r.rg ++ [d] }
def Rs.nxt (r : Rs) : Nat := r.r0 + r.rg.length
def rgAt (k : Nat) (s : S) : Option D := match s.rs with
  | some r => r.at k
  | none => none
def rgSee (k : Nat) (s : S) : Option D := match s.rs with
  | some r => r.see k
  | none => none
def putR (k : Nat) (d : D) (s : S) : S := match s.rs with
  | some r => { s with rs := some (r.put k d) }
  | none => s
section
variable {K : PySem.W.Frag} {G : Gh} {σ : St} {H : Hp} {s : S} {k : Nat} {d : D} {p : Addr} {o : HO}
theorem Rs.at_see {r : Rs} (h : r.at k = some d) : r.see k = some d := by
  unfold Rs.at at h
  unfold Rs.see
  by_cases c : r.r0 ≤ k
  · rw [if_pos c] at h; rw [if_neg (by omega)]; exact h
  · rw [if_neg c] at h; cases h
theorem rgAt_some (h : rgAt k s = some d) : ∃ r, s.rs = some r ∧ r.at k = some d := by
  unfold rgAt at h
  split at h
  · rename_i r e; exact ⟨r, e, h⟩
  · cases h
theorem RsAt.at {r : Rs} (z : RsAt K G H r) (h : r.at k = some d) : ∃ a o, G.Hs a = some (.own k) ∧ H a = some o ∧ DenO K G.Hs d o := by
  unfold Rs.at at h
  by_cases c : r.r0 ≤ k
  · rw [if_pos c] at h
    obtain ⟨a, o, h1, h2, h3⟩ := z.rg _ _ h
    have ek : r.r0 + (k - r.r0) = k := Nat.add_sub_cancel' c
    rw [ek] at h1
    exact ⟨a, o, h1, h2, h3⟩
  · rw [if_neg c] at h; cases h
theorem RsAt.see {r : Rs} (z : RsAt K G H r) (h : r.see k = some d) : ∃ a o, G.Hs a = some (.own k) ∧ (H a = some o ∨ (Lk o ∧ ∃ ob, H a = some (.frz ob o))) ∧ DenO K G.Hs d o := by
  unfold Rs.see at h
  by_cases c : k < r.r0
  · rw [if_pos c] at h
    exact z.fz k d h
  · rw [if_neg c] at h
    obtain ⟨a, o, h1, h2, h3⟩ := z.rg _ _ h
    have ek : r.r0 + (k - r.r0) = k := Nat.add_sub_cancel' (Nat.le_of_not_lt c)
    rw [ek] at h1
    exact ⟨a, o, h1, .inl h2, h3⟩
theorem RsAt.one {r : Rs} (z : RsAt K G H r) {a b : Addr} (h : G.Hs a = some (.own k)) (h' : G.Hs b = some (.own k)) : a = b := (z.tg b k h').2.2 a h
theorem Rel.rgAt (r : Rel K G σ H s) (h : rgAt k s = some d) (hp : G.Hs p = some (.own k)) : ∃ o, H p = some o ∧ DenO K G.Hs d o := by
  obtain ⟨q, e, h⟩ := rgAt_some h
  have z : RsAt K G H q := by have y := r.x.rs; rw [e] at y; exact y
  obtain ⟨a, o, h1, h2, h3⟩ := z.at h
  have := z.one h1 hp
  subst this
  exact ⟨o, h2, h3⟩
theorem Rel.rgSee (r : Rel K G σ H s) (h : rgSee k s = some d) (hp : G.Hs p = some (.own k)) : ∃ o, (H p = some o ∨ (Lk o ∧ ∃ ob, H p = some (.frz ob o))) ∧ DenO K G.Hs d o := by
  unfold DL.rgSee at h
  split at h
  · rename_i q e
    have z : RsAt K G H q := by have y := r.x.rs; rw [e] at y; exact y
    obtain ⟨a, o, h1, h2, h3⟩ := z.see h
    have := z.one h1 hp
    subst this
    exact ⟨o, h2, h3⟩
  · cases h
theorem Rel.rgPut {d' : D} {o' : HO} (r : Rel K G σ H s) (h : DL.rgAt k s = some d) (hp : G.Hs p = some (.own k)) (ho : DenO K G.Hs d' o') : Rel K G σ (upd H p o') (putR k d' s) := by
  obtain ⟨q, e, h⟩ := rgAt_some h
  have z : RsAt K G H q := by have y := r.x.rs; rw [e] at y; exact y
  have hk : q.r0 ≤ k ∧ q.rg[k - q.r0]? = some d := by
    unfold Rs.at at h
    by_cases c : q.r0 ≤ k
    · rw [if_pos c] at h; exact ⟨c, h⟩
    · rw [if_neg c] at h; cases h
  have es : putR k d' s = { s with rs := some (q.put k d') } := by unfold putR; rw [e]
  rw [es]
  have fx : G.Fx p = none := (z.tg p k hp).2.1 hk.1
  have nh : ∀ a, q.has a → a ≠ p := fun a ha y => by have := (z.no a ha).1; rw [y, hp] at this; cases this
  have lt : k - q.r0 < q.rg.length := (List.getElem?_eq_some_iff.mp hk.2).1
  refine ⟨⟨fun a o e => by rw [upd_ne fun y => by rw [y, fx] at e; cases e]; exact r.x.fx a o e, r.x.hs.tagH ⟨k, hp⟩, r.x.ba, r.x.dm, fun a y => ?_, fun a ob u e nt => ?_, ?_⟩, r.fr, fun i x e => ?_, r.ap, r.ln, ?_⟩
  · by_cases n : a = p
    · subst n; rw [upd_same]; exact fun w => nomatch w
    · rw [upd_ne n]; exact r.x.dh a y
  · by_cases n : a = p
    · subst n; rw [upd_same] at e; cases e
      obtain ⟨xs, eu⟩ := ho.noFrz.tup
      exact absurd eu (nt xs)
    · rw [upd_ne n] at e; exact r.x.lo a ob u e nt
  · refine (show RsAt K G (upd H p o') (q.put k d') from ⟨by show upd H p o' q.sd = _; rw [upd_ne (nh _ (.inl rfl))]; exact z.d, by show upd H p o' q.sg = _; rw [upd_ne (nh _ (.inr (.inl rfl)))]; exact z.g, by show upd H p o' q.sc = _; rw [upd_ne (nh _ (.inr (.inr (.inl rfl))))]; exact z.c, fun y hy => ?_, z.no, z.ne, z.a, z.u, fun j x hx => ?_, fun j x hx => ?_, fun a j hj => ?_⟩)
    · obtain ⟨ps, h1, h2, h3⟩ := z.t y hy
      exact ⟨ps, by rw [upd_ne (nh _ (.inr (.inr (.inr ⟨y.2, hy⟩))))]; exact h1, h2, h3⟩
    · have hx' : (q.rg.set (k - q.r0) d')[j]? = some x := hx
      by_cases n : j = k - q.r0
      · subst n
        rw [List.getElem?_set_self lt] at hx'
        cases hx'
        refine ⟨p, o', ?_, upd_same, ho⟩
        show G.Hs p = some (.own (q.r0 + (k - q.r0)))
        rw [Nat.add_sub_cancel' hk.1]; exact hp
      · rw [List.getElem?_set_ne (Ne.symm n)] at hx'
        obtain ⟨a, o, h1, h2, h3⟩ := z.rg j x hx'
        have na : a ≠ p := fun y => by
          rw [y, hp] at h1
          have e2 : k = q.r0 + j := HO.own.inj (Option.some.inj h1)
          omega
        exact ⟨a, o, h1, by rw [upd_ne na]; exact h2, h3⟩
    · obtain ⟨a, o, h1, h2, h3⟩ := z.fz j x hx
      have na : a ≠ p := fun y => by
        rw [y, hp] at h1
        have e2 : k = j := HO.own.inj (Option.some.inj h1)
        have := (List.getElem?_eq_some_iff.mp hx).1
        have e3 : j < q.fz.length := this
        have e4 : q.fz.length ≤ k := hk.1
        omega
      exact ⟨a, o, h1, by rw [upd_ne na]; exact h2, h3⟩
    · obtain ⟨t1, t2, t3⟩ := z.tg a j hj
      refine ⟨?_, t2, t3⟩
      show j < q.fz.length + (q.rg.set (k - q.r0) d').length
      rw [List.length_set]; exact t1
  · obtain ⟨y, u, a1, a2, a3, a4, a5, a6, a7, a8⟩ := r.ow i x e
    have n : y ≠ p := fun w => by rw [w, hp] at a5; cases a5
    refine ⟨y, u, a1, by rw [upd_ne n]; exact a2, a3, a4, a5, a6, a7, fun q2 e2 w => ?_⟩
    cases e2
    exact a8 q (by assumption) w
  · have w := r.me
    show MeOk K G (upd H p o') (some (q.put k d')) s.me
    cases em : s.me with
    | none => trivial
    | some m =>
      rw [em] at w
      have y : MeAt K G H s.rs m := w
      obtain ⟨gs, g1, g2⟩ := y.o
      have n : m.x ≠ p := fun w => by have := y.ns; rw [w, hp] at this; cases this
      refine ⟨⟨gs, by rw [upd_ne n]; exact g1, g2⟩, y.ns, y.nf, y.nd, fun q2 e2 w => ?_⟩
      cases e2
      exact y.nr q e w
theorem Rel.rgNew {q : Rs} (r : Rel K G σ H s) (e : s.rs = some q) (hp : H p = none) (ho : DenO K G.Hs d o) : Rel K (G.add p (.own q.nxt)) σ (upd H p o) { s with rs := some (q.add d) } := by
  obtain ⟨f1, f2, f3, f4⟩ := r.x.fresh hp
  have z : RsAt K G H q := by have y := r.x.rs; rw [e] at y; exact y
  have l := Gh.le_add (G := G) (p := p) (o := .own q.nxt) f2
  have nh : ∀ a, q.has a → a ≠ p := fun a ha y => f4 q e (y ▸ ha)
  have tgs : ∀ a, isTg (upd G.Hs p (.own q.nxt)) a → a ≠ p → isTg G.Hs a := fun a ⟨j, h⟩ n => by rw [upd_ne n] at h; exact ⟨j, h⟩
  refine ⟨⟨fun a u e => by rw [upd_ne fun y => by rw [y] at e; have e' : G.Fx p = some u := e; rw [f1] at e'; cases e']; exact r.x.fx a u e, fun a u e => ?_, fun a x u e => ?_, fun a y => ?_, fun a y => ?_, fun a ob u e nt => ?_, ?_⟩, fun i x e => ?_, fun i x e => ?_, r.apLe l.hs, r.ln, ?_⟩
  · have e' : upd G.Hs p (.own q.nxt) a = some u := e
    by_cases n : a = p
    · subst n; rw [upd_same] at e'; cases e'
      exact .inr (.inr ⟨⟨_, rfl⟩, by rw [upd_same]; exact fun w => nomatch w⟩)
    · rw [upd_ne n] at e' ⊢; exact r.x.hs a u e'
  · have e' : upd G.Hs p (.own q.nxt) a = some (.frz x u) := e
    by_cases n : a = p
    · subst n; rw [upd_same] at e'; cases e'
    · rw [upd_ne n] at e'; exact r.x.ba a x u e'
  · have n : a ≠ p := fun n => f3 (n ▸ y)
    show upd G.Hs p _ a = none
    rw [upd_ne n]; exact r.x.dm a y
  · have n : a ≠ p := fun n => f3 (n ▸ y)
    rw [upd_ne n]; exact r.x.dh a y
  · by_cases n : a = p
    · subst n; rw [upd_same] at e; cases e
      obtain ⟨xs, eu⟩ := ho.noFrz.tup
      exact absurd eu (nt xs)
    · rw [upd_ne n] at e; exact r.x.lo a ob u e nt
  · refine (show RsAt K (G.add p (.own q.nxt)) (upd H p o) (q.add d) from ⟨by show upd H p o q.sd = _; rw [upd_ne (nh _ (.inl rfl))]; exact z.d, by show upd H p o q.sg = _; rw [upd_ne (nh _ (.inr (.inl rfl)))]; exact z.g, by show upd H p o q.sc = _; rw [upd_ne (nh _ (.inr (.inr (.inl rfl))))]; exact z.c, fun y hy => ?_, fun a ha => ⟨?_, (z.no a ha).2.1, (z.no a ha).2.2⟩, z.ne, z.a, z.u, fun j x hx => ?_, fun j x hx => ?_, fun a j hj => ?_⟩)
    · obtain ⟨ps, h1, h2, h3⟩ := z.t y hy
      refine ⟨ps, by rw [upd_ne (nh _ (.inr (.inr (.inr ⟨y.2, hy⟩))))]; exact h1, h2, fun pos cv w => ?_⟩
      obtain ⟨c, e1, e2⟩ := h3 pos cv w
      exact ⟨c, e1, l.hs _ _ e2⟩
    · show upd G.Hs p _ a = none
      rw [upd_ne (nh a ha)]; exact (z.no a ha).1
    · have hx' : (q.rg ++ [d])[j]? = some x := hx
      by_cases lt : j < q.rg.length
      · rw [List.getElem?_append_left lt] at hx'
        obtain ⟨a, u, h1, h2, h3⟩ := z.rg j x hx'
        exact ⟨a, u, l.hs _ _ h1, by rw [upd_ne (ne_of_none h2 hp)]; exact h2, h3.le l.hs⟩
      · rw [List.getElem?_append_right (Nat.le_of_not_lt lt)] at hx'
        have ej : j - q.rg.length = 0 := by
          have := (List.getElem?_eq_some_iff.mp hx').1
          simp at this; omega
        rw [ej] at hx'
        cases hx'
        have e2 : j = q.rg.length := by omega
        subst e2
        exact ⟨p, o, by show upd G.Hs p _ p = _; exact upd_same, upd_same, ho.le l.hs⟩
    · obtain ⟨a, u, h1, h2, h3⟩ := z.fz j x hx
      have na : a ≠ p := tg_ne ⟨_, h1⟩ f2
      exact ⟨a, u, l.hs _ _ h1, by rw [upd_ne na]; exact h2, h3.le l.hs⟩
    · have hj' : upd G.Hs p (.own q.nxt) a = some (.own j) := hj
      have len : (q.add d).rg.length = q.rg.length + 1 := by show (q.rg ++ [d]).length = _; rw [List.length_append]; rfl
      by_cases n : a = p
      · subst n
        rw [upd_same] at hj'
        have ej : q.nxt = j := HO.own.inj (Option.some.inj hj')
        subst ej
        refine ⟨?_, fun _ => f1, fun a' h' => ?_⟩
        · show q.r0 + q.rg.length < q.r0 + (q.add d).rg.length
          rw [len]; omega
        · by_cases n' : a' = a
          · exact n'
          · exfalso
            have h2 : upd G.Hs a (.own q.nxt) a' = some (.own q.nxt) := h'
            rw [upd_ne n'] at h2
            exact absurd (z.tg a' _ h2).1 (Nat.lt_irrefl _)
      · rw [upd_ne n] at hj'
        obtain ⟨t1, t2, t3⟩ := z.tg a j hj'
        refine ⟨?_, t2, fun a' h' => ?_⟩
        · show j < q.r0 + (q.add d).rg.length
          rw [len]; omega
        · have h2 : upd G.Hs p (.own q.nxt) a' = some (.own j) := h'
          by_cases n' : a' = p
          · subst n'
            rw [upd_same] at h2
            have ej : q.nxt = j := HO.own.inj (Option.some.inj h2)
            rw [← ej] at t1
            exact absurd t1 (Nat.lt_irrefl _)
          · rw [upd_ne n'] at h2; exact t3 a' h2
  · obtain ⟨v, e1, dn⟩ := r.fr i x e
    exact ⟨v, e1, dn.le l.hs⟩
  · obtain ⟨y, u, a1, a2, a3, a4, a5, a6, a7, a8⟩ := r.ow i x e
    have n : y ≠ p := ne_of_none a2 hp
    refine ⟨y, u, a1.mono l.hs, by rw [upd_ne n]; exact a2, a3, a4.le l.hs, ?_, a6, a7, fun q2 e2 w => ?_⟩
    · show upd G.Hs p _ y = none
      rw [upd_ne n]; exact a5
    · cases e2
      exact a8 q (by assumption) w
  · have w := r.me
    show MeOk K (G.add p (.own q.nxt)) (upd H p o) (some (q.add d)) s.me
    cases em : s.me with
    | none => trivial
    | some m =>
      have n := r.meNe em hp
      rw [em] at w
      have y : MeAt K G H s.rs m := w
      obtain ⟨gs, g1, g2⟩ := y.o
      refine ⟨⟨gs, by rw [upd_ne n]; exact g1, g2.le l.hs⟩, ?_, y.nf, y.nd, fun q2 e2 w => ?_⟩
      · show upd G.Hs p _ m.x = none
        rw [upd_ne n]; exact y.ns
      · cases e2
        exact y.nr q e w
theorem Rel.refK (r : Rel K G σ H s) {a : A} {v : V} (ad : ADen K G σ a v) (e : DL.peek a s = some (D.rg k)) : ∃ p, v = .ref p ∧ G.Hs p = some (.own k) := by
  have h : Den K G.Hs (.rg k) v := r.peek ad e
  unfold Den at h
  exact h
theorem den_rgk {Hs : Hp} (h : Hs p = some (.own k)) : Den K Hs (.rg k) (.ref p) := by
  unfold Den
  exact ⟨p, rfl, h⟩
end
def newR (d : D) : M Nat := fun s => match s.rs with
  | some r => .ok r.nxt { s with rs := some (r.add d) }
  | none => .bad
def gNew (g : M D) : M A := bnd g fun d => bnd (newR d) fun k => pur (.d (.rg k))
section
variable {X : Cx} {E : XK} {e o : Expr} {gf : M D} {ga go : M A} {c fl : Str} {pos pos' : Pos}
theorem de_new (h : DF X E e gf) : DE X E e (gNew gf) := h.imp fun σ H Q ⟨G, s, r, h⟩ => stepF ipE h r fun p o H1 G1 d s1 l1 r1 hp ho mu h1 => by
  unfold bnd newR at h1
  cases q : s1.rs with
  | none => rw [q] at h1; exact h1.elim
  | some y =>
    rw [q] at h1
    have h2 : PostE X.K E G1 σ Q (.ok (.d (.rg y.nxt)) { s1 with rs := some (y.add d) }) := h1
    have f2 := (r1.x.fresh hp).2.1
    exact h2 (.ref p) _ (G1.add p (.own y.nxt)) (Gh.le_add f2) (r1.rgNew q hp ho) (den_rgk (K := X.K) (by show upd G1.Hs p _ p = _; exact upd_same))
end
noncomputable def erT (Hs : Hp) : Hp := fun a => if isTg Hs a then none else Hs a
mutual
def noRg : D → Bool
  | .non => true
  | .bl _ => true
  | .int _ => true
  | .str _ => true
  | .lst xs => noRgL xs
  | .tup xs => noRgL xs
  | .tpl xs => noRgL xs
  | .twr xs => noRgL xs
  | .dic ks => noRgK ks
  | .dit ks => noRgT ks
  | .ins _ fs => noRgF fs
  | .exc _ _ => false
  | .lam _ _ => false
  | .adr _ => true
  | .rg _ => false
def noRgL : List D → Bool
  | [] => true
  | d :: r => noRg d && noRgL r
def noRgK : List (Key × D) → Bool
  | [] => true
  | (_, d) :: r => noRg d && noRgK r
def noRgT : List (List Key × D) → Bool
  | [] => true
  | (_, d) :: r => noRg d && noRgT r
def noRgF : List (Str × D) → Bool
  | [] => true
  | (_, d) :: r => noRg d && noRgF r
end
section
variable {K : PySem.W.Frag} {Hs H : Hp}
theorem erT_le : Le (erT Hs) Hs := fun a o h => by
  unfold erT at h
  by_cases c : isTg Hs a
  · rw [if_pos c] at h; cases h
  · rw [if_neg c] at h; exact h
theorem erT_at {a : Addr} {o : HO} (h : Hs a = some o) (n : ∀ k, o ≠ .own k) : erT Hs a = some o := by
  unfold erT
  rw [if_neg]
  · exact h
  · rintro ⟨k, e⟩
    rw [h] at e; cases e
    exact n k rfl
theorem Bare.er (b : Bare Hs) : Bare (erT Hs) := fun a o u h => b a o u (erT_le _ _ h)
theorem Sub.er (s : Sub Hs H) : Sub (erT Hs) H := fun a o h => s a o (erT_le _ _ h)
theorem SqT.er {a : Addr} {vs : List V} (h : SqT K Hs a vs) : SqT K (erT Hs) a vs := by
  rcases h with (h | ⟨o, h⟩) | h
  · exact .inl (.inl (erT_at h (fun _ z => nomatch z)))
  · exact .inl (.inr ⟨o, erT_at h (fun _ z => nomatch z)⟩)
  · exact .inr h
mutual
theorem Den.er : ∀ {d : D} {v : V}, noRg d = true → Den K Hs d v → Den K (erT Hs) d v
  | .non, v, _, h => by unfold Den at h ⊢; exact h
  | .bl _, v, _, h => by unfold Den at h ⊢; exact h
  | .int _, v, _, h => by unfold Den at h ⊢; exact h
  | .str _, v, _, h => by unfold Den at h ⊢; exact h
  | .adr _, v, _, h => by unfold Den at h ⊢; exact h
  | .lst ds, v, n, h => by
    unfold Den at h ⊢; unfold noRg at n
    obtain ⟨a, vs, e1, h1, h2⟩ := h
    exact ⟨a, vs, e1, erT_at h1 (fun _ z => nomatch z), DenL.er n h2⟩
  | .tup ds, v, n, h => by
    unfold Den at h ⊢; unfold noRg at n
    obtain ⟨a, vs, e1, h1, h2⟩ := h
    exact ⟨a, vs, e1, SqT.er h1, DenL.er n h2⟩
  | .tpl ds, v, n, h => by
    unfold Den at h ⊢; unfold noRg at n
    obtain ⟨a, vs, ob, e1, h1, h3, h2⟩ := h
    exact ⟨a, vs, ob, e1, erT_at h1 (fun _ z => nomatch z), h3, DenL.er n h2⟩
  | .twr ds, v, n, h => by
    unfold Den at h ⊢; unfold noRg at n
    obtain ⟨a, vs, e1, h1, h2⟩ := h
    exact ⟨a, vs, e1, erT_at h1 (fun _ z => nomatch z), DenL.er n h2⟩
  | .dic ds, v, n, h => by
    unfold Den at h ⊢; unfold noRg at n
    obtain ⟨a, vs, e1, h1, h2⟩ := h
    exact ⟨a, vs, e1, erT_at h1 (fun _ z => nomatch z), DenK.er n h2⟩
  | .dit ds, v, n, h => by
    unfold Den at h ⊢; unfold noRg at n
    obtain ⟨a, vs, e1, h1, h2⟩ := h
    exact ⟨a, vs, e1, erT_at h1 (fun _ z => nomatch z), DenT.er n h2⟩
  | .ins c fs, v, n, h => by
    unfold Den at h ⊢; unfold noRg at n
    obtain ⟨a, dx, gs, e1, h1, h2⟩ := h
    exact ⟨a, dx, gs, e1, erT_at h1 (fun _ z => nomatch z), DenF.er n h2⟩
  | .exc _ _, v, n, _ => by unfold noRg at n; cases n
  | .lam _ _, v, n, _ => by unfold noRg at n; cases n
  | .rg _, v, n, _ => by unfold noRg at n; cases n
theorem DenL.er : ∀ {ds : List D} {vs : List V}, noRgL ds = true → DenL K Hs ds vs → DenL K (erT Hs) ds vs
  | [], vs, _, h => by unfold DenL at h ⊢; exact h
  | d :: ds, vs, n, h => by
    unfold DenL at h ⊢; unfold noRgL at n
    rw [Bool.and_eq_true] at n
    obtain ⟨v, r, e1, h1, h2⟩ := h
    exact ⟨v, r, e1, Den.er n.1 h1, DenL.er n.2 h2⟩
theorem DenK.er : ∀ {ds : List (Key × D)} {vs : List (Key × V)}, noRgK ds = true → DenK K Hs ds vs → DenK K (erT Hs) ds vs
  | [], vs, _, h => by unfold DenK at h ⊢; exact h
  | (k, d) :: ds, vs, n, h => by
    unfold DenK at h ⊢; unfold noRgK at n
    rw [Bool.and_eq_true] at n
    obtain ⟨v, r, e1, h1, h2⟩ := h
    exact ⟨v, r, e1, Den.er n.1 h1, DenK.er n.2 h2⟩
theorem DenT.er : ∀ {ds : List (List Key × D)} {vs : List (List Key × V)}, noRgT ds = true → DenT K Hs ds vs → DenT K (erT Hs) ds vs
  | [], vs, _, h => by unfold DenT at h ⊢; exact h
  | (k, d) :: ds, vs, n, h => by
    unfold DenT at h ⊢; unfold noRgT at n
    rw [Bool.and_eq_true] at n
    obtain ⟨v, r, e1, h1, h2⟩ := h
    exact ⟨v, r, e1, Den.er n.1 h1, DenT.er n.2 h2⟩
theorem DenF.er : ∀ {ds : List (Str × D)} {vs : List (Str × V)}, noRgF ds = true → DenF K Hs ds vs → DenF K (erT Hs) ds vs
  | [], vs, _, h => by unfold DenF at h ⊢; exact h
  | (k, d) :: ds, vs, n, h => by
    unfold DenF at h ⊢; unfold noRgF at n
    rw [Bool.and_eq_true] at n
    obtain ⟨v, r, e1, h1, h2⟩ := h
    exact ⟨v, r, e1, Den.er n.1 h1, DenF.er n.2 h2⟩
end
theorem DenH.er {d : D} {v : V} (n : noRg d = true) (h : DenH K Hs H d v) : DenH K (erT Hs) H d v := by
  cases d with
  | lst ds => obtain ⟨a, vs, e1, h1, h2⟩ := h; unfold noRg at n; exact ⟨a, vs, e1, h1, h2.er n⟩
  | dic ds => obtain ⟨a, vs, e1, h1, h2⟩ := h; unfold noRg at n; exact ⟨a, vs, e1, h1, h2.er n⟩
  | dit ds => obtain ⟨a, vs, e1, h1, h2⟩ := h; unfold noRg at n; exact ⟨a, vs, e1, h1, h2.er n⟩
  | _ => exact Den.er n h
theorem RvPost.er {Q : VK} {rv : Rv} (h : RvPost K Hs H Q rv) : RvPost K (erT Hs) H Q rv := by
  cases rv with
  | old d => exact fun v hd => h v (hd.le erT_le)
  | nw d => exact fun p o hp ho => h p o hp (ho.le erT_le)
  | no => exact h
theorem DenO.hR {p : Addr} {d : D} {o : HO} (hp : H p = some o ∨ (Lk o ∧ ∃ ob, H p = some (.frz ob o))) (h : DenO K Hs d o) (n : noRg d = true) (mu : MutO o) : DenH K (erT Hs) H d (.ref p) := by
  cases d with
  | lst ds =>
    obtain ⟨vs, rfl, h1⟩ := h; unfold noRg at n
    rcases hp with hp | ⟨z, _⟩
    · exact ⟨p, vs, rfl, hp, h1.er n⟩
    · exact z.elim
  | dic ds =>
    obtain ⟨vs, rfl, h1⟩ := h; unfold noRg at n
    exact ⟨p, vs, rfl, hp.imp id fun ⟨_, ob, z⟩ => ⟨ob, z⟩, h1.er n⟩
  | dit ds =>
    obtain ⟨vs, rfl, h1⟩ := h; unfold noRg at n
    exact ⟨p, vs, rfl, hp.imp id fun ⟨_, ob, z⟩ => ⟨ob, z⟩, h1.er n⟩
  | tup ds => obtain ⟨vs, rfl, h1⟩ := h; exact mu.elim
  | tpl ds => obtain ⟨vs, ob, rfl, h0, h1⟩ := h; exact mu.elim
  | twr ds => obtain ⟨vs, rfl, h1⟩ := h; exact mu.elim
  | ins c fs => obtain ⟨dx, vs, rfl, h1⟩ := h; exact mu.elim
  | _ => exact h.elim
end
def mutB : D → Bool
  | .lst _ => true
  | .dic _ => true
  | .dit _ => true
  | _ => false
theorem mutB_o {K : PySem.W.Frag} {Hs : Hp} {d : D} {o : HO} (h : mutB d = true) (dn : DenO K Hs d o) : MutO o := by
  cases d with
  | lst ds => obtain ⟨vs, rfl, h1⟩ := dn; trivial
  | dic ds => obtain ⟨vs, rfl, h1⟩ := dn; trivial
  | dit ds => obtain ⟨vs, rfl, h1⟩ := dn; trivial
  | _ => cases h
def seeR (s : S) : D → Option D
  | .rg k => (match rgSee k s with
    | some d => if mutB d = true ∧ noRg d = true then some d else none
    | none => none)
  | d => if noRg d = true then some d else none
section
variable {K : PySem.W.Frag} {E : XK} {G : Gh} {σ : St} {H : Hp} {s : S} {Q : VK}
theorem Rel.seeR (r : Rel K G σ H s) {d e : D} {v : V} (dh : DenH K G.Hs H d v) (h : DL.seeR s d = some e) : DenH K (erT G.Hs) H e v := by
  unfold DL.seeR at h
  split at h
  · rename_i k
    have dn : Den K G.Hs (.rg k) v := dh
    unfold Den at dn
    obtain ⟨p, rfl, hp⟩ := dn
    split at h
    · rename_i d2 q2
      split at h
      · rename_i c
        cases h
        obtain ⟨o, g1, g2⟩ := r.rgSee q2 hp
        exact DenO.hR g1 g2 c.2 (mutB_o c.1 g2)
      · cases h
    · cases h
  · split at h
    · rename_i c
      cases h
      exact dh.er c
    · cases h
variable {ga gb : M A} {gs : M (List A)}
end
def lendSl (s : S) : Sl → Sl
  | .fr d => (match seeR s d with
    | some e => .fr e
    | none => .no)
  | .ow d => (match pairO d with
    | none => if noRg d = true then .fr d else .no
    | some _ => .no)
  | .no => .no
def lendRs : Option Rs → Option Rs
  | none => none
  | some r => some { r with fz := [], rg := [] }
def lendS (s : S) : S := ⟨s.sl.map (lendSl s), lendRs s.rs, none⟩
def lresR : Option Rs → Option Rs → Option (Option Rs)
  | none, none => some none
  | some r, some r' => if r'.fz.isEmpty = true ∧ r'.rg.isEmpty = true then some (some { r' with fz := r.fz, rg := r.rg }) else none
  | _, _ => none
theorem lresR_lend (rs : Option Rs) : lresR rs (lendRs rs) = some rs := by
  cases rs <;> rfl
def HidA (G : Gh) (σ : St) (s : S) (a : Addr) : Prop := isTg G.Hs a ∨ (∃ (i : Nat) (d : D), s.sl[i]? = some (.ow d) ∧ OwnA G.Hs σ i d a) ∨ ∃ m, s.me = some m ∧ m.x = a
def ctn : Option HO → Option HO
  | some (.frz _ o) => some o
  | x => x
def SeenA (G : Gh) (s : S) (a : Addr) : Prop := ∃ k d, G.Hs a = some (.own k) ∧ rgSee k s = some d ∧ mutB d = true ∧ noRg d = true
def OwnB (G : Gh) (σ : St) (s : S) (a : Addr) : Prop := ∃ (i : Nat) (d : D), s.sl[i]? = some (.ow d) ∧ pairO d = none ∧ OwnA G.Hs σ i d a
noncomputable def lendH (G : Gh) (σ : St) (H : Hp) (s : S) : Hp := fun a => open Classical in if SeenA G s a then ctn (H a) else if isTg G.Hs a then none else if OwnB G σ s a then H a else G.Hs a
noncomputable def lendG (G : Gh) (σ : St) (H : Hp) (s : S) : Gh := ⟨fun a => open Classical in if HidA G σ s a then H a else G.Fx a, G.Dm, lendH G σ H s⟩
section
variable {K : PySem.W.Frag} {G G2 : Gh} {σ : St} {H H' : Hp} {s : S} {a : Addr} {o : HO}
theorem SeenA.at (r : Rel K G σ H s) (h : SeenA G s a) : ∃ k d o, G.Hs a = some (.own k) ∧ rgSee k s = some d ∧ noRg d = true ∧ (H a = some o ∨ (Lk o ∧ ∃ ob, H a = some (.frz ob o))) ∧ DenO K G.Hs d o ∧ MutO o ∧ ctn (H a) = some o := by
  obtain ⟨k, d, h1, h2, h3, h4⟩ := h
  obtain ⟨o, g1, g2⟩ := r.rgSee h2 h1
  have mu := mutB_o h3 g2
  refine ⟨k, d, o, h1, h2, h4, g1, g2, mu, ?_⟩
  rcases g1 with g1 | ⟨_, ob, g1⟩
  · rw [g1]
    cases o <;> first | rfl | exact mu.elim
  · rw [g1]; rfl
theorem OwnB.at (r : Rel K G σ H s) (h : OwnB G σ s a) : ∃ o, H a = some o ∧ MutO o ∧ G.Hs a = none := by
  obtain ⟨i, d, h1, _, h2⟩ := h
  obtain ⟨p, o, e3, e4, mu, dn, h5, h6, h7, h8⟩ := r.ow i d h1
  have := e3.fn h2
  subst this
  exact ⟨o, e4, mu, h5⟩
theorem HidA.at (r : Rel K G σ H s) (h : HidA G σ s a) : isTg G.Hs a ∨ (G.Hs a = none ∧ H a ≠ none ∧ ¬ G.Dm a ∧ RsNe s.rs a ∧ ∀ x, H a ≠ some (.ext x)) := by
  rcases h with h | ⟨i, d, h1, h2⟩ | ⟨m, h1, h2⟩
  · exact .inl h
  · obtain ⟨p, o, e3, e4, mu, dn, h5, h6, h7, h8⟩ := r.ow i d h1
    have := e3.fn h2
    subst this
    exact .inr ⟨h5, by rw [e4]; exact (fun z => nomatch z), h7, h8, fun x z => by rw [e4] at z; cases z; exact mu⟩
  · have w := r.me
    rw [h1] at w
    have y : MeAt K G H s.rs m := w
    obtain ⟨gs, g1, g2⟩ := y.o
    subst h2
    exact .inr ⟨y.ns, by rw [g1]; exact (fun z => nomatch z), y.nd, y.nr, fun x z => by rw [g1] at z; cases z⟩
theorem HidA.ne (r : Rel K G σ H s) (h : HidA G σ s a) : H a ≠ none := by
  rcases h.at r with ⟨k, t⟩ | h
  · exact sub_some r.x.hs t
  · exact h.2.1
theorem HidA.nd (r : Rel K G σ H s) (h : HidA G σ s a) : ¬ G.Dm a := fun d => by
  rcases h.at r with ⟨k, t⟩ | h
  · rw [r.x.dm a d] at t; cases t
  · exact h.2.2.1 d
theorem HidA.hs (r : Rel K G σ H s) (h : HidA G σ s a) (e : G.Hs a = some o) : isTg G.Hs a := by
  rcases h.at r with t | h
  · exact t
  · rw [h.1] at e; cases e
theorem HidA.nh (r : Rel K G σ H s) {q : Rs} (e : s.rs = some q) (h : q.has a) : ¬ HidA G σ s a := fun w => by
  have z : RsAt K G H q := by have y := r.x.rs; rw [e] at y; exact y
  rcases w.at r with ⟨k, t⟩ | w
  · rw [(z.no a h).1] at t; cases t
  · exact w.2.2.2.1 q e h
theorem lendH_not (h : ¬ HidA G σ s a) : lendH G σ H s a = G.Hs a := by
  unfold lendH
  rw [if_neg fun ⟨k, d, q, _⟩ => h (.inl ⟨k, q⟩), if_neg fun q => h (.inl q), if_neg fun ⟨i, d, q1, _, q2⟩ => h (.inr (.inl ⟨i, d, q1, q2⟩))]
theorem lendH_hid (r : Rel K G σ H s) (h : HidA G σ s a) (e : lendH G σ H s a = some o) : MutO o ∧ (H a = some o ∨ (Lk o ∧ ∃ ob, H a = some (.frz ob o))) := by
  unfold lendH at e
  by_cases c1 : SeenA G s a
  · rw [if_pos c1] at e
    obtain ⟨k, d, o', h1, h2, h3, h4, h5, h6, h7⟩ := c1.at r
    rw [h7] at e; cases e
    exact ⟨h6, h4⟩
  · rw [if_neg c1] at e
    by_cases c2 : isTg G.Hs a
    · rw [if_pos c2] at e; cases e
    · rw [if_neg c2] at e
      by_cases c3 : OwnB G σ s a
      · rw [if_pos c3] at e
        obtain ⟨o', h1, h2, _⟩ := c3.at r
        rw [h1] at e; cases e
        exact ⟨h2, .inl h1⟩
      · rw [if_neg c3] at e
        exact absurd (h.hs r e) c2
theorem DenO.next {Hs : Hp} {d : D} {x : Heap → Prop} (h : DenO K Hs d (.ext x)) : False := by
  cases d with
  | lst ds => obtain ⟨vs, e, _⟩ := h; cases e
  | tup ds => obtain ⟨vs, e, _⟩ := h; cases e
  | tpl ds => obtain ⟨vs, ob, e, _⟩ := h; cases e
  | twr ds => obtain ⟨vs, e, _⟩ := h; cases e
  | dic ds => obtain ⟨vs, e, _⟩ := h; cases e
  | dit ds => obtain ⟨vs, e, _⟩ := h; cases e
  | ins c fs => obtain ⟨dx, vs, e, _⟩ := h; cases e
  | _ => exact h.elim
theorem DenO.er {Hs : Hp} {d : D} {o : HO} (n : noRg d = true) (h : DenO K Hs d o) : DenO K (erT Hs) d o := by
  cases d with
  | lst ds => obtain ⟨vs, e, h1⟩ := h; unfold noRg at n; exact ⟨vs, e, h1.er n⟩
  | tup ds => obtain ⟨vs, e, h1⟩ := h; unfold noRg at n; exact ⟨vs, e, h1.er n⟩
  | tpl ds => obtain ⟨vs, ob, e, h0, h1⟩ := h; unfold noRg at n; exact ⟨vs, ob, e, h0, h1.er n⟩
  | twr ds => obtain ⟨vs, e, h1⟩ := h; unfold noRg at n; exact ⟨vs, e, h1.er n⟩
  | dic ds => obtain ⟨vs, e, h1⟩ := h; unfold noRg at n; exact ⟨vs, e, h1.er n⟩
  | dit ds => obtain ⟨vs, e, h1⟩ := h; unfold noRg at n; exact ⟨vs, e, h1.er n⟩
  | ins c fs => obtain ⟨dx, vs, e, h1⟩ := h; unfold noRg at n; exact ⟨dx, vs, e, h1.er n⟩
  | _ => exact h.elim
theorem lend_er (r : Rel K G σ H s) : Le (erT G.Hs) (lendH G σ H s) := fun a o h => by
  have h1 := erT_le _ _ h
  have nt : ¬ isTg G.Hs a := fun t => by
    unfold erT at h
    rw [if_pos t] at h; cases h
  rw [lendH_not fun w => nt (w.hs r h1)]
  exact h1
theorem Rel.lend (r : Rel K G σ H s) : Rel K (lendG G σ H s) σ H (lendS s) := by
  have fxP : ∀ a, HidA G σ s a → (lendG G σ H s).Fx a = H a := fun a h => if_pos h
  have fxN : ∀ a, ¬ HidA G σ s a → (lendG G σ H s).Fx a = G.Fx a := fun a h => if_neg h
  have hN : ∀ a, ¬ HidA G σ s a → (lendG G σ H s).Hs a = G.Hs a := fun a h => lendH_not h
  refine ⟨⟨fun a o h => ?_, fun a o h => ?_, fun a x u h => ?_, fun a h => ?_, r.x.dh, fun a ob u h nt => ?_, ?_⟩, fun i e h => ?_, fun i e h => ?_, fun i j d e p h => ?_, ?_, trivial⟩
  · by_cases t : HidA G σ s a
    · rw [fxP a t] at h; exact h
    · rw [fxN a t] at h; exact r.x.fx a o h
  · by_cases t : HidA G σ s a
    · rcases (lendH_hid r t h).2 with q | q
      · exact .inl q
      · exact .inr (.inl q)
    · rw [hN a t] at h; exact r.x.hs a o h
  · by_cases t : HidA G σ s a
    · exact (lendH_hid r t h).1.elim
    · rw [hN a t] at h; exact r.x.ba a x u h
  · have t : ¬ HidA G σ s a := fun w => w.nd r h
    rw [hN a t]; exact r.x.dm a h
  · by_cases t : HidA G σ s a
    · rw [fxP a t]; exact h
    · rw [fxN a t]; exact r.x.lo a ob u h nt
  · cases e : s.rs with
    | none =>
      show RsOk K _ H (lendRs s.rs)
      rw [e]; trivial
    | some q =>
      show RsOk K _ H (lendRs s.rs)
      rw [e]
      have z : RsAt K G H q := by have y := r.x.rs; rw [e] at y; exact y
      refine (show RsAt K _ H { q with fz := [], rg := [] } from ⟨z.d, z.g, z.c, fun p hp => ?_, fun a h => ?_, z.ne, z.a, z.u, fun _ _ e => (by cases e), fun _ _ e => (by cases e), fun a k h => ?_⟩)
      · obtain ⟨ps, h1, h2, h3⟩ := z.t p hp
        refine ⟨ps, h1, h2, fun pos cv hc => ?_⟩
        obtain ⟨c, e1, e2⟩ := h3 pos cv hc
        refine ⟨c, e1, ?_⟩
        by_cases t : HidA G σ s c
        · obtain ⟨k, q⟩ := t.hs r e2
          rw [e2] at q; cases q
        · rw [hN c t]; exact e2
      · have h' : q.has a := h
        have t : ¬ HidA G σ s a := HidA.nh r e h'
        rw [hN a t, fxN a t]
        exact z.no a h'
      · exfalso
        by_cases t : HidA G σ s a
        · exact (lendH_hid r t h).1.elim
        · rw [hN a t] at h
          exact t (.inl ⟨k, h⟩)
  · have h' : (s.sl.map (lendSl s))[i]? = some (.fr e) := h
    rw [List.getElem?_map] at h'
    cases q : s.sl[i]? with
    | none => rw [q] at h'; cases h'
    | some x =>
      rw [q] at h'
      have h2 : lendSl s x = .fr e := Option.some.inj h'
      cases x with
      | no => cases h2
      | ow d =>
        have h3 : (match pairO d with | none => if noRg d = true then Sl.fr d else .no | some _ => .no) = .fr e := h2
        cases q2 : pairO d with
        | some _ => rw [q2] at h3; cases h3
        | none =>
          rw [q2] at h3
          dsimp only at h3
          by_cases c : noRg d = true
          · rw [if_pos c] at h3; cases h3
            obtain ⟨p, o, a1, a2, a3, a4, a5, a6, a7, a8⟩ := r.ow i _ q
            have a1' := a1
            rw [OwnA.one q2] at a1'
            refine ⟨_, a1', ?_⟩
            rw [inn_one q2] at a4
            have hp : lendH G σ H s p = some o := by
              have nt : ¬ isTg G.Hs p := fun ⟨k, t⟩ => by rw [a5] at t; cases t
              unfold lendH
              rw [if_neg (fun ⟨k, _, q, _⟩ => nt ⟨k, q⟩), if_neg nt, if_pos ⟨i, _, q, q2, a1⟩]
              exact a2
            exact den_root hp ((DenO.er c a4).le (lend_er r))
          · rw [if_neg c] at h3; cases h3
      | fr d =>
        have h3 : (match DL.seeR s d with | some e => Sl.fr e | none => .no) = .fr e := h2
        cases q2 : DL.seeR s d with
        | none => rw [q2] at h3; cases h3
        | some e2 =>
          rw [q2] at h3; cases h3
          obtain ⟨v, e1, dv⟩ := r.fr i d q
          refine ⟨v, e1, ?_⟩
          unfold DL.seeR at q2
          split at q2
          · rename_i k
            unfold Den at dv
            obtain ⟨p, rfl, hp⟩ := dv
            split at q2
            · rename_i d2 q3
              split at q2
              · rename_i c
                cases q2
                have sn : SeenA G s p := ⟨k, _, hp, q3, c.1, c.2⟩
                obtain ⟨k', d', o, g1, g2, g3, g4, g5, g6, g7⟩ := sn.at r
                rw [hp] at g1; cases g1
                rw [q3] at g2; cases g2
                have hl : lendH G σ H s p = some o := by unfold lendH; rw [if_pos sn]; exact g7
                exact den_root hl ((DenO.er c.2 g5).le (lend_er r))
              · cases q2
            · cases q2
          · split at q2
            · rename_i c
              cases q2
              exact (dv.er c).le (lend_er r)
            · cases q2
  · exfalso
    have h' : (s.sl.map (lendSl s))[i]? = some (.ow e) := h
    rw [List.getElem?_map] at h'
    cases q : s.sl[i]? with
    | none => rw [q] at h'; cases h'
    | some x =>
      rw [q] at h'
      have h2 : lendSl s x = .ow e := Option.some.inj h'
      unfold lendSl at h2
      split at h2
      · split at h2 <;> cases h2
      · split at h2
        · split at h2 <;> cases h2
        · cases h2
      · cases h2
  · exfalso
    have h' : (s.sl.map (lendSl s))[i]? = some (.ow d) := h
    rw [List.getElem?_map] at h'
    cases q : s.sl[i]? with
    | none => rw [q] at h'; cases h'
    | some x =>
      rw [q] at h'
      have h2 : lendSl s x = .ow d := Option.some.inj h'
      unfold lendSl at h2
      split at h2
      · split at h2 <;> cases h2
      · split at h2
        · split at h2 <;> cases h2
        · cases h2
      · cases h2
  · show σ.length = (s.sl.map (lendSl s)).length
    rw [List.length_map]; exact r.ln
theorem Rel.unlend {rs' rs2 : Option Rs} (r : Rel K G σ H s) (l : (lendG G σ H s).le G2) (x : RelX K G2 H' rs') (h : lresR s.rs rs' = some rs2) : ∃ G3, G.le G3 ∧ Rel K G3 σ H' { s with rs := rs2 } := by
  have fxP : ∀ a, HidA G σ s a → G2.Fx a = H a := fun a h => by rw [l.fx]; exact if_pos h
  have fxN : ∀ a, ¬ HidA G σ s a → G2.Fx a = G.Fx a := fun a h => by rw [l.fx]; exact if_neg h
  have dm : G2.Dm = G.Dm := l.dm
  have kp : ∀ a, HidA G σ s a → H' a = H a := fun a t => by
    cases e : H a with
    | none => exact absurd e (t.ne r)
    | some o => exact x.fx a o (by rw [fxP a t]; exact e)
  let Hs3 : Hp := fun a => open Classical in if HidA G σ s a then G.Hs a else G2.Hs a
  have hP : ∀ a, HidA G σ s a → Hs3 a = G.Hs a := fun a h => if_pos h
  have hN : ∀ a, ¬ HidA G σ s a → Hs3 a = G2.Hs a := fun a h => if_neg h
  have le3 : Le G.Hs Hs3 := fun a o h => by
    by_cases t : HidA G σ s a
    · rw [hP a t]; exact h
    · rw [hN a t]; exact l.hs _ _ (by show lendH G σ H s a = _; rw [lendH_not t]; exact h)
  have nhid : ∀ q2, rs2 = some q2 → ∀ a, q2.has a → ¬ HidA G σ s a ∧ G2.Hs a = none ∧ G2.Fx a = none ∧ ¬ G2.Dm a := fun q2 e a ha => by
    unfold lresR at h
    split at h
    · cases h; cases e
    · rename_i q q' eq0
      split at h
      · cases h; cases e
        have z' : RsAt K G2 H' q' := x.rs
        have n := z'.no a ha
        refine ⟨fun t => ?_, n⟩
        have e1 := n.2.1
        rw [fxP a t] at e1
        exact t.ne r e1
      · cases h
    · cases h
  have rsne : ∀ a, HidA G σ s a → RsNe rs2 a := fun a t q2 e ha => (nhid q2 e a ha).1 t
  refine ⟨⟨G.Fx, G.Dm, Hs3⟩, ⟨rfl, rfl, le3⟩, ⟨⟨fun a o h => ?_, fun a o h => ?_, fun a y u h => ?_, fun a h => ?_, fun a h => x.dh a (by rw [dm]; exact h), fun a ob u h nt => ?_, ?_⟩, fun i d e => ?_, fun i d e => ?_, r.apLe le3, r.ln, ?_⟩⟩
  · by_cases t : HidA G σ s a
    · rw [kp a t]; exact r.x.fx a o h
    · exact x.fx a o (by rw [fxN a t]; exact h)
  · by_cases t : HidA G σ s a
    · have h1 : G.Hs a = some o := by rw [← hP a t]; exact h
      obtain ⟨k, q⟩ := t.hs r h1
      rw [h1] at q; cases q
      exact .inr (.inr ⟨⟨k, rfl⟩, by rw [kp a t]; exact t.ne r⟩)
    · exact x.hs a o (by rw [← hN a t]; exact h)
  · by_cases t : HidA G σ s a
    · have h1 : G.Hs a = some (.frz y u) := by rw [← hP a t]; exact h
      exact r.x.ba a y u h1
    · exact x.ba a y u (by rw [← hN a t]; exact h)
  · have t : ¬ HidA G σ s a := fun w => w.nd r h
    show Hs3 a = none
    rw [hN a t]; exact x.dm a (by rw [dm]; exact h)
  · have h1 := x.lo a ob u h nt
    show G.Fx a = _
    by_cases t : HidA G σ s a
    · rw [fxP a t] at h1; exact r.x.lo a ob u h1 nt
    · rw [fxN a t] at h1; exact h1
  · have h0 := h
    unfold lresR at h
    split at h
    · cases h; trivial
    · rename_i q q' eq1
      split at h
      · rename_i c
        cases h
        obtain ⟨c1, c2⟩ := c
        have c1 : q'.fz = [] := List.isEmpty_iff.mp c1
        have c2 : q'.rg = [] := List.isEmpty_iff.mp c2
        have z : RsAt K G H q := by have y := r.x.rs; rw [eq1] at y; exact y
        have z' : RsAt K G2 H' q' := x.rs
        have notag : ∀ a k, G2.Hs a ≠ some (.own k) := fun a k e => by
          have e1 := (z'.tg a k e).1
          have e2 : q'.r0 = 0 := by show q'.fz.length = 0; rw [c1]; rfl
          rw [c2, e2] at e1
          exact absurd e1 (Nat.not_lt_zero _)
        have tagP : ∀ a k, Hs3 a = some (.own k) → G.Hs a = some (.own k) := fun a k e => by
          by_cases t : HidA G σ s a
          · rw [hP a t] at e; exact e
          · rw [hN a t] at e; exact absurd e (notag a k)
        refine (show RsAt K ⟨G.Fx, G.Dm, Hs3⟩ H' { q' with fz := q.fz, rg := q.rg } from ⟨z'.d, z'.g, z'.c, fun p hp => ?_, fun a h => ?_, z'.ne, z'.a, z'.u, fun k d e => ?_, fun k d e => ?_, fun a k e => ?_⟩)
        · obtain ⟨ps, h1, h2, h3⟩ := z'.t p hp
          refine ⟨ps, h1, h2, fun pos cv hc => ?_⟩
          obtain ⟨c, e1, e2⟩ := h3 pos cv hc
          refine ⟨c, e1, ?_⟩
          show Hs3 c = _
          by_cases t : HidA G σ s c
          · exfalso
            have e3 : H' c = some (LamX.CodeO c p.2) := sub_raw x.hs e2 (fun z => z)
            rw [kp c t] at e3
            rcases t.at r with ⟨k, tg⟩ | w
            · have lt : k < q.fz.length + q.rg.length := (z.tg c k tg).1
              by_cases l1 : k < q.fz.length
              · obtain ⟨a', o', g1, g2, g3⟩ := z.fz k _ (List.getElem?_eq_getElem l1)
                have := z.one g1 tg
                subst this
                rcases g2 with g2 | ⟨_, ob, g2⟩
                · rw [e3] at g2; cases g2
                  exact g3.next
                · rw [e3] at g2; cases g2
              · have lt2 : k - q.fz.length < q.rg.length := Nat.sub_lt_left_of_lt_add (Nat.le_of_not_lt l1) lt
                obtain ⟨a', o', g1, g2, g3⟩ := z.rg (k - q.fz.length) _ (List.getElem?_eq_getElem lt2)
                have ek : q.r0 + (k - q.fz.length) = k := Nat.add_sub_cancel' (Nat.le_of_not_lt l1)
                rw [ek] at g1
                have := z.one g1 tg
                subst this
                rw [e3] at g2; cases g2
                exact g3.next
            · exact w.2.2.2.2 _ e3
          · rw [hN c t]; exact e2
        · obtain ⟨t, n1, n2, n3⟩ := nhid _ rfl a h
          refine ⟨by show Hs3 a = none; rw [hN a t]; exact n1, by show G.Fx a = none; rw [← fxN a t]; exact n2, by show ¬ G.Dm a; rw [← dm]; exact n3⟩
        · obtain ⟨a, o, h1, h2, h3⟩ := z.rg k d e
          exact ⟨a, o, le3 _ _ h1, by rw [kp a (.inl ⟨_, h1⟩)]; exact h2, h3.le le3⟩
        · obtain ⟨a, o, h1, h2, h3⟩ := z.fz k d e
          exact ⟨a, o, le3 _ _ h1, by rw [kp a (.inl ⟨_, h1⟩)]; exact h2, h3.le le3⟩
        · obtain ⟨t1, t2, t3⟩ := z.tg a k (tagP a k e)
          exact ⟨t1, t2, fun a' h' => t3 a' (tagP a' k h')⟩
      · cases h
    · cases h
  · obtain ⟨v, e1, e2⟩ := r.fr i d e
    exact ⟨v, e1, e2.le le3⟩
  · obtain ⟨p, o, a1, a2, a3, a4, a5, a6, a7, a8⟩ := r.ow i d e
    have t : HidA G σ s p := .inr (.inl ⟨i, d, e, a1⟩)
    exact ⟨p, o, a1.mono le3, by rw [kp p t]; exact a2, a3, a4.le le3, by show Hs3 p = none; rw [hP p t]; exact a5, a6, a7, rsne p t⟩
  · have w := r.me
    show MeOk K _ H' rs2 s.me
    cases em : s.me with
    | none => trivial
    | some m =>
      rw [em] at w
      have y : MeAt K G H s.rs m := w
      have t : HidA G σ s m.x := .inr (.inr ⟨m, em, rfl⟩)
      obtain ⟨gs, g1, g2⟩ := y.o
      exact ⟨⟨gs, by rw [kp _ t]; exact g1, g2.le le3⟩, by show Hs3 _ = none; rw [hP _ t]; exact y.ns, y.nf, y.nd, rsne _ t⟩
end
def shallowC : D → Bool
  | .lst ds => ds.all plainD
  | .dic ks => ks.all fun p => plainD p.2
  | _ => false
def lendT (s : S) : R Bool → R Bool
  | .ok b s1 => (match lresR s.rs s1.rs with
    | some rs => .ok b { s with rs := rs }
    | none => .bad)
  | _ => .bad
def gLendT (g : M Bool) : M Bool := fun s => lendT s (g (lendS s))
def lendF (s : S) : R D → R D
  | .ok d s1 => if shallowC d = true then (match lresR s.rs s1.rs with
    | some rs => .ok d { s with rs := rs }
    | none => .bad) else .bad
  | _ => .bad
def gLendF (g : M D) : M D := fun s => lendF s (g (lendS s))
section
variable {K : PySem.W.Frag} {Hs Hs' : Hp}
theorem DenK.plain : ∀ {ds : List (Key × D)} {vs : List (Key × V)}, ds.all (fun p => plainD p.2) = true → DenK K Hs ds vs → DenK K Hs' ds vs
  | [], _, _, h => by unfold DenK at h ⊢; exact h
  | (k, d) :: ds, _, hp, h => by
    rw [List.all_cons, Bool.and_eq_true] at hp
    unfold DenK at h ⊢
    obtain ⟨v, r, e, h1, h2⟩ := h
    exact ⟨v, r, e, h1.plain hp.1, DenK.plain hp.2 h2⟩
theorem DenO.shallowC {d : D} {o : HO} (hp : DL.shallowC d = true) (h : DenO K Hs d o) : DenO K Hs' d o := by
  cases d with
  | lst ds =>
    obtain ⟨vs, e, h1⟩ := h
    exact ⟨vs, e, DenL.plain hp h1⟩
  | dic ds =>
    obtain ⟨vs, e, h1⟩ := h
    exact ⟨vs, e, DenK.plain hp h1⟩
  | _ => cases hp
end
section
variable {X : Cx} {E : XK} {e : Expr}
theorem dt_lend {g : M Bool} (h : DT X E e g) : DT X E e (gLendT g) := h.imp fun σ H Q ⟨G, s, r, hp⟩ => by
  have hp0 : PostT X.K E G σ Q (lendT s (g (lendS s))) := hp
  refine ⟨_, lendS s, r.lend, ?_⟩
  cases q : g (lendS s) with
  | exc c fs s' => rw [q] at hp0; exact hp0.elim
  | bad => rw [q] at hp0; exact hp0.elim
  | ok b s' =>
    rw [q] at hp0
    intro H' G2 l2 r2
    unfold lendT at hp0
    dsimp only at hp0
    cases er : lresR s.rs s'.rs with
    | none => rw [er] at hp0; exact hp0.elim
    | some rs2 =>
      rw [er] at hp0
      obtain ⟨G3, l3, r3⟩ := r.unlend l2 r2.x er
      exact hp0 H' G3 l3 r3
theorem df_lend {g : M D} (h : DF X E e g) : DF X E e (gLendF g) := h.imp fun σ H Q ⟨G, s, r, hp⟩ => by
  have hp0 : PostF X.K E G σ Q (lendF s (g (lendS s))) := hp
  refine ⟨_, lendS s, r.lend, ?_⟩
  cases q : g (lendS s) with
  | exc c fs s' => rw [q] at hp0; exact hp0.elim
  | bad => rw [q] at hp0; exact hp0.elim
  | ok x s' =>
    rw [q] at hp0
    unfold lendF at hp0
    dsimp only at hp0
    by_cases c : shallowC x = true
    · rw [if_pos c] at hp0
      intro p o H' G2 l2 r2 hn dn mu
      cases er : lresR s.rs s'.rs with
      | none => rw [er] at hp0; exact hp0.elim
      | some rs2 =>
        rw [er] at hp0
        obtain ⟨G3, l3, r3⟩ := r.unlend l2 r2.x er
        exact hp0 p o H' G3 l3 r3 hn (DenO.shallowC (Hs := G2.Hs) c dn) mu
    · rw [if_neg c] at hp0
      exact hp0.elim
end
def rgK (o : A) : M (List (Key × D)) := fun s => match peek o s with
  | some (.rg k) => (match rgAt k s with
    | some (.dic xs) => .ok xs s
    | _ => .bad)
  | _ => .bad
def rgSet {α : Type} (o : A) (d : D) (x : α) : M α := fun s => match peek o s with
  | some (.rg k) => .ok x (putR k d s)
  | _ => .bad
section
variable {K : PySem.W.Frag} {E : XK} {G : Gh} {σ : St} {H : Hp} {s : S} {β : Type} {P : Gh → R β → Prop} {a : A} {v : V}
theorem stepRgK (ip : IsPost K E P) {f : List (Key × D) → M β} (h : P G (bnd (rgK a) f s)) (r : Rel K G σ H s) (ad : ADen K G σ a v) :
    ∃ k xs p vs, v = .ref p ∧ G.Hs p = some (.own k) ∧ peek a s = some (.rg k) ∧ rgAt k s = some (.dic xs) ∧ H p = some (.dK vs) ∧ DenK K G.Hs xs vs ∧ P G (f xs s) := by
  unfold bnd rgK at h
  cases q : peek a s with
  | none => rw [q] at h; exact (ip.bd h).elim
  | some d =>
    rw [q] at h
    cases d with
    | rg k =>
      dsimp only at h
      obtain ⟨p, rfl, hp⟩ := r.refK ad q
      cases q2 : rgAt k s with
      | none => rw [q2] at h; exact (ip.bd h).elim
      | some d2 =>
        rw [q2] at h
        cases d2 with
        | dic xs =>
          obtain ⟨o, g1, vs, rfl, g2⟩ := r.rgAt q2 hp
          exact ⟨k, xs, p, vs, rfl, hp, rfl, q2, g1, g2, h⟩
        | _ => exact (ip.bd h).elim
    | _ => exact (ip.bd h).elim
theorem rgSet_eq {α : Type} {k : Nat} {d : D} {x : α} (e : peek a s = some (.rg k)) : rgSet a d x s = .ok x (putR k d s) := by
  unfold rgSet; rw [e]
end
def gRClr (go : M A) : M A := bnd go fun o => bnd (rgK o) fun _ => rgSet o (.dic []) (.d .non)
def sRPut (go gk gv : M A) : M Fl := bnd gv fun a => bnd (force a) fun d => bnd go fun o => bnd (rgK o) fun _ => bnd gk fun b => bnd (pk b) fun e => bnd (rgK o) fun ks => match dK e with
  | some k => if ks.length < sizeLine then rgSet o (.dic (putD ks k d)) .nx else bad
  | none => bad
section
variable {X : Cx} {E : XK} {e e2 o : Expr} {ga gb go : M A} {pos apos cpos pos' : Pos} {k : Nat}
theorem de_rclr (ho : DE X E o go) (hbase : attributeBase o "clear" X.env (eval o X.env) = eval o X.env := by rfl) (hline : (apos.endLine == cpos.line) = true := by rfl) : DE X E (.Call (.Attribute o "clear" apos) [] [] cpos) (gRClr go) :=
  (pe_dclear ho hbase hline).imp fun σ H Q ⟨G, s, r, h⟩ => stepE ipE h r fun v H1 G1 a s1 l1 r1 ad h1 => by
    obtain ⟨k, xs, p, vs, rfl, hp, pe, q2, g1, g2, h2⟩ := stepRgK ipE h1 r1 ad
    rw [rgSet_eq pe] at h2
    have hd : DenO X.K G1.Hs (.dic []) (.dK []) := ⟨[], rfl, .nil⟩
    exact ⟨.inr (.inr (.inl ⟨rfl, .inl ⟨vs, g1⟩⟩)), p, vs, rfl, rfl, g1, h2 .non _ G1 (.refl G1) (r1.rgPut q2 hp hd) (by show Den _ _ _ _; unfold Den; rfl)⟩
theorem ds_rput (r0 : Room k X.A) (ho : DE X E o go) (hk : DE X E e ga) (hv' : DE X E e2 gb)
    (hs : swapsWith e2 (some (.Subscript o e pos')) pos.line X.env = pure false := by rfl) : DS X E (.Assign [.Subscript o e pos'] e2 pos) (sRPut go ga gb) :=
  (ps_dput (by have := r0.units; omega) ho hk hv' hs).imp fun Dn σ H ⟨G, s, r, h⟩ => stepE ipS h r fun v H1 G1 a s1 l1 r1 ad h1 => by
    obtain ⟨d, s2, G2, l2, r2, dn, h2⟩ := stepForce ipS h1 r1 ad
    refine stepE ipS h2 r2 fun u H3 G3 b s3 l3 r3 ad3 h3 => ?_
    obtain ⟨k1, xs, p, vs, rfl, hp, pe, q2, g1, g2, h4⟩ := stepRgK ipS h3 r3 ad3
    refine stepE ipS h4 r3 fun y H4 G4 c s4 l4 r4 ad4 h5 => ?_
    obtain ⟨z, e1, h6⟩ := stepPk ipS h5
    have dz := r4.peek ad4 e1
    obtain ⟨k2, ys, p', ws, ep, hp', pe', q3, g3, g4, h7⟩ := stepRgK ipS h6 r4 (ad3.le l4)
    cases ep
    cases q4 : dK z with
    | none => rw [q4] at h7; exact h7.elim
    | some k' =>
      rw [q4] at h7
      dsimp only at h7
      have ey : y = kV k' := by
        cases z with
        | int i => cases q4; exact denH_int dz
        | str i => cases q4; exact denH_str dz
        | _ => cases q4
      by_cases c : ys.length < sizeLine
      · rw [if_pos c, rgSet_eq pe'] at h7
        have hd : DenO X.K G4.Hs (.dic (putD ys k' d)) (.dK (putK ws k' v)) := ⟨_, rfl, g4.put ((dn.le l3.hs).le l4.hs)⟩
        exact ⟨p, _, rfl, .inl ⟨ws, k', g3, ey, by rw [g4.len]; exact c, rfl⟩, h7 σ _ G4 (.refl G4) (r4.rgPut q3 hp' hd)⟩
      · rw [if_neg c] at h7; exact h7.elim
end
end DL
end
section
namespace PySem.SeqAt
open AutoSeq1 (wpAny_loadPart')
open MeetsSeq
def NotSub (h : Heap) (C : Addr) (T : String) : Prop := ∀ (prog : Program) (w : World), W.Looks (model prog w) h (isSubtype (.ref C) (.type T)) false
def InsOf (h : Heap) (y C : Addr) : Prop := ∃ dx, h.get? y = some (W.instObj C dx)
theorem own_list (l y C : Addr) (items : Array Value) (n : Nat) (dd : Option Addr) (sl : Array (Option Value)) :
    Meets (Builtin.«list.__eq__» ⟨[.ref l, .ref y], []⟩) (fun _ R s => s.heap.get? l = some { cls := .type "list", dict := dd, data := .seq items n, slots := sl } ∧ InsOf s.heap y C ∧ NotSub s.heap C "list" ∧ R (.ok (.ret .notImplemented)) s) :=
  .of_wp fun prog w A R s h => by
    obtain ⟨hp, g, d, tk, os⟩ := s
    obtain ⟨hl, ⟨dx, hy⟩, hn, h⟩ := h
    have hs := hn prog w
    wp_walk using wpAny_loadPart' hl, wpAny_loadPart' hy, hs.here
    exact ⟨_, rfl, h⟩
theorem own_tuple (l y C : Addr) (items : Array Value) (n : Nat) (dd : Option Addr) (sl : Array (Option Value)) :
    Meets (Builtin.«tuple.__eq__» ⟨[.ref l, .ref y], []⟩) (fun _ R s => s.heap.get? l = some { cls := .type "tuple", dict := dd, data := .seq items n, slots := sl } ∧ InsOf s.heap y C ∧ NotSub s.heap C "tuple" ∧ R (.ok (.ret .notImplemented)) s) :=
  .of_wp fun prog w A R s h => by
    obtain ⟨hp, g, d, tk, os⟩ := s
    obtain ⟨hl, ⟨dx, hy⟩, hn, h⟩ := h
    have hs := hn prog w
    wp_walk using wpAny_loadPart' hl, wpAny_loadPart' hy, hs.here
    exact ⟨_, rfl, h⟩
theorem own_dict (l y C : Addr) (ol : Obj) :
    Meets (Builtin.«dict.__eq__» ⟨[.ref l, .ref y], []⟩) (fun _ R s => s.heap.get? l = some ol ∧ ol.cls = .type "dict" ∧ InsOf s.heap y C ∧ NotSub s.heap C "dict" ∧ R (.ok (.ret .notImplemented)) s) :=
  .of_wp fun prog w A R s h => by
    obtain ⟨hp, g, d, tk, os⟩ := s
    obtain ⟨hl, el, ⟨dx, hy⟩, hn, h⟩ := h
    have hs := hn prog w
    obtain ⟨cl, dl, al, sl⟩ := ol
    dsimp only at el
    subst el
    wp_walk using wpAny_loadPart' hl, wpAny_loadPart' hy, hs.here
    exact ⟨_, rfl, h⟩
theorem own_str (b : Str) (u : Tok) (y C : Addr) :
    Meets (Builtin.«str.__eq__» ⟨[.str b u, .ref y], []⟩) (fun _ R s => InsOf s.heap y C ∧ R (.ok (.ret .notImplemented)) s) :=
  .of_wp fun prog w A R s h => by
    obtain ⟨hp, g, d, tk, os⟩ := s
    obtain ⟨⟨dx, hy⟩, h⟩ := h
    wp_walk using wpAny_loadPart' hy, wpAny_load hy
    exact ⟨_, rfl, h⟩
section
variable {prog : Program} {w : World} {A : Around} {E : Value → Shared → Prop} {s : Shared} {y C : Addr}
abbrev Decl (prog : Program) (w : World) (A : Around) (E : Value → Shared → Prop) (s : Shared) (v : Value) (y : Addr) : Prop := wpAny (model prog w) A (tryCompare v "__eq__" (.ref y)) (fun r s1 => r = none ∧ s1 = s) E s
theorem dec_none : Decl prog w A E s .none y :=
  wpAny_tryCompare_declines (T := "NoneType") rfl F.slot_NoneType_eq (call_gives F.slot_NoneType_eq rfl F.entry_NoneType_eq (F.args_NoneType_eq_2 _ _) (NoneType___eq___none_ref_0 y) ⟨rfl, rfl, rfl⟩)
theorem dec_str {z : Str} {t : Tok} (i : InsOf s.heap y C) : Decl prog w A E s (.str z t) y :=
  wpAny_tryCompare_declines (typeIs_str s z t) F.slot_str_eq (call_meets F.slot_str_eq (typeIs_str s z t) F.entry_str_eq (F.args_str_eq_2 _ _) (own_str z t y C) ⟨i, rfl, rfl, rfl⟩)
theorem dec_list {l : Addr} {items : Array Value} {n : Nat} {dd : Option Addr} {sl : Array (Option Value)} (hl : s.heap.get? l = some { cls := .type "list", dict := dd, data := .seq items n, slots := sl }) (i : InsOf s.heap y C) (ns : NotSub s.heap C "list") : Decl prog w A E s (.ref l) y :=
  have ty : s.TypeIs (.ref l) "list" := ⟨_, hl, rfl⟩
  wpAny_tryCompare_declines ty F.slot_list_eq (call_meets F.slot_list_eq ty F.entry_list_eq (F.args_list_eq_2 _ _) (own_list l y C items n dd sl) ⟨hl, i, ns, rfl, rfl, rfl⟩)
theorem dec_tuple {l : Addr} {items : Array Value} {n : Nat} {dd : Option Addr} {sl : Array (Option Value)} (hl : s.heap.get? l = some { cls := .type "tuple", dict := dd, data := .seq items n, slots := sl }) (i : InsOf s.heap y C) (ns : NotSub s.heap C "tuple") : Decl prog w A E s (.ref l) y :=
  have ty : s.TypeIs (.ref l) "tuple" := ⟨_, hl, rfl⟩
  wpAny_tryCompare_declines ty F.slot_tuple_eq (call_meets F.slot_tuple_eq ty F.entry_tuple_eq (F.args_tuple_eq_2 _ _) (own_tuple l y C items n dd sl) ⟨hl, i, ns, rfl, rfl, rfl⟩)
theorem dec_dict {l : Addr} {ol : Obj} (hl : s.heap.get? l = some ol) (el : ol.cls = .type "dict") (i : InsOf s.heap y C) (ns : NotSub s.heap C "dict") : Decl prog w A E s (.ref l) y :=
  have ty : s.TypeIs (.ref l) "dict" := ⟨_, hl, el⟩
  wpAny_tryCompare_declines ty F.slot_dict_eq (call_meets F.slot_dict_eq ty F.entry_dict_eq (F.args_dict_eq_2 _ _) (own_dict l y C ol) ⟨hl, el, i, ns, rfl, rfl, rfl⟩)
end
end PySem.SeqAt
namespace DL
open PySem PySem.Spec PyProof.Rows L2 PySem.SeqAt
def eqTys : List String := ["NoneType", "str", "list", "dict", "tuple"]
def tyE : D → Option String
  | .non => some "NoneType"
  | .str _ => some "str"
  | .lst _ => some "list"
  | .dic _ => some "dict"
  | .tup _ => some "tuple"
  | _ => none
def NoTys (K : PySem.W.Frag) (c : Str) : Prop := ∀ T ∈ eqTys, PySem.W.kitOne K (.ref (He.ga K c)) (.type T) = some false
theorem NoTys.mro {K : PySem.W.Frag} {c : Str} (h : NoTys K c) {T : String} (m : T ∈ eqTys) : PySem.W.mroIn K (He.ga K c) (.type T) = some false := by
  have h1 := h T m
  unfold PySem.W.kitOne at h1
  rw [if_neg (by intro z; cases eq_of_beq z)] at h1
  unfold PySem.W.kitCls at h1
  dsimp only at h1
  split at h1
  · exact h1
  · cases h1
theorem noTys_of {K : PySem.W.Frag} {c : Str} (h1 : PySem.W.kitOne K (.ref (He.ga K c)) (.type "NoneType") = some false) (h2 : PySem.W.kitOne K (.ref (He.ga K c)) (.type "str") = some false) (h3 : PySem.W.kitOne K (.ref (He.ga K c)) (.type "list") = some false)
    (h4 : PySem.W.kitOne K (.ref (He.ga K c)) (.type "dict") = some false) (h5 : PySem.W.kitOne K (.ref (He.ga K c)) (.type "tuple") = some false) : NoTys K c := fun T m => by
  simp only [eqTys, List.mem_cons, List.not_mem_nil, or_false] at m
  rcases m with rfl | rfl | rfl | rfl | rfl
  · exact h1
  · exact h2
  · exact h3
  · exact h4
  · exact h5
theorem tyE_mem {d : D} {T : String} (h : tyE d = some T) : T ∈ eqTys := by
  cases d <;> cases h <;> simp [eqTys]
def insC (c : Str) : D → Bool
  | .ins c' _ => decide (c' = c)
  | _ => false
section
variable {X : Cx} {n : Nat} {f : Addr} {fd : FuncData} {ps : List Str} {m : Mir} {c : Str} {pins : List (Addr × Obj)} {σ : St} {H Hs : Hp} {s : Shared}
theorem own_call (F : FnG X.prog X.w X.K X.mg X.base (L2.CX X.prog X.w) n f fd ps (spD X.K 2 m)) (hb : Binds X.K fd ps [])
    {A : Around} (hr : Room n A) (hfr : A.frames = X.A.frames) (ng : NoG A) (I : Inv X pins σ H s) (ba : Bare Hs) (hS : Sub Hs H) {x y : D} {v u : V} {vv uu : Value} {b : Bool} (dx : Den X.K Hs x v) (dy : Den X.K Hs y u) (em : m [x, y] none = .ok (.bl b) none) (rv : RelV v vv) (ru : RelV u uu) :
    wpAny (model X.prog X.w) A (call (.ref f) [vv, uu]) (PySem.W.CmpBack fun r s' => r = .bool b ∧ ∃ H', Inv X pins σ H' s' ∧ GE H H') X.xe s := by
  have hsp : spD X.K 2 m [v, u] H (fun v H' => v = .bl b ∧ GE H H') E0 := by
    refine ⟨rfl, _, [x, y], none, relX_none ba hS, ?_, ?_⟩
    · unfold DenL
      refine ⟨_, _, rfl, dx, ?_⟩
      unfold DenL
      refine ⟨_, _, rfl, dy, ?_⟩
      unfold DenL
      rfl
    · rw [em]
      intro v H' G' l r' dv
      unfold Den at dv
      refine ⟨dv, fun p o e => r'.fx p o (by rw [l.fx]; exact e), fun p ob u e nt => ?_⟩
      have z := r'.lo p ob u e nt
      rw [l.fx] at z
      exact z
  have e0 : Env0 X.prog X.w X.K X.mg X.base A X.stack s H := by
    have e := I.env0
    exact ⟨by rw [hfr]; exact e.frames, e.mod, e.bs, e.bsz, e.funs, e.frf, e.hok, e.bare⟩
  have hl := F.len _ _ _ _ hsp
  have r2 : Vals [v, u] [vv, uu] := .cons rv (.cons ru .nil)
  refine wpAny_call (codeAny_mono (F.run A X.stack s H ⟨[vv, uu], []⟩ [vv, uu] [v, u] _ E0 hr ng e0 (by
    have w := hb s [vv, uu] I.kIn (by simpa using hl)
    simpa using w) r2 hsp) fun r s' hq => ?_)
  cases r with
  | error e => exact passL pins σ H s e s' I hq
  | ok fl =>
    cases fl with
    | ret w =>
      obtain ⟨z, H', I', rz, ez, ex⟩ := I.after hq
      subst ez
      cases rz
      exact ⟨rfl, H', I', ex⟩
    | next => exact False.elim hq
    | brk => exact False.elim hq
    | cont => exact False.elim hq
theorem ty_at (I : Inv X pins σ H s) (ba : Bare Hs) (hS : Sub Hs H) {d : D} {v : V} {vv : Value} {T : String} (h : tyE d = some T) (dv : Den X.K Hs d v) (r : RelV v vv) : s.TypeIs vv T := by
  cases d with
  | non => cases h; unfold Den at dv; subst dv; cases r; exact rfl
  | str z => cases h; unfold Den at dv; subst dv; obtain ⟨t, rfl⟩ := r; exact typeIs_str s z t
  | lst xs =>
    cases h; unfold Den at dv
    obtain ⟨a, vs, rfl, ha, _⟩ := dv
    cases r
    obtain ⟨its, r1, p1, _⟩ := I.list (sub_l (K := X.K) ba hS (.of ha))
    obtain ⟨k1, dd1, sl1, e1⟩ := plain_shape p1.isList
    exact ⟨_, e1, rfl⟩
  | tup xs =>
    cases h; unfold Den at dv
    obtain ⟨a, vs, rfl, ha, _⟩ := dv
    cases r
    obtain ⟨its, r1, ⟨o, ho, hc, _⟩, _⟩ := I.tuple (sub_t (K := X.K) ba hS ha)
    exact ⟨o, ho, hc⟩
  | dic ks =>
    cases h; unfold Den at dv
    obtain ⟨a, vs, rfl, ha, _⟩ := dv
    cases r
    obtain ⟨_, _, _, _, o, es, ep, ho, hd, _⟩ := dk_rd I.hok (sub_rd hS ha)
    exact ⟨_, ho, hd.1⟩
  | _ => cases h
theorem ty_looks {vv : Value} {T : String} (h : s.TypeIs vv T) : PySem.W.Looks (model X.prog X.w) s.heap (typeOf vv) (.type T) := by
  cases vv with
  | ref a =>
    obtain ⟨o, ho, hc⟩ := h
    exact hc ▸ (PySem.W.Looks.ld (part := none) ho).andThen .now
  | _ => exact PySem.W.Looks.of_pure h
theorem dec_at (I : Inv X pins σ H s) (ba : Bare Hs) (hS : Sub Hs H) {A : Around} {E : Value → Shared → Prop} {d : D} {v : V} {vv : Value} {T : String} {y : Addr} (h : tyE d = some T) (dv : Den X.K Hs d v) (r : RelV v vv) (nt : NoTys X.K c) (i : InsOf s.heap y (He.ga X.K c)) : Decl X.prog X.w A E s vv y := by
  obtain ⟨mm, hF⟩ := I.fr
  have ns : ∀ T ∈ eqTys, NotSub s.heap (He.ga X.K c) T := fun T m prog w => PySem.W.looks_mroIn (I.ok.mod.kin.keeps hF.keep) (nt.mro m)
  cases d with
  | non => cases h; unfold Den at dv; subst dv; cases r; exact dec_none
  | str z => cases h; unfold Den at dv; subst dv; obtain ⟨t, rfl⟩ := r; exact dec_str i
  | lst xs =>
    cases h; unfold Den at dv
    obtain ⟨a, vs, rfl, ha, _⟩ := dv
    cases r
    obtain ⟨its, r1, p1, _⟩ := I.list (sub_l (K := X.K) ba hS (.of ha))
    obtain ⟨k1, dd1, sl1, e1⟩ := plain_shape p1.isList
    exact dec_list e1 i (ns _ (by simp [eqTys]))
  | tup xs =>
    cases h; unfold Den at dv
    obtain ⟨a, vs, rfl, ha, _⟩ := dv
    cases r
    obtain ⟨its, r1, ⟨⟨oc, od, oa, os⟩, ho, hc, n, hd⟩, _⟩ := I.tuple (sub_t (K := X.K) ba hS ha)
    dsimp only at hc hd
    subst hc hd
    exact dec_tuple ho i (ns _ (by simp [eqTys]))
  | dic ks =>
    cases h; unfold Den at dv
    obtain ⟨a, vs, rfl, ha, _⟩ := dv
    cases r
    obtain ⟨_, _, _, _, o, es, ep, ho, hd, _⟩ := dk_rd I.hok (sub_rd hS ha)
    exact dec_dict ho hd.1 i (ns _ (by simp [eqTys]))
  | _ => cases h
def ansB : Rf → Option Bool
  | .ok (.bl b) none => some b
  | _ => none
theorem ansB_some {r : Rf} {b : Bool} (h : ansB r = some b) : r = .ok (.bl b) none := by
  unfold ansB at h
  split at h
  · cases h; rfl
  · cases h
def eqOk (c : Str) (m : Mir) (d e : D) : Option Bool :=
  if insC c d = true then (if insC c e = true ∨ (tyE e).isSome = true then ansB (m [d, e] none) else none)
  else if insC c e = true ∧ (tyE d).isSome = true then ansB (m [e, d] none) else none
theorem ins_at (I : Inv X pins σ H s) (hS : Sub Hs H) {d : D} {v : V} {vv : Value} (h : insC c d = true) (dv : Den X.K Hs d v) (r : RelV v vv) : ∃ a dx od, vv = .ref a ∧ PySem.W.InstAt s.heap a (PySem.W.instObj (He.ga X.K c) dx) (He.ga X.K c) od := by
  cases d with
  | ins c' fs =>
    have ec : c' = c := of_decide_eq_true h
    subst ec
    unfold Den at dv
    obtain ⟨a, ox, hx, rfl, ha, _⟩ := dv
    cases r
    obtain ⟨mA, J, _⟩ := ins_get I.hok (sub_raw hS ha (fun z => z))
    obtain ⟨od, J, _⟩ := J.look
    exact ⟨a, ox, _, rfl, J⟩
  | _ => cases h
theorem notFirst_ty {K : PySem.W.Frag} {C : Addr} {T : String} (m : T ∈ eqTys) : PySem.W.notFirst K C (.type T) = true := by
  simp only [eqTys, List.mem_cons, List.not_mem_nil, or_false] at m
  rcases m with rfl | rfl | rfl | rfl | rfl <;> rfl
theorem rc_own (F : FnG X.prog X.w X.K X.mg X.base (L2.CX X.prog X.w) n f fd ps (spD X.K 2 m)) (hs : PySem.W.findIn X.K (.ref (He.ga X.K c)) "__eq__" = some (some (.ref f))) (hf : PySem.W.isFn X.K (.ref f) = true) (hb : Binds X.K fd ps []) (nt : NoTys X.K c)
    {A : Around} (hr : Room n A) (hfr : A.frames = X.A.frames) (ng : NoG A) (I : Inv X pins σ H s) (ba : Bare Hs) (hS : Sub Hs H) {x y : D} {v u : V} {vv uu : Value} {b : Bool} (dx : Den X.K Hs x v) (dy : Den X.K Hs y u) (e : eqOk c m x y = some b) (rv : RelV v vv) (ru : RelV u uu) :
    wpAny (model X.prog X.w) A (richCompare .Eq vv uu) (fun r s' => r = .bool b ∧ ∃ H', Inv X pins σ H' s' ∧ GE H H') X.xe s := by
  obtain ⟨mm, hF⟩ := I.fr
  unfold eqOk at e
  by_cases c1 : insC c x = true
  · rw [if_pos c1] at e
    obtain ⟨a, ax, od, rfl, J⟩ := ins_at I hS c1 dx rv
    split at e
    · rename_i c2
      have em := ansB_some e
      have back := own_call F hb hr hfr ng I ba hS dx dy em rv ru
      rcases c2 with c2 | c2
      · obtain ⟨a', ax', od', rfl, J'⟩ := ins_at I hS c2 dy ru
        exact PySem.W.cmp_K (op := .Eq) (tb := .ref (He.ga X.K c)) hr.units0 hF I.ok.mod.kin J J'.type (by simp [PySem.W.notFirst]) hs hf back
      · obtain ⟨T, eT⟩ := Option.isSome_iff_exists.mp c2
        exact PySem.W.cmp_K (op := .Eq) (tb := .type T) hr.units0 hF I.ok.mod.kin J (ty_looks (ty_at I ba hS eT dy ru)) (notFirst_ty (tyE_mem eT)) hs hf back
    · cases e
  · rw [if_neg c1] at e
    split at e
    · rename_i c2
      obtain ⟨T, eT⟩ := Option.isSome_iff_exists.mp c2.2
      obtain ⟨a, ax, od, rfl, J⟩ := ins_at I hS c2.1 dy ru
      have em := ansB_some e
      have back := own_call F hb hr hfr ng I ba hS dy dx em ru rv
      have ty := ty_at I ba hS eT dx rv
      have dec := dec_at (A := A) (E := X.xe) I ba hS eT dx rv nt ⟨ax, J.at_⟩
      have kin := I.ok.mod.kin.keeps hF.keep
      have two : wpAny (model X.prog X.w) A (tryCompare (.ref a) "__eq__" vv) (fun r s1 => ∃ z, r = some z ∧ z = .bool b ∧ ∃ H', Inv X pins σ H' s1 ∧ GE H H') X.xe s := by
        unfold tryCompare
        refine wpAny_bind (PySem.W.ifBound_K kin J hs hf (wpAny_mono back (fun z s1 hz => ?_) fun _ _ w => w))
        cases z <;> first | exact hz.elim | exact wpAny_pure ⟨_, rfl, hz⟩
      simp only [richCompare, cmpInfo_Eq, ty.oneThing_none]
      refine wpAny_holding (wpAny_bind (wpAny_cRoomFor hr.units0 (wpAny_bind (wpAny_typeOf ty (wpAny_bind (J.type.here ?_))))))
      rw [if_pos (by simp)]
      refine wpAny_bind ((PySem.W.looks_mroIn kin (nt.mro (tyE_mem eT))).here ?_)
      simp only [Bool.false_eq_true, if_false, Bool.not_false, if_true]
      refine wpAny_bind (m := tryCompare vv _ (.ref a)) (wpAny_mono dec (fun r s1 ⟨z1, z2⟩ => ?_) fun _ _ w => w)
      subst z1 z2
      refine wpAny_bind (m := tryCompare (.ref a) _ vv) (wpAny_mono two (fun r s2 ⟨z, z1, z2⟩ => ?_) fun _ _ w => w)
      subst z1
      exact wpAny_pure z2
    · cases e
def rOwn (K : PySem.W.Frag) (c : Str) (m : Mir) : R2 := fun x y H Q => ∃ Hs d e b, Bare Hs ∧ Sub Hs H ∧ Den K Hs d x ∧ Den K Hs e y ∧ eqOk c m d e = some b ∧ ∀ H', GE H H' → Q (.bl b) H'
theorem op_own (F : FnG X.prog X.w X.K X.mg X.base (L2.CX X.prog X.w) n f fd ps (spD X.K 2 m)) (hs : PySem.W.findIn X.K (.ref (He.ga X.K c)) "__eq__" = some (some (.ref f))) (hf : PySem.W.isFn X.K (.ref f) = true) (hb : Binds X.K fd ps []) (nt : NoTys X.K c)
    (hr : Room n X.A) (ng : NoG X.A) : OpR X (compareOp .Eq) (rOwn X.K c m) := by
  intro pins s σ H x y v u Q I rx ry ⟨Hs, d, e, b, ba, hS, dx, dy, eq, q⟩
  refine wpAny_mono (rc_own F hs hf hb nt hr rfl ng I ba hS dx dy eq rx ry) (fun r s' ⟨er, H', I', g⟩ => ?_) fun _ _ z => z
  subst er
  exact ⟨.bl b, H', I', rfl, q H' g⟩
end
def ownM (c : Str) (m : Mir) (d e : D) : M A := match eqOk c m d e with
  | some b => pur (.d (.bl b))
  | none => bad
def gOwn2 (c : Str) (m : Mir) (ga gb : M A) : M A := bnd ga fun a => bnd gb fun b => bnd (force a) fun d => bnd (force b) fun e => ownM c m d e
section
variable {X : Cx} {E : XK} {n : Nat} {f : Addr} {fd : FuncData} {ps : List Str} {m : Mir} {c : Str} {e1 e2 : Expr} {ga gb : M A} {pos : Pos}
theorem d_own2 {σ : St} {H : Hp} {Q : VK} (h : tD X.K E (gOwn2 c m ga gb) σ H Q) : tOp (rOwn X.K c m) (tD X.K E ga) (tD X.K E gb) σ H Q := by
  obtain ⟨G, s, r, h⟩ := h
  exact (
    stepE ipE h r fun x H1 G1 av s1 l1 r1 ad1 h1 => stepE ipE h1 r1 fun y H2 G2 bv s2 l2 r2 ad2 h2 => by
      obtain ⟨d, s3, G3, l3, r3, dx, h3⟩ := stepForce ipE h2 r2 (ad1.le l2)
      obtain ⟨e, s4, G4, l4, r4, dy, h4⟩ := stepForce ipE h3 r3 (ad2.le l3)
      have dx := dx.le l4.hs
      have h5 : PostE X.K E G4 σ Q (ownM c m d e s4) := h4
      unfold ownM at h5
      cases q : eqOk c m d e with
      | some b =>
        rw [q] at h5
        exact ⟨G4.Hs, d, e, b, r4.x.ba, r4.x.hs, dx, dy, q, fun H' g => h5 _ H' G4 (.refl G4) (r4.ge g) (by show Den _ _ _ _; unfold Den; rfl)⟩
      | none => rw [q] at h5; exact h5.elim)
theorem de_own2 (F : FnG X.prog X.w X.K X.mg X.base (L2.CX X.prog X.w) n f fd ps (spD X.K 2 m)) (hs : PySem.W.findIn X.K (.ref (He.ga X.K c)) "__eq__" = some (some (.ref f))) (hf : PySem.W.isFn X.K (.ref f) = true) (hb : Binds X.K fd ps []) (nt : NoTys X.K c)
    (hr : Room n X.A) (ng : NoG X.A) (h1 : DE X E e1 ga) (h2 : DE X E e2 gb) (hm : behindInMarks .Eq e2 = false) : DE X E (.Compare e1 [.Eq] [e2] pos) (gOwn2 c m ga gb) :=
  (pe_cmpR (op_own F hs hf hb nt hr ng) h1 h2 hm).imp fun σ H Q h => d_own2 h
theorem dt_own2 (F : FnG X.prog X.w X.K X.mg X.base (L2.CX X.prog X.w) n f fd ps (spD X.K 2 m)) (hs : PySem.W.findIn X.K (.ref (He.ga X.K c)) "__eq__" = some (some (.ref f))) (hf : PySem.W.isFn X.K (.ref f) = true) (hb : Binds X.K fd ps []) (nt : NoTys X.K c)
    (hr : Room n X.A) (ng : NoG X.A) (h1 : DE X E e1 ga) (h2 : DE X E e2 gb) (hm : behindInMarks .Eq e2 = false) : DT X E (.Compare e1 [.Eq] [e2] pos) (gTest (gOwn2 c m ga gb)) := (pt_cmpR (op_own F hs hf hb nt hr ng) h1 h2 hm).imp fun σ H Q q => by
  obtain ⟨G, s, r, h⟩ := q
  have h' : PostT X.K E G σ Q (bnd (gOwn2 c m ga gb) (fun a => bnd (pk a) fun d => match d with | .bl b => pur b | _ => bad) s) := h
  have z : tD X.K E (gOwn2 c m ga gb) σ H (fun x H' => ∃ k, x = .bl k ∧ Q k H') := stepE ipT h' r fun x H1 G1 av s1 l1 r1 ad1 h1 => by
    obtain ⟨d, e1, h3⟩ := stepPk ipT h1
    cases d with
    | bl b =>
      have y' : Den X.K G1.Hs (.bl b) x := r1.peek ad1 e1
      unfold Den at y'
      exact ⟨b, y', h3 H1 G1 (.refl G1) r1⟩
    | _ => exact h3.elim
  exact d_own2 z
end
end DL
end
section
namespace DL
open PySem PySem.Spec PyProof.Rows L2
def rgD2 (i j : Int) : List D := (List.range (j - i).toNat).map fun k => .int (i + (k : Nat))
def gListRange2 (ga gb : M A) : M A := bnd ga fun a => bnd gb fun b => bnd (pk a) fun d => bnd (pk b) fun e => match d, e with
  | .int i, .int j => if (-1000000 ≤ i ∧ i ≤ 1000000) ∧ -1000000 ≤ j ∧ j ≤ 1000000 then pur (.d (.lst (rgD2 i j))) else bad
  | _, _ => bad
theorem den_rg2 {K : PySem.W.Frag} {Hs : Hp} (i j : Int) : DenL K Hs (rgD2 i j) (rgV i j) := by
  unfold rgD2 rgV
  refine DenL.of_forall (by simp) fun n d v h1 h2 => ?_
  rw [List.getElem?_map] at h1 h2
  cases q : (List.range (j - i).toNat)[n]? with
  | none => rw [q] at h1; cases h1
  | some m =>
    rw [q] at h1 h2
    simp only [Option.map_some, Option.some.injEq] at h1 h2
    subst h1 h2
    unfold Den
    rfl
section
variable {X : Cx} {E : XK} {a b : Expr} {ga gb : M A} {tg : Expr} {pos : Pos}
theorem dj_range2 {p : Pos} (hg : Gl X "range") (hm : X.mg "range" = none) (ha : DE X E a ga) (hb : DE X E b gb)
    (hs : starEach [a, b] X.env = [(false, eval a X.env), (false, eval b X.env)] := by rfl) (hs2 : starEach [b] X.env = [(false, eval b X.env)] := by rfl) : DJ X E tg (.Call (.Name "range" p) [a, b] [] pos) (gRange2 ga gb) :=
  (pi_range2 hg hm (pa_cons ha (pa_cons hb pa_nil (by rw [hs2]; rfl)) (by rw [hs, hs2])) hs hs2).imp fun σ H R ⟨G, s, r, h⟩ =>
    stepE ipJ h r fun x H1 G1 av s1 l1 r1 ad1 h1 => stepE ipJ h1 r1 fun y H2 G2 bv s2 l2 r2 ad2 h2 => by
      obtain ⟨d, e1, h4⟩ := stepPk ipJ h2
      obtain ⟨e, e2, h5⟩ := stepPk ipJ h4
      have d1 := r2.peek (ad1.le l2) e1
      have d2 := r2.peek ad2 e2
      cases d with
      | int i =>
        cases e with
        | int j =>
          have h6 : PostJ X E G2 σ R ((if (-(2 ^ 62) ≤ i ∧ i < 2 ^ 62) ∧ -(2 ^ 62) ≤ j ∧ j < 2 ^ 62 then pur ((List.range (j - i).toNat).map fun k => D.int (i + (k : Nat))) else bad) s2) := h5
          by_cases c : (-(2 ^ 62) ≤ i ∧ i < 2 ^ 62) ∧ -(2 ^ 62) ≤ j ∧ j < 2 ^ 62
          · rw [if_pos c] at h6
            rw [denH_int d1, denH_int d2]
            exact ⟨i, j, rfl, ⟨c.1.1, c.1.2, c.2.1, c.2.2⟩, h6 _ H2 G2 (.refl G2) r2 itok_range⟩
          · rw [if_neg c] at h6; exact h6.elim
        | _ => exact h5.elim
      | _ => exact h5.elim
theorem de_listRange2 {p p2 q : Pos} (hg : Gl X "list") (hm : X.mg "list" = none) (hg2 : Gl X "range") (hm2 : X.mg "range" = none) (ha : DE X E a ga) (hb : DE X E b gb) (hc : X.calm = true := by rfl)
    (na : starEach [a, b] X.env = (false, eval a X.env) :: starEach [b] X.env := by rfl) (nb : starEach [b] X.env = (false, eval b X.env) :: starEach [] X.env := by rfl) (hp : (backTo q (starEach [b] X.env)).any (·.1) = false := by rfl)
    (nc : starEach [(.Call (.Name "range" p2) [a, b] [] q : Expr)] X.env = (false, eval (.Call (.Name "range" p2) [a, b] [] q) X.env) :: starEach [] X.env := by rfl) :
    DE X E (.Call (.Name "list" p) [.Call (.Name "range" p2) [a, b] [] q] [] pos) (gListRange2 ga gb) :=
  (pe_listRg hc hg hm (prg_2 hg2 hm2 ha hb na nb hp) nc).imp fun σ H Q ⟨G, s, r, h⟩ => stepE ipE h r fun x H1 G1 av s1 l1 r1 ad1 h1 => stepE ipE h1 r1 fun y H2 G2 bv s2 l2 r2 ad2 h2 => by
      obtain ⟨d, e1, h4⟩ := stepPk ipE h2
      obtain ⟨e, e2, h5⟩ := stepPk ipE h4
      have d1 := r2.peek (ad1.le l2) e1
      have d2 := r2.peek ad2 e2
      cases d with
      | int i =>
        cases e with
        | int j =>
          have h6 : PostE X.K E G2 σ Q ((if (-1000000 ≤ i ∧ i ≤ 1000000) ∧ -1000000 ≤ j ∧ j ≤ 1000000 then pur (.d (.lst (rgD2 i j))) else bad : M A) s2) := h5
          by_cases c : (-1000000 ≤ i ∧ i ≤ 1000000) ∧ -1000000 ≤ j ∧ j ≤ 1000000
          · rw [if_pos c] at h6
            refine ⟨i, j, denH_int d1, denH_int d2, ⟨by omega, by omega, by omega, by omega, by omega⟩, fun q hq => ?_⟩
            have ho : DenO X.K G2.Hs (.lst (rgD2 i j)) (.lst (rgV i j)) := den_lst (den_rg2 i j)
            obtain ⟨_, f2, _, _⟩ := r2.x.fresh hq
            have l3 := Gh.le_add (G := G2) (p := q) (o := .lst (rgV i j)) f2
            exact h6 (.ref q) _ (G2.add q (.lst (rgV i j))) l3 (r2.new hq ho.noFrz) (den_root (by show upd G2.Hs q _ q = _; exact upd_same) (ho.le l3.hs))
          · rw [if_neg c] at h6; exact h6.elim
        | _ => exact h5.elim
      | _ => exact h5.elim
end
end DL
end
section
namespace Lw
open PySem PySem.Spec PyProof.Rows L2 DL
def fdA (K : PySem.W.Frag) (a : Addr) : FuncData := match K.lookup a with
  | some ⟨_, _, .func fd, _⟩ => fd
  | _ => PySem.W.fnOf "" "" ⟨[], [], none, [], [], none, []⟩ [] ⟨.function, [], false, false, []⟩ .none .none .none .none none .none .none
abbrev N_law_begun : List Str := ["_law_script", "_law_lump", "_law_great"]
theorem sc_law_begun : FnScope N_law_begun ["_law_script"] (defScope s_law_begun) := ⟨by kernel_rfl, by kernel_rfl, by kernel_rfl, by decide +kernel, by kernel_rfl, by decide +kernel, by decide +kernel⟩
abbrev N_Write___eq__ : List Str := ["self", "other"]
theorem sc_Write___eq__ : FnScope N_Write___eq__ ["self", "other"] (defScope s_Write___eq__) := ⟨by kernel_rfl, by kernel_rfl, by kernel_rfl, by decide +kernel, by kernel_rfl, by decide +kernel, by decide +kernel⟩
abbrev N_is_number : List Str := ["thing", "low", "high"]
theorem sc_is_number : FnScope N_is_number ["thing", "low", "high"] (defScope s_is_number) := ⟨by kernel_rfl, by kernel_rfl, by kernel_rfl, by decide +kernel, by kernel_rfl, by decide +kernel, by decide +kernel⟩
abbrev N_is_cell : List Str := ["thing"]
theorem sc_is_cell : FnScope N_is_cell ["thing"] (defScope s_is_cell) := ⟨by kernel_rfl, by kernel_rfl, by kernel_rfl, by decide +kernel, by kernel_rfl, by decide +kernel, by decide +kernel⟩
abbrev N_is_value : List Str := ["thing"]
theorem sc_is_value : FnScope N_is_value ["thing"] (defScope s_is_value) := ⟨by kernel_rfl, by kernel_rfl, by kernel_rfl, by decide +kernel, by kernel_rfl, by decide +kernel, by decide +kernel⟩
abbrev N_are_cells : List Str := ["thing", "cell", "value"]
theorem sc_are_cells : FnScope N_are_cells ["thing"] (defScope s_are_cells) := ⟨by kernel_rfl, by kernel_rfl, by kernel_rfl, by decide +kernel, by kernel_rfl, by decide +kernel, by decide +kernel⟩
abbrev N_is_name : List Str := ["thing", "sign"]
theorem sc_is_name : FnScope N_is_name ["thing"] (defScope s_is_name) := ⟨by kernel_rfl, by kernel_rfl, by kernel_rfl, by decide +kernel, by kernel_rfl, by decide +kernel, by decide +kernel⟩
abbrev N_Write___init__ : List Str := ["self", "name", "cells", "required", "cell"]
theorem sc_Write___init__ : FnScope N_Write___init__ ["self", "name", "cells", "required"] (defScope s_Write___init__) := ⟨by kernel_rfl, by kernel_rfl, by kernel_rfl, by decide +kernel, by kernel_rfl, by decide +kernel, by decide +kernel⟩
abbrev N_Write_with_required : List Str := ["self", "required"]
theorem sc_Write_with_required : FnScope N_Write_with_required ["self", "required"] (defScope s_Write_with_required) := ⟨by kernel_rfl, by kernel_rfl, by kernel_rfl, by decide +kernel, by kernel_rfl, by decide +kernel, by decide +kernel⟩
abbrev N_law_differs : List Str := ["_law_formed", "_law_title", "_law_pairs_here", "_law_needed", "_law_other", "_law_others", "_law_one"]
theorem sc_law_differs : FnScope N_law_differs ["_law_formed", "_law_title", "_law_pairs_here", "_law_needed"] (defScope s_law_differs) := ⟨by kernel_rfl, by kernel_rfl, by kernel_rfl, by decide +kernel, by kernel_rfl, by decide +kernel, by decide +kernel⟩
abbrev N_Write_cells : List Str := ["self"]
theorem sc_Write_cells : FnScope N_Write_cells ["self"] (defScope s_Write_cells) := ⟨by kernel_rfl, by kernel_rfl, by kernel_rfl, by decide +kernel, by kernel_rfl, by decide +kernel, by decide +kernel⟩
abbrev N_Write_required : List Str := ["self"]
theorem sc_Write_required : FnScope N_Write_required ["self"] (defScope s_Write_required) := ⟨by kernel_rfl, by kernel_rfl, by kernel_rfl, by decide +kernel, by kernel_rfl, by decide +kernel, by decide +kernel⟩
abbrev N_Write_sets : List Str := ["self", "cell"]
theorem sc_Write_sets : FnScope N_Write_sets ["self", "cell"] (defScope s_Write_sets) := ⟨by kernel_rfl, by kernel_rfl, by kernel_rfl, by decide +kernel, by kernel_rfl, by decide +kernel, by decide +kernel⟩
abbrev N_law_is_as_made : List Str := ["_law_formed", "_law_title", "_law_pairs_here", "_law_needed", "_law_want", "_law_turn", "_law_found", "_law_asked", "_law_spot", "_law_due"]
theorem sc_law_is_as_made : FnScope N_law_is_as_made ["_law_formed", "_law_title", "_law_pairs_here", "_law_needed"] (defScope s_law_is_as_made) := ⟨by kernel_rfl, by kernel_rfl, by kernel_rfl, by decide +kernel, by kernel_rfl, by decide +kernel, by decide +kernel⟩
abbrev N_law_next : List Str := ["_law_state", "_law_size", "_law_found", "_law_turn", "_law_lump", "_law_mixed"]
theorem sc_law_next : FnScope N_law_next ["_law_state", "_law_size"] (defScope s_law_next) := ⟨by kernel_rfl, by kernel_rfl, by kernel_rfl, by decide +kernel, by kernel_rfl, by decide +kernel, by decide +kernel⟩
abbrev N_law_pick : List Str := ["_law_state", "_law_some"]
theorem sc_law_pick : FnScope N_law_pick ["_law_state", "_law_some"] (defScope s_law_pick) := ⟨by kernel_rfl, by kernel_rfl, by kernel_rfl, by decide +kernel, by kernel_rfl, by decide +kernel, by decide +kernel⟩
abbrev N_law_names : List Str := ["_law_state", "_law_many", "_law_letters", "_law_shift", "_law_step", "_law_alike", "_law_k", "_law_base", "_law_names_here", "_law_at"]
theorem sc_law_names : FnScope N_law_names ["_law_state", "_law_many"] (defScope s_law_names) := ⟨by kernel_rfl, by kernel_rfl, by kernel_rfl, by decide +kernel, by kernel_rfl, by decide +kernel, by decide +kernel⟩
abbrev N_law_shuffled : List Str := ["_law_state", "_law_some", "_law_left", "_law_found"]
theorem sc_law_shuffled : FnScope N_law_shuffled ["_law_state", "_law_some"] (defScope s_law_shuffled) := ⟨by kernel_rfl, by kernel_rfl, by kernel_rfl, by decide +kernel, by kernel_rfl, by decide +kernel, by decide +kernel⟩
abbrev N_law_spots : List Str := ["_law_state", "_law_many", "_law_first", "_law_step", "_law_k"]
theorem sc_law_spots : FnScope N_law_spots ["_law_state", "_law_many"] (defScope s_law_spots) := ⟨by kernel_rfl, by kernel_rfl, by kernel_rfl, by decide +kernel, by kernel_rfl, by decide +kernel, by decide +kernel⟩
abbrev N_law_pairs : List Str := ["_law_state", "_law_spots_here", "_law_spot"]
theorem sc_law_pairs : FnScope N_law_pairs ["_law_state"] (defScope s_law_pairs) := ⟨by kernel_rfl, by kernel_rfl, by kernel_rfl, by decide +kernel, by kernel_rfl, by decide +kernel, by decide +kernel⟩
abbrev N_law : List Str := ["_law_script", "_law_state", "_law_turn", "_law_title", "_law_other", "_law_pairs_here", "_law_needed", "_law_given", "_law_head", "_law_formed", "_law_again", "_law_plain", "_law_turned", "_law_bent", "_law_spot", "_law_more"]
theorem sc_law : FnScope N_law ["_law_script"] (defScope s_law) := ⟨by kernel_rfl, by kernel_rfl, by kernel_rfl, by decide +kernel, by kernel_rfl, by decide +kernel, by decide +kernel⟩
def qsL : List Str := []
structure Txt (K : PySem.W.Frag) (mg : Str → Option Value) (base : Heap) : Prop where
  F_law_begun : FunD K "_law_begun" "_law_begun" (defArgs s_law_begun) (defBody s_law_begun) (defScope s_law_begun) [] [] (He.ga K "_law_begun") (fdA K (He.ga K "_law_begun"))
  F_Write___eq__ : FunD K "__eq__" "Write.__eq__" (defArgs s_Write___eq__) (defBody s_Write___eq__) (defScope s_Write___eq__) [] [] (He.ma K (He.ga K "Write") "__eq__") (fdA K (He.ma K (He.ga K "Write") "__eq__"))
  F_is_number : FunD K "is_number" "is_number" (defArgs s_is_number) (defBody s_is_number) (defScope s_is_number) [] [] (He.ga K "is_number") (fdA K (He.ga K "is_number"))
  F_is_cell : FunD K "is_cell" "is_cell" (defArgs s_is_cell) (defBody s_is_cell) (defScope s_is_cell) [] [] (He.ga K "is_cell") (fdA K (He.ga K "is_cell"))
  F_is_value : FunD K "is_value" "is_value" (defArgs s_is_value) (defBody s_is_value) (defScope s_is_value) [] [] (He.ga K "is_value") (fdA K (He.ga K "is_value"))
  F_are_cells : FunD K "are_cells" "are_cells" (defArgs s_are_cells) (defBody s_are_cells) (defScope s_are_cells) [] [] (He.ga K "are_cells") (fdA K (He.ga K "are_cells"))
  F_is_name : FunD K "is_name" "is_name" (defArgs s_is_name) (defBody s_is_name) (defScope s_is_name) [] [] (He.ga K "is_name") (fdA K (He.ga K "is_name"))
  F_Write___init__ : FunD K "__init__" "Write.__init__" (defArgs s_Write___init__) (defBody s_Write___init__) (defScope s_Write___init__) [] [("required", .bl false)] (He.ma K (He.ga K "Write") "__init__") (fdA K (He.ma K (He.ga K "Write") "__init__"))
  F_Write_with_required : FunD K "with_required" "Write.with_required" (defArgs s_Write_with_required) (defBody s_Write_with_required) (defScope s_Write_with_required) [] [] (He.ma K (He.ga K "Write") "with_required") (fdA K (He.ma K (He.ga K "Write") "with_required"))
  F_law_differs : FunD K "_law_differs" "_law_differs" (defArgs s_law_differs) (defBody s_law_differs) (defScope s_law_differs) [] [] (He.ga K "_law_differs") (fdA K (He.ga K "_law_differs"))
  F_Write_cells : FunD K "cells" "Write.cells" (defArgs s_Write_cells) (defBody s_Write_cells) (defScope s_Write_cells) [] [] (He5.wf K (He.ga K "Write") "property" "cells") (fdA K (He5.wf K (He.ga K "Write") "property" "cells"))
  F_Write_required : FunD K "required" "Write.required" (defArgs s_Write_required) (defBody s_Write_required) (defScope s_Write_required) [] [] (He5.wf K (He.ga K "Write") "property" "required") (fdA K (He5.wf K (He.ga K "Write") "property" "required"))
  F_Write_sets : FunD K "sets" "Write.sets" (defArgs s_Write_sets) (defBody s_Write_sets) (defScope s_Write_sets) [] [] (He.ma K (He.ga K "Write") "sets") (fdA K (He.ma K (He.ga K "Write") "sets"))
  F_law_is_as_made : FunD K "_law_is_as_made" "_law_is_as_made" (defArgs s_law_is_as_made) (defBody s_law_is_as_made) (defScope s_law_is_as_made) [] [] (He.ga K "_law_is_as_made") (fdA K (He.ga K "_law_is_as_made"))
  F_law_next : FunD K "_law_next" "_law_next" (defArgs s_law_next) (defBody s_law_next) (defScope s_law_next) [] [] (He.ga K "_law_next") (fdA K (He.ga K "_law_next"))
  F_law_pick : FunD K "_law_pick" "_law_pick" (defArgs s_law_pick) (defBody s_law_pick) (defScope s_law_pick) [] [] (He.ga K "_law_pick") (fdA K (He.ga K "_law_pick"))
  F_law_names : FunD K "_law_names" "_law_names" (defArgs s_law_names) (defBody s_law_names) (defScope s_law_names) [] [] (He.ga K "_law_names") (fdA K (He.ga K "_law_names"))
  F_law_shuffled : FunD K "_law_shuffled" "_law_shuffled" (defArgs s_law_shuffled) (defBody s_law_shuffled) (defScope s_law_shuffled) [] [] (He.ga K "_law_shuffled") (fdA K (He.ga K "_law_shuffled"))
  F_law_spots : FunD K "_law_spots" "_law_spots" (defArgs s_law_spots) (defBody s_law_spots) (defScope s_law_spots) [] [] (He.ga K "_law_spots") (fdA K (He.ga K "_law_spots"))
  F_law_pairs : FunD K "_law_pairs" "_law_pairs" (defArgs s_law_pairs) (defBody s_law_pairs) (defScope s_law_pairs) [] [] (He.ga K "_law_pairs") (fdA K (He.ga K "_law_pairs"))
  F_law : FunD K "law" "law" (defArgs s_law) (defBody s_law) (defScope s_law) [] [] (He.ga K "law") (fdA K (He.ga K "law"))
  M_Write : Mk K (He.ga K "Write") (He.ma K (He.ga K "Write") "__init__")
  c_Write : Cls K (He.ga K "Write")
  g_Write : mg "Write" = some (.ref (He.ga K "Write"))
  g_are_cells : mg "are_cells" = some (.ref (He.ga K "are_cells"))
  g_is_cell : mg "is_cell" = some (.ref (He.ga K "is_cell"))
  g_is_name : mg "is_name" = some (.ref (He.ga K "is_name"))
  g_is_number : mg "is_number" = some (.ref (He.ga K "is_number"))
  g_is_value : mg "is_value" = some (.ref (He.ga K "is_value"))
  g_law_begun : mg "_law_begun" = some (.ref (He.ga K "_law_begun"))
  g_law_differs : mg "_law_differs" = some (.ref (He.ga K "_law_differs"))
  g_law_is_as_made : mg "_law_is_as_made" = some (.ref (He.ga K "_law_is_as_made"))
  g_law_names : mg "_law_names" = some (.ref (He.ga K "_law_names"))
  g_law_next : mg "_law_next" = some (.ref (He.ga K "_law_next"))
  g_law_pairs : mg "_law_pairs" = some (.ref (He.ga K "_law_pairs"))
  g_law_pick : mg "_law_pick" = some (.ref (He.ga K "_law_pick"))
  g_law_shuffled : mg "_law_shuffled" = some (.ref (He.ga K "_law_shuffled"))
  g_law_spots : mg "_law_spots" = some (.ref (He.ga K "_law_spots"))
  kn_Write_NoneType : PySem.W.kitOne K (.ref (He.ga K "Write")) (.type "NoneType") = some false
  kn_Write_dict : PySem.W.kitOne K (.ref (He.ga K "Write")) (.type "dict") = some false
  kn_Write_list : PySem.W.kitOne K (.ref (He.ga K "Write")) (.type "list") = some false
  kn_Write_str : PySem.W.kitOne K (.ref (He.ga K "Write")) (.type "str") = some false
  kn_Write_tuple : PySem.W.kitOne K (.ref (He.ga K "Write")) (.type "tuple") = some false
  m_Write___eq__ : Meth K (He.ga K "Write") "__eq__" (He.ma K (He.ga K "Write") "__eq__")
  m_Write_sets : Meth K (He.ga K "Write") "sets" (He.ma K (He.ga K "Write") "sets")
  m_Write_with_required : Meth K (He.ga K "Write") "with_required" (He.ma K (He.ga K "Write") "with_required")
  n_abs : mg "abs" = none
  n_all : mg "all" = none
  n_bool : mg "bool" = none
  n_dict : mg "dict" = none
  n_int : mg "int" = none
  n_isinstance : mg "isinstance" = none
  n_len : mg "len" = none
  n_list : mg "list" = none
  n_range : mg "range" = none
  n_repr : mg "repr" = none
  n_sorted : mg "sorted" = none
  n_str : mg "str" = none
  na_Write_name : NoAttr K (He.ga K "Write") "name"
  na_Write_own_cells : NoAttr K (He.ga K "Write") "own_cells"
  na_Write_own_need : NoAttr K (He.ga K "Write") "own_need"
  p_Write_cells : PropOf K (He.ga K "Write") "cells" (He.ma K (He.ga K "Write") "cells") (He5.wf K (He.ga K "Write") "property" "cells")
  p_Write_required : PropOf K (He.ga K "Write") "required" (He.ma K (He.ga K "Write") "required") (He5.wf K (He.ga K "Write") "property" "required")
  sys : SysD K
  v_LETTERS : ∃ t, mg "LETTERS" = some (.str "abcdefghijklmnopqrstuvwxyz" t)
  v_LONGEST : ∃ t, mg "LONGEST" = some (.int 8 t)
  v_MOST_CELL : ∃ t, mg "MOST_CELL" = some (.int 15 t)
  v_MOST_VALUE : ∃ t, mg "MOST_VALUE" = some (.int 9 t)
  o_Write : OwnTy K "Write"
  i_Write_bool : PySem.W.kitOne K (.ref (He.ga K "Write")) (.type "bool") = some false
  i_Write_dict : PySem.W.kitOne K (.ref (He.ga K "Write")) (.type "dict") = some false
  i_Write_int : PySem.W.kitOne K (.ref (He.ga K "Write")) (.type "int") = some false
  i_Write_str : PySem.W.kitOne K (.ref (He.ga K "Write")) (.type "str") = some false
  i_NoneType_Write : PySem.W.kitOne K (.type "NoneType") (.ref (He.ga K "Write")) = some false
  i_bool_Write : PySem.W.kitOne K (.type "bool") (.ref (He.ga K "Write")) = some false
  i_int_Write : PySem.W.kitOne K (.type "int") (.ref (He.ga K "Write")) = some false
  i_str_Write : PySem.W.kitOne K (.type "str") (.ref (He.ga K "Write")) = some false
  i_list_Write : PySem.W.kitOne K (.type "list") (.ref (He.ga K "Write")) = some false
  i_tuple_Write : PySem.W.kitOne K (.type "tuple") (.ref (He.ga K "Write")) = some false
  i_dict_Write : PySem.W.kitOne K (.type "dict") (.ref (He.ga K "Write")) = some false
section
variable {K : PySem.W.Frag} {mg : Str → Option Value} {base : Heap}
def tab_Write : List (TyN × Bool) := [(.b "NoneType", false), (.b "bool", false), (.b "int", false), (.b "str", false), (.b "list", false), (.b "tuple", false), (.b "dict", false), (.own "Write", true)]
theorem isk_Write (T : Txt K mg base) : ∀ t b, (t, b) ∈ tab_Write → PySem.W.kitOne K (t.val K) (.ref (He.ga K "Write")) = some b := (tabs_cons (T.i_NoneType_Write) (tabs_cons (T.i_bool_Write) (tabs_cons (T.i_int_Write) (tabs_cons (T.i_str_Write) (tabs_cons (T.i_list_Write) (tabs_cons (T.i_tuple_Write) (tabs_cons (T.i_dict_Write) (tabs_cons (kit_self) tabs_nil))))))))
theorem iso_Write (T : Txt K mg base) : ∀ c b, (TyN.own c, b) ∈ tab_Write → OwnTy K c := fun c b h => by
  simp only [tab_Write, List.mem_cons, Prod.mk.injEq, TyN.own.injEq, List.not_mem_nil, or_false, reduceCtorEq, false_and, false_or] at h
  rcases h with ⟨rfl, _⟩
  · exact T.o_Write
def tab_bool : List (TyN × Bool) := [(.b "NoneType", false), (.b "bool", true), (.b "int", false), (.b "str", false), (.b "list", false), (.b "tuple", false), (.b "dict", false), (.own "Write", false)]
theorem isk_bool (T : Txt K mg base) : ∀ t b, (t, b) ∈ tab_bool → PySem.W.kitOne K (t.val K) (.type "bool") = some b := (tabs_cons (by with_unfolding_all rfl) (tabs_cons (kit_self) (tabs_cons (by with_unfolding_all rfl) (tabs_cons (by with_unfolding_all rfl) (tabs_cons (by with_unfolding_all rfl) (tabs_cons (by with_unfolding_all rfl) (tabs_cons (by with_unfolding_all rfl) (tabs_cons (T.i_Write_bool) tabs_nil))))))))
theorem iso_bool (T : Txt K mg base) : ∀ c b, (TyN.own c, b) ∈ tab_bool → OwnTy K c := fun c b h => by
  simp only [tab_bool, List.mem_cons, Prod.mk.injEq, TyN.own.injEq, List.not_mem_nil, or_false, reduceCtorEq, false_and, false_or] at h
  rcases h with ⟨rfl, _⟩
  · exact T.o_Write
def tab_dict : List (TyN × Bool) := [(.b "NoneType", false), (.b "bool", false), (.b "int", false), (.b "str", false), (.b "list", false), (.b "tuple", false), (.b "dict", true), (.own "Write", false)]
theorem isk_dict (T : Txt K mg base) : ∀ t b, (t, b) ∈ tab_dict → PySem.W.kitOne K (t.val K) (.type "dict") = some b := (tabs_cons (by with_unfolding_all rfl) (tabs_cons (by with_unfolding_all rfl) (tabs_cons (by with_unfolding_all rfl) (tabs_cons (by with_unfolding_all rfl) (tabs_cons (by with_unfolding_all rfl) (tabs_cons (by with_unfolding_all rfl) (tabs_cons (kit_self) (tabs_cons (T.i_Write_dict) tabs_nil))))))))
theorem iso_dict (T : Txt K mg base) : ∀ c b, (TyN.own c, b) ∈ tab_dict → OwnTy K c := fun c b h => by
  simp only [tab_dict, List.mem_cons, Prod.mk.injEq, TyN.own.injEq, List.not_mem_nil, or_false, reduceCtorEq, false_and, false_or] at h
  rcases h with ⟨rfl, _⟩
  · exact T.o_Write
def tab_int : List (TyN × Bool) := [(.b "NoneType", false), (.b "bool", true), (.b "int", true), (.b "str", false), (.b "list", false), (.b "tuple", false), (.b "dict", false), (.own "Write", false)]
theorem isk_int (T : Txt K mg base) : ∀ t b, (t, b) ∈ tab_int → PySem.W.kitOne K (t.val K) (.type "int") = some b := (tabs_cons (by with_unfolding_all rfl) (tabs_cons (by with_unfolding_all rfl) (tabs_cons (kit_self) (tabs_cons (by with_unfolding_all rfl) (tabs_cons (by with_unfolding_all rfl) (tabs_cons (by with_unfolding_all rfl) (tabs_cons (by with_unfolding_all rfl) (tabs_cons (T.i_Write_int) tabs_nil))))))))
theorem iso_int (T : Txt K mg base) : ∀ c b, (TyN.own c, b) ∈ tab_int → OwnTy K c := fun c b h => by
  simp only [tab_int, List.mem_cons, Prod.mk.injEq, TyN.own.injEq, List.not_mem_nil, or_false, reduceCtorEq, false_and, false_or] at h
  rcases h with ⟨rfl, _⟩
  · exact T.o_Write
def tab_str : List (TyN × Bool) := [(.b "NoneType", false), (.b "bool", false), (.b "int", false), (.b "str", true), (.b "list", false), (.b "tuple", false), (.b "dict", false), (.own "Write", false)]
theorem isk_str (T : Txt K mg base) : ∀ t b, (t, b) ∈ tab_str → PySem.W.kitOne K (t.val K) (.type "str") = some b := (tabs_cons (by with_unfolding_all rfl) (tabs_cons (by with_unfolding_all rfl) (tabs_cons (by with_unfolding_all rfl) (tabs_cons (kit_self) (tabs_cons (by with_unfolding_all rfl) (tabs_cons (by with_unfolding_all rfl) (tabs_cons (by with_unfolding_all rfl) (tabs_cons (T.i_Write_str) tabs_nil))))))))
theorem iso_str (T : Txt K mg base) : ∀ c b, (TyN.own c, b) ∈ tab_str → OwnTy K c := fun c b h => by
  simp only [tab_str, List.mem_cons, Prod.mk.injEq, TyN.own.injEq, List.not_mem_nil, or_false, reduceCtorEq, false_and, false_or] at h
  rcases h with ⟨rfl, _⟩
  · exact T.o_Write
theorem bi_law_begun (T : Txt K mg base) : Binds K (fdA K (He.ga K "_law_begun")) ["_law_script"] [] := bN1 T.F_law_begun rfl (by intros; kernel_rfl)
theorem bi_Write___eq__ (T : Txt K mg base) : Binds K (fdA K (He.ma K (He.ga K "Write") "__eq__")) ["self", "other"] [] := bN2 T.F_Write___eq__ rfl (by intros; kernel_rfl)
theorem bi_is_number (T : Txt K mg base) : Binds K (fdA K (He.ga K "is_number")) ["thing", "low", "high"] [] := bN3 T.F_is_number rfl (by intros; kernel_rfl)
theorem bi_is_cell (T : Txt K mg base) : Binds K (fdA K (He.ga K "is_cell")) ["thing"] [] := bN1 T.F_is_cell rfl (by intros; kernel_rfl)
theorem bi_is_value (T : Txt K mg base) : Binds K (fdA K (He.ga K "is_value")) ["thing"] [] := bN1 T.F_is_value rfl (by intros; kernel_rfl)
theorem bi_are_cells (T : Txt K mg base) : Binds K (fdA K (He.ga K "are_cells")) ["thing"] [] := bN1 T.F_are_cells rfl (by intros; kernel_rfl)
theorem bi_is_name (T : Txt K mg base) : Binds K (fdA K (He.ga K "is_name")) ["thing"] [] := bN1 T.F_is_name rfl (by intros; kernel_rfl)
theorem bi0_Write___init__ (T : Txt K mg base) : ∃ ds, Vals [.bl false] ds ∧ Binds K (fdA K (He.ma K (He.ga K "Write") "__init__")) ["self", "name", "cells", "required"] ds := T.F_Write___init__.binds0 3 (by simp) rfl fun D doc pm an cdv ct us ks l1 l2 => match us, ks, l1, l2 with | [_, _, _], [_], _, _ => ⟨_, _, _, _, _, _, rfl, rfl, rfl⟩
theorem bi_Write_with_required (T : Txt K mg base) : Binds K (fdA K (He.ma K (He.ga K "Write") "with_required")) ["self", "required"] [] := bN2 T.F_Write_with_required rfl (by intros; kernel_rfl)
theorem bi_law_differs (T : Txt K mg base) : Binds K (fdA K (He.ga K "_law_differs")) ["_law_formed", "_law_title", "_law_pairs_here", "_law_needed"] [] := bN4 T.F_law_differs rfl (by intros; kernel_rfl)
theorem bi_Write_cells (T : Txt K mg base) : Binds K (fdA K (He5.wf K (He.ga K "Write") "property" "cells")) ["self"] [] := bN1 T.F_Write_cells rfl (by intros; kernel_rfl)
theorem bi_Write_required (T : Txt K mg base) : Binds K (fdA K (He5.wf K (He.ga K "Write") "property" "required")) ["self"] [] := bN1 T.F_Write_required rfl (by intros; kernel_rfl)
theorem bi_Write_sets (T : Txt K mg base) : Binds K (fdA K (He.ma K (He.ga K "Write") "sets")) ["self", "cell"] [] := bN2 T.F_Write_sets rfl (by intros; kernel_rfl)
theorem bi_law_is_as_made (T : Txt K mg base) : Binds K (fdA K (He.ga K "_law_is_as_made")) ["_law_formed", "_law_title", "_law_pairs_here", "_law_needed"] [] := bN4 T.F_law_is_as_made rfl (by intros; kernel_rfl)
theorem bi_law_next (T : Txt K mg base) : Binds K (fdA K (He.ga K "_law_next")) ["_law_state", "_law_size"] [] := bN2 T.F_law_next rfl (by intros; kernel_rfl)
theorem bi_law_pick (T : Txt K mg base) : Binds K (fdA K (He.ga K "_law_pick")) ["_law_state", "_law_some"] [] := bN2 T.F_law_pick rfl (by intros; kernel_rfl)
theorem bi_law_names (T : Txt K mg base) : Binds K (fdA K (He.ga K "_law_names")) ["_law_state", "_law_many"] [] := bN2 T.F_law_names rfl (by intros; kernel_rfl)
theorem bi_law_shuffled (T : Txt K mg base) : Binds K (fdA K (He.ga K "_law_shuffled")) ["_law_state", "_law_some"] [] := bN2 T.F_law_shuffled rfl (by intros; kernel_rfl)
theorem bi_law_spots (T : Txt K mg base) : Binds K (fdA K (He.ga K "_law_spots")) ["_law_state", "_law_many"] [] := bN2 T.F_law_spots rfl (by intros; kernel_rfl)
theorem bi_law_pairs (T : Txt K mg base) : Binds K (fdA K (He.ga K "_law_pairs")) ["_law_state"] [] := bN1 T.F_law_pairs rfl (by intros; kernel_rfl)
theorem sb_Write_sets_cell (T : Txt K mg base) : KBn K (fdA K (He.ma K (He.ga K "Write") "sets")) ["self", "cell"] 1 ["cell"] (fun us ws => place [.u 0, .w 0] us [] ws) (fun vs zs => place [.u 0, .w 0] vs [] zs) := kbN T.F_Write_sets 1 ["cell"] [.u 0, .w 0] fun _ _ _ _ _ _ us ws l1 l2 => match us, ws, l1, l2 with | [_], [_], _, _ => rfl
theorem sb_Write_with_required_required (T : Txt K mg base) : KBn K (fdA K (He.ma K (He.ga K "Write") "with_required")) ["self", "required"] 1 ["required"] (fun us ws => place [.u 0, .w 0] us [] ws) (fun vs zs => place [.u 0, .w 0] vs [] zs) := kbN T.F_Write_with_required 1 ["required"] [.u 0, .w 0] fun _ _ _ _ _ _ us ws l1 l2 => match us, ws, l1, l2 with | [_], [_], _, _ => rfl
theorem bus : bootBuiltins ("abs" : Str) = some (.builtin "abs") ∧ bootBuiltins ("all" : Str) = some (.builtin "all") ∧ bootBuiltins ("bool" : Str) = some (.type "bool") ∧ bootBuiltins ("dict" : Str) = some (.type "dict") ∧ bootBuiltins ("int" : Str) = some (.type "int") ∧ bootBuiltins ("len" : Str) = some (.builtin "len") ∧ bootBuiltins ("list" : Str) = some (.type "list") ∧ bootBuiltins ("repr" : Str) = some (.builtin "repr") ∧ bootBuiltins ("sorted" : Str) = some (.builtin "sorted") ∧ bootBuiltins ("str" : Str) = some (.type "str") ∧ True := ⟨by kernel_rfl, by kernel_rfl, by kernel_rfl, by kernel_rfl, by kernel_rfl, by kernel_rfl, by kernel_rfl, by kernel_rfl, by kernel_rfl, by kernel_rfl, trivial⟩
theorem bu_abs : bootBuiltins ("abs" : Str) = some (.builtin "abs") := bus.1
theorem bu_all : bootBuiltins ("all" : Str) = some (.builtin "all") := bus.2.1
theorem bu_bool : bootBuiltins ("bool" : Str) = some (.type "bool") := bus.2.2.1
theorem bu_dict : bootBuiltins ("dict" : Str) = some (.type "dict") := bus.2.2.2.1
theorem bu_int : bootBuiltins ("int" : Str) = some (.type "int") := bus.2.2.2.2.1
theorem bu_len : bootBuiltins ("len" : Str) = some (.builtin "len") := bus.2.2.2.2.2.1
theorem bu_list : bootBuiltins ("list" : Str) = some (.type "list") := bus.2.2.2.2.2.2.1
theorem bu_repr : bootBuiltins ("repr" : Str) = some (.builtin "repr") := bus.2.2.2.2.2.2.2.1
theorem bu_sorted : bootBuiltins ("sorted" : Str) = some (.builtin "sorted") := bus.2.2.2.2.2.2.2.2.1
theorem bu_str : bootBuiltins ("str" : Str) = some (.type "str") := bus.2.2.2.2.2.2.2.2.2.1
end
section
variable {P : Program} {w : World} {K : PySem.W.Frag} {mg : Str → Option Value} {base : Heap}
noncomputable def b_Write___eq__ : M Fl := (sSeq (gIf (gOr (gNot (gTest (gIsD tab_Write (gVar 1)))) (gTest (gOp2 FNe (gFld "Write" "name" (gVar 0)) (gFld "Write" "name" (gVar 1))))) (sRet (pur (.d (.bl false)))) sNx)
    (sRet (gAndV (gOp2 FEq (gFld "Write" "own_cells" (gVar 0)) (gFld "Write" "own_cells" (gVar 1))) (gOp2 FEq (gFld "Write" "own_need" (gVar 0)) (gFld "Write" "own_need" (gVar 1))))))
noncomputable def m_Write___eq__ : Mir := mk 2 b_Write___eq__
theorem ok_Write___eq__ (T : Txt K mg base) : FnD P w K mg base 2 (He.ma K (He.ga K "Write") "__eq__") (fdA K (He.ma K (He.ga K "Write") "__eq__")) ["self", "other"] m_Write___eq__ := fnD_of T.F_Write___eq__ sc_Write___eq__ fun cdv A outer s H E hr ng => (dss_cons (ds_ifx (dt_w (dw_or (dt_not (dt_val (de_is1 rfl T.n_isinstance (de_v 1) (cls_o rfl T.g_Write) (isk_Write T) (iso_Write T)))) (dw_or1 (dt_cmp (r_ne hr) (de_fld (de_v 0) T.c_Write T.na_Write_name) (de_fld (de_v 1) T.c_Write T.na_Write_name) rfl))))
      (dss_one (ds_ret de_bl))
      dss_nil)
    (dss_one (ds_ret (de_and (de_cmp (r_eq hr) (de_fld (de_v 0) T.c_Write T.na_Write_own_cells) (de_fld (de_v 1) T.c_Write T.na_Write_own_cells) rfl) (de_one (de_cmp (r_eq hr) (de_fld (de_v 0) T.c_Write T.na_Write_own_need) (de_fld (de_v 1) T.c_Write T.na_Write_own_need) rfl))))))
noncomputable def b_is_number : M Fl := (sRet (gAndV (gIsD tab_int (gVar 0)) (gAndV (gNotV (gIsD tab_bool (gVar 0))) (gChain2 FLe FLe (gVar 1) (gVar 0) (gVar 2)))))
noncomputable def m_is_number : Mir := mk 3 b_is_number
theorem ok_is_number (T : Txt K mg base) : FnD P w K mg base 2 (He.ga K "is_number") (fdA K (He.ga K "is_number")) ["thing", "low", "high"] m_is_number := fnD_of T.F_is_number sc_is_number fun cdv A outer s H E hr ng => (dss_one (ds_ret (de_and (de_is1 rfl T.n_isinstance (de_v 0) (cls_b rfl T.n_int bu_int) (isk_int T) (iso_int T)) (de_and (de_not (de_is1 rfl T.n_isinstance (de_v 0) (cls_b rfl T.n_bool bu_bool) (isk_bool T) (iso_bool T))) (de_one (de_chain2 (r_le hr) (r_le hr) (de_v 1) (de_v 0) (de_v 2)))))))
noncomputable def b_is_cell : M Fl := (sRet (gCall m_is_number [] (gCons (gVar 0) (gCons (pur (.d (.int 0))) (gCons (pur (.d (.int 15))) (pur []))))))
noncomputable def m_is_cell : Mir := mk 1 b_is_cell
theorem ok_is_cell (T : Txt K mg base) : FnD P w K mg base 3 (He.ga K "is_cell") (fdA K (He.ga K "is_cell")) ["thing"] m_is_cell := fnD_of T.F_is_cell sc_is_cell fun cdv A outer s H E hr ng => (dss_one (ds_ret (de_call (ok_is_number T) (hr.mono (by decide)) ng rfl T.g_is_number T.F_is_number.kp (bi_is_number T) .nil (fun _ => DenL.nil) (passes_call takes_cx fun _ _ _ _ h => h) (da_cons (de_v 0) (da_cons de_int (da_cons (de_globI rfl T.v_MOST_CELL) da_nil))) (lenA_cons (lenA_cons (lenA_cons lenA_nil))))))
noncomputable def b_is_value : M Fl := (sRet (gCall m_is_number [] (gCons (gVar 0) (gCons (pur (.d (.int 0))) (gCons (pur (.d (.int 9))) (pur []))))))
noncomputable def m_is_value : Mir := mk 1 b_is_value
theorem ok_is_value (T : Txt K mg base) : FnD P w K mg base 3 (He.ga K "is_value") (fdA K (He.ga K "is_value")) ["thing"] m_is_value := fnD_of T.F_is_value sc_is_value fun cdv A outer s H E hr ng => (dss_one (ds_ret (de_call (ok_is_number T) (hr.mono (by decide)) ng rfl T.g_is_number T.F_is_number.kp (bi_is_number T) .nil (fun _ => DenL.nil) (passes_call takes_cx fun _ _ _ _ h => h) (da_cons (de_v 0) (da_cons de_int (da_cons (de_globI rfl T.v_MOST_VALUE) da_nil))) (lenA_cons (lenA_cons (lenA_cons lenA_nil))))))
noncomputable def b_are_cells : M Fl := (sSeq (gIf (gOr (gNot (gTest (gIsD tab_dict (gVar 0)))) (gTest (gOp2 FEq (gVar 0) (gFz (pur (.dic [])))))) (sRet (pur (.d (.bl false)))) sNx)
    (sRet (gFn FAll (gCons (gFz (gLc (gItems (gVar 0)) [1, 2] (tgT [(tgN 1), (tgN 2)]) (pur true) (gAndV (gCall m_is_cell [] (gCons (gVar 1) (pur []))) (gCall m_is_value [] (gCons (gVar 2) (pur [])))))) (pur [])))))
noncomputable def m_are_cells : Mir := mk 3 b_are_cells
theorem ok_are_cells (T : Txt K mg base) : FnD P w K mg base 4 (He.ga K "are_cells") (fdA K (He.ga K "are_cells")) ["thing"] m_are_cells := fnD_of T.F_are_cells sc_are_cells fun cdv A outer s H E hr ng => (dss_cons (ds_ifx (dt_w (dw_or (dt_not (dt_val (de_is1 rfl T.n_isinstance (de_v 0) (cls_b rfl T.n_dict bu_dict) (isk_dict T) (iso_dict T)))) (dw_or1 (dt_cmp (r_eq hr) (de_v 0) (de_fz df_dnewK) rfl))))
      (dss_one (ds_ret de_bl))
      dss_nil)
    (dss_one (ds_ret (de_callB (r_all rfl) rfl T.n_all bu_all (da_cons (de_fz (df_lcI (own := [("cell", 1), ("value", 2)]) rfl sc_are_cells.nd (di_items (de_v 0)) (blkOk_by (N := N_are_cells) (sc := defScope s_are_cells) (by decide +kernel)) (fun _ _ _ _ _ => (dg_tup rfl (dgs_cons (dg_name sc_are_cells.nd rfl (by first | exact .inl rfl | exact .inr rfl)) (dgs_cons (dg_name sc_are_cells.nd rfl (by first | exact .inl rfl | exact .inr rfl)) dgs_nil)))) (fun _ _ _ _ _ => dts_nil) (fun _ _ _ _ _ => (de_and (de_call (ok_is_cell T) (hr.mono (by decide)) ng rfl T.g_is_cell T.F_is_cell.kp (bi_is_cell T) .nil (fun _ => DenL.nil) passL (da_cons (de_v 1) da_nil) (lenA_cons lenA_nil)) (de_one (de_call (ok_is_value T) (hr.mono (by decide)) ng rfl T.g_is_value T.F_is_value.kp (bi_is_value T) .nil (fun _ => DenL.nil) passL (da_cons (de_v 2) da_nil) (lenA_cons lenA_nil))))))) da_nil)))))
noncomputable def b_is_name : M Fl := (sRet (gAndV (gIsD tab_str (gVar 0)) (gAndV (gChain2 FLe FLe (pur (.d (.int 1))) (gFn FLen (gCons (gVar 0) (pur []))) (pur (.d (.int 8)))) (gFn FAll (gCons (gFz (gLc (gItAny (gVar 0)) [1] (tgN 1) (pur true) (gOp2 FIn (gVar 1) (pur (.d (.str "abcdefghijklmnopqrstuvwxyz")))))) (pur []))))))
noncomputable def m_is_name : Mir := mk 2 b_is_name
theorem ok_is_name (T : Txt K mg base) : FnD P w K mg base 2 (He.ga K "is_name") (fdA K (He.ga K "is_name")) ["thing"] m_is_name := fnD_of T.F_is_name sc_is_name fun cdv A outer s H E hr ng => (dss_one (ds_ret (de_and (de_is1 rfl T.n_isinstance (de_v 0) (cls_b rfl T.n_str bu_str) (isk_str T) (iso_str T)) (de_and (de_chain2 (r_le hr) (r_le hr) de_int (de_callB (r_len) rfl T.n_len bu_len (da_cons (de_v 0) da_nil)) (de_globI rfl T.v_LONGEST)) (de_one (de_callB (r_all rfl) rfl T.n_all bu_all (da_cons (de_fz (df_lcJ (own := [("sign", 1)]) rfl sc_is_name.nd (dj_any (de_v 0)) (blkOk_by (N := N_is_name) (sc := defScope s_is_name) (by decide +kernel)) (fun _ _ _ _ _ => (dg_name sc_is_name.nd rfl (by first | exact .inl rfl | exact .inr rfl))) (fun _ _ _ _ _ => dts_nil) (fun _ _ _ _ _ => (de_cmp (r_in hr) (de_v 1) (de_globS rfl T.v_LETTERS) rfl)))) da_nil)))))))
noncomputable def b_Write___init__ : M Fl := (sSeq (gIf (gNot (gTest (gCall m_is_name [] (gCons (gVar 1) (pur []))))) bad sNx)
    (sSeq (gIf (gLendT (gNot (gTest (gCall m_are_cells [] (gCons (gVar 2) (pur [])))))) bad sNx)
    (sSeq (gIf (gNot (gTest (gIsD tab_bool (gVar 3)))) bad sNx)
    (sSeq (sSelf "Write" "name" (gVar 1))
    (sSeq (sSelf "Write" "own_cells" (gFz (gLendF (gDc (gItAny (gFn FSorted (gCons (gVar 2) (pur [])))) [4] (tgN 4) (pur true) (gVar 4) (gOp2 FGet (gVar 2) (gVar 4))))))
    (sSelf "Write" "own_need" (gVar 3)))))))
noncomputable def m_Write___init__ : MirI := mkI "Write" 5 b_Write___init__
theorem ok_Write___init__ (T : Txt K mg base) : FnI P w K mg base 5 (He.ma K (He.ga K "Write") "__init__") (fdA K (He.ma K (He.ga K "Write") "__init__")) ["self", "name", "cells", "required"] "Write" m_Write___init__ := fnI_of T.F_Write___init__ sc_Write___init__ fun cdv A outer s H E hr ng => (dss_cons (ds_ifx (dt_not (dt_val (de_call (ok_is_name T) (hr.mono (by decide)) ng rfl T.g_is_name T.F_is_name.kp (bi_is_name T) .nil (fun _ => DenL.nil) (passes_call takes_cx fun _ _ _ _ h => h) (da_cons (de_v 1) da_nil) (lenA_cons lenA_nil))))
      (dss_one ds_bad)
      dss_nil)
    (dss_cons (ds_ifx (dt_lend (dt_not (dt_val (de_call (ok_are_cells T) (hr.mono (by decide)) ng rfl T.g_are_cells T.F_are_cells.kp (bi_are_cells T) .nil (fun _ => DenL.nil) (passes_call takes_cx fun _ _ _ _ h => h) (da_cons (de_v 2) da_nil) (lenA_cons lenA_nil)))))
      (dss_one ds_bad)
      dss_nil)
    (dss_cons (ds_ifx (dt_not (dt_val (de_is1 rfl T.n_isinstance (de_v 3) (cls_b rfl T.n_bool bu_bool) (isk_bool T) (iso_bool T))))
      (dss_one ds_bad)
      dss_nil)
    (dss_cons (ds_self (de_v 1) T.c_Write T.na_Write_name)
    (dss_cons (ds_self (de_fz (df_lend (df_dcJ (own := [("cell", 4)]) rfl sc_Write___init__.nd (dj_any (de_callB (r_sorted hr rfl) rfl T.n_sorted bu_sorted (da_cons (de_v 2) da_nil))) (blkOk_by (N := N_Write___init__) (sc := defScope s_Write___init__) (by decide +kernel)) (fun _ _ _ _ _ => (dg_name sc_Write___init__.nd rfl (by first | exact .inl rfl | exact .inr rfl))) (fun _ _ _ _ _ => dts_nil) (fun _ _ _ _ _ => (de_v 4)) (fun _ _ _ _ _ => (de_sub hr (de_v 2) (de_v 4)))))) T.c_Write T.na_Write_own_cells)
    (dss_one (ds_self (de_v 3) T.c_Write T.na_Write_own_need)))))))
noncomputable def b_Write_with_required : M Fl := (sRet (gMakeK "Write" m_Write___init__ [.u 0, .u 1, .w 0] [] (gCons (gFld "Write" "name" (gVar 0)) (gCons (gFld "Write" "own_cells" (gVar 0)) (pur []))) (gCons (gVar 1) (pur []))))
noncomputable def m_Write_with_required : Mir := mk 2 b_Write_with_required
theorem ok_Write_with_required (T : Txt K mg base) : FnD P w K mg base 7 (He.ma K (He.ga K "Write") "with_required") (fdA K (He.ma K (He.ga K "Write") "with_required")) ["self", "required"] m_Write_with_required := fnD_of T.F_Write_with_required sc_Write_with_required fun cdv A outer s H E hr ng => (dss_one (ds_ret (de_makeK (mz := []) (md := []) T.M_Write (ok_Write___init__ T) (hr.mono (by decide)) ng rfl T.g_Write (kbN T.F_Write___init__ 3 ["required"] [.u 0, .u 1, .u 2, .w 0] fun _ _ _ _ _ _ us ws l1 l2 => match us, ws, l1, l2 with | [_, _, _], [_], _, _ => rfl) (fun _ => DenL.nil) (fun y vs zs l1 l2 => match vs, zs, l1, l2 with | [_, _], [_], _, _ => rfl) (fun vs zs l1 l2 => match vs, zs, l1, l2 with | [_, _], [_], _, _ => rfl) takes_cx (da_cons (de_fld (de_v 0) T.c_Write T.na_Write_name) (da_cons (de_fld (de_v 0) T.c_Write T.na_Write_own_cells) da_nil)) (dk_cons (de_v 1) dk_nil) (lenA_cons (lenA_cons lenA_nil)) (lenA_cons lenA_nil))))
noncomputable def b_law_differs : M Fl := (sSeq (sSet 4 (gMakeK "Write" m_Write___init__ [.u 0, .u 1, .w 0] [] (gCons (gVar 1) (gCons (gFn FDict (gCons (gVar 2) (pur []))) (pur []))) (gCons (gVar 3) (pur []))))
    (sSeq (sSet 5 (gSeq .lst (gCons (gVar 4) (gCons (pur (.d .non)) (gCons (gVar 1) (gCons (gVar 2) (gCons (gFn FDict (gCons (gVar 2) (pur []))) (gCons (gSeq .tup (gCons (gVar 1) (gCons (gFn FDict (gCons (gVar 2) (pur []))) (gCons (gVar 3) (pur []))))) (pur [])))))))))
    (sRet (gOp2 FEq (gFz (gLc (gItAny (gVar 5)) [6] (tgN 6) (gOr (gTest (gOwn2 "Write" m_Write___eq__ (gVar 6) (gVar 0))) (gTest (gOwn2 "Write" m_Write___eq__ (gVar 0) (gVar 6)))) (gVar 6))) (gSeq .lst (pur []))))))
noncomputable def m_law_differs : Mir := mk 7 b_law_differs
theorem ok_law_differs (T : Txt K mg base) : FnD P w K mg base 7 (He.ga K "_law_differs") (fdA K (He.ga K "_law_differs")) ["_law_formed", "_law_title", "_law_pairs_here", "_law_needed"] m_law_differs := fnD_of T.F_law_differs sc_law_differs fun cdv A outer s H E hr ng => (dss_cons (ds_set (i := 4) sc_law_differs.nd rfl (.inl rfl) (de_makeK (mz := []) (md := []) T.M_Write (ok_Write___init__ T) (hr.mono (by decide)) ng rfl T.g_Write (kbN T.F_Write___init__ 3 ["required"] [.u 0, .u 1, .u 2, .w 0] fun _ _ _ _ _ _ us ws l1 l2 => match us, ws, l1, l2 with | [_, _, _], [_], _, _ => rfl) (fun _ => DenL.nil) (fun y vs zs l1 l2 => match vs, zs, l1, l2 with | [_, _], [_], _, _ => rfl) (fun vs zs l1 l2 => match vs, zs, l1, l2 with | [_, _], [_], _, _ => rfl) takes_cx (da_cons (de_v 1) (da_cons (de_callTy (r_dict rfl) rfl T.n_dict bu_dict (da_cons (de_v 2) da_nil)) da_nil)) (dk_cons (de_v 3) dk_nil) (lenA_cons (lenA_cons lenA_nil)) (lenA_cons lenA_nil)))
    (dss_cons (ds_set (i := 5) sc_law_differs.nd rfl (.inl rfl) (de_lst (da_cons (de_v 4) (da_cons de_non (da_cons (de_v 1) (da_cons (de_v 2) (da_cons (de_callTy (r_dict rfl) rfl T.n_dict bu_dict (da_cons (de_v 2) da_nil)) (da_cons (de_tup (da_cons (de_v 1) (da_cons (de_callTy (r_dict rfl) rfl T.n_dict bu_dict (da_cons (de_v 2) da_nil)) (da_cons (de_v 3) da_nil))) (lenA_cons (lenA_cons (lenA_cons lenA_nil)))) da_nil)))))) (lenA_cons (lenA_cons (lenA_cons (lenA_cons (lenA_cons (lenA_cons lenA_nil))))))))
    (dss_one (ds_ret (de_cmp (r_eq hr) (de_fz (df_lcJ (own := [("_law_one", 6)]) rfl sc_law_differs.nd (dj_any (de_v 5)) (blkOk_by (N := N_law_differs) (sc := defScope s_law_differs) (by decide +kernel)) (fun _ _ _ _ _ => (dg_name sc_law_differs.nd rfl (by first | exact .inl rfl | exact .inr rfl))) (fun _ _ _ _ _ => dts_one (dt_w (dw_or (dt_own2 (ok_Write___eq__ T) T.m_Write___eq__.at_ T.m_Write___eq__.fn (bi_Write___eq__ T) (noTys_of T.kn_Write_NoneType T.kn_Write_str T.kn_Write_list T.kn_Write_dict T.kn_Write_tuple) (hr.mono (by decide)) ng (de_v 6) (de_v 0) rfl) (dw_or1 (dt_own2 (ok_Write___eq__ T) T.m_Write___eq__.at_ T.m_Write___eq__.fn (bi_Write___eq__ T) (noTys_of T.kn_Write_NoneType T.kn_Write_str T.kn_Write_list T.kn_Write_dict T.kn_Write_tuple) (hr.mono (by decide)) ng (de_v 0) (de_v 6) rfl))))) (fun _ _ _ _ _ => (de_v 6)))) (de_lst da_nil lenA_nil) rfl)))))
noncomputable def b_Write_cells : M Fl := (sRet (gNew (gFnF FDict (gCons (gFld "Write" "own_cells" (gVar 0)) (pur [])))))
noncomputable def m_Write_cells : Mir := mk 1 b_Write_cells
theorem ok_Write_cells (T : Txt K mg base) : FnD P w K mg base 2 (He5.wf K (He.ga K "Write") "property" "cells") (fdA K (He5.wf K (He.ga K "Write") "property" "cells")) ["self"] m_Write_cells := fnD_of T.F_Write_cells sc_Write_cells fun cdv A outer s H E hr ng => (dss_one (ds_ret (de_new (df_callTy (r_dict rfl) mut_FDict rfl T.n_dict bu_dict (da_cons (de_fld (de_v 0) T.c_Write T.na_Write_own_cells) da_nil)))))
noncomputable def b_Write_required : M Fl := (sRet (gFld "Write" "own_need" (gVar 0)))
noncomputable def m_Write_required : Mir := mk 1 b_Write_required
theorem ok_Write_required (T : Txt K mg base) : FnD P w K mg base 2 (He5.wf K (He.ga K "Write") "property" "required") (fdA K (He5.wf K (He.ga K "Write") "property" "required")) ["self"] m_Write_required := fnD_of T.F_Write_required sc_Write_required fun cdv A outer s H E hr ng => (dss_one (ds_ret (de_fld (de_v 0) T.c_Write T.na_Write_own_need)))
noncomputable def b_Write_sets : M Fl := (sRet (gIf (gTest (gCall m_is_cell [] (gCons (gVar 1) (pur [])))) (gGetD (gFld "Write" "own_cells" (gVar 0)) (gVar 1) (pur (.d .non))) (pur (.d .non))))
noncomputable def m_Write_sets : Mir := mk 2 b_Write_sets
theorem ok_Write_sets (T : Txt K mg base) : FnD P w K mg base 4 (He.ma K (He.ga K "Write") "sets") (fdA K (He.ma K (He.ga K "Write") "sets")) ["self", "cell"] m_Write_sets := fnD_of T.F_Write_sets sc_Write_sets fun cdv A outer s H E hr ng => (dss_one (ds_ret (de_if (dt_val (de_call (ok_is_cell T) (hr.mono (by decide)) ng rfl T.g_is_cell T.F_is_cell.kp (bi_is_cell T) .nil (fun _ => DenL.nil) (passes_call takes_cx fun _ _ _ _ h => h) (da_cons (de_v 1) da_nil) (lenA_cons lenA_nil))) (de_get2 hr (de_fld (de_v 0) T.c_Write T.na_Write_own_cells) (de_v 1) de_non) de_non)))
noncomputable def b_law_is_as_made : M Fl := (sSeq (sSet 4 (gFn FSorted (gCons (gVar 2) (pur []))))
    (sSeq (sForJ (gRange1 (pur (.d (.int 2)))) (tgN 5) (sSeq (sSet 6 (gProp "Write" m_Write_cells (gVar 0)))
    (sSeq (gIf (gLendT (gOr (gNot (gTest (gIsD tab_dict (gVar 6)))) (gTest (gOp2 FNe (gFz (gListItems (gVar 6))) (gVar 4))))) (sRet (pur (.d (.bl false)))) sNx)
    (sSeq (sExpr (gRClr (gVar 6)))
    (sRPut (gVar 6) (pur (.d (.int 20))) (pur (.d (.int 20))))))))
    (sSeq (gIf (gTest (gOp2 FNe (gFn FRepr (gCons (gSeq .lst (gCons (gFld "Write" "name" (gVar 0)) (gCons (gProp "Write" m_Write_required (gVar 0)) (pur [])))) (pur []))) (gFn FRepr (gCons (gSeq .lst (gCons (gVar 1) (gCons (gVar 3) (pur [])))) (pur []))))) (sRet (pur (.d (.bl false)))) sNx)
    (sSeq (sSet 7 (gOp2 FAdd (gListRange2 (gOp1 FNeg (pur (.d (.int 2)))) (pur (.d (.int 18)))) (gSeq .lst (gCons (pur (.d (.bl true))) (gCons (pur (.d (.bl false))) (gCons (pur (.d .non)) (gCons (pur (.d (.str "0"))) (gCons (gSeq .tup (gCons (pur (.d (.int 0))) (pur []))) (gCons (gSeq .lst (pur [])) (gCons (gFz (pur (.dic []))) (gCons (gSeq .lst (gCons (pur (.d (.int 0))) (pur []))) (gCons (gOp2 FPow (pur (.d (.int 10))) (pur (.d (.int 30)))) (gCons (gOp1 FNeg (gOp2 FPow (pur (.d (.int 10))) (pur (.d (.int 30))))) (pur []))))))))))))))
    (sSeq (sSet 9 (gFn FRepr (gCons (gOp2 FAdd (gFz (gLc (gRange2 (gOp1 FNeg (pur (.d (.int 2)))) (pur (.d (.int 18)))) [8] (tgN 8) (pur true) (gGetD (gFn FDict (gCons (gVar 2) (pur []))) (gVar 8) (pur (.d .non))))) (gOp2 FMulX (gSeq .lst (gCons (pur (.d .non)) (pur []))) (pur (.d (.int 10))))) (pur []))))
    (sSeq (gIf (gTest (gOp2 FNe (gFn FRepr (gCons (gFz (gLc (gItAny (gVar 7)) [8] (tgN 8) (pur true) (gMeth "Write" "sets" m_Write_sets [] (gVar 0) (gCons (gVar 8) (pur []))))) (pur []))) (gVar 9))) (sRet (pur (.d (.bl false)))) sNx)
    (sRet (gOp2 FEq (gFn FRepr (gCons (gFz (gLc (gItAny (gVar 7)) [8] (tgN 8) (pur true) (gMethK "Write" "sets" m_Write_sets [.u 0, .w 0] [] (gVar 0) (gCons (gVar 8) (pur []))))) (pur []))) (gVar 9)))))))))
noncomputable def m_law_is_as_made : Mir := mk 10 b_law_is_as_made
theorem ok_law_is_as_made (T : Txt K mg base) : FnD P w K mg base 5 (He.ga K "_law_is_as_made") (fdA K (He.ga K "_law_is_as_made")) ["_law_formed", "_law_title", "_law_pairs_here", "_law_needed"] m_law_is_as_made := fnD_of T.F_law_is_as_made sc_law_is_as_made fun cdv A outer s H E hr ng => (dss_cons (ds_set (i := 4) sc_law_is_as_made.nd rfl (.inl rfl) (de_callB (r_sorted hr rfl) rfl T.n_sorted bu_sorted (da_cons (de_v 2) da_nil)))
    (dss_cons (ds_forJ (passes_of rfl) rfl (dj_range1 rfl T.n_range de_int) (dg_name sc_law_is_as_made.nd rfl (by first | exact .inl rfl | exact .inr rfl))
      (dss_cons (ds_set (i := 6) sc_law_is_as_made.nd rfl (.inl rfl) (de_prop (de_v 0) T.c_Write T.p_Write_cells (ok_Write_cells T) (hr.mono (by decide)) ng (bi_Write_cells T)))
    (dss_cons (ds_ifx (dt_lend (dt_w (dw_or (dt_not (dt_val (de_is1 rfl T.n_isinstance (de_v 6) (cls_b rfl T.n_dict bu_dict) (isk_dict T) (iso_dict T)))) (dw_or1 (dt_cmp (r_ne hr) (de_fz (df_listItems rfl (de_v 6) rfl T.n_list bu_list)) (de_v 4) rfl)))))
      (dss_one (ds_ret de_bl))
      dss_nil)
    (dss_cons (ds_expr (de_rclr (de_v 6)))
    (dss_one (ds_rput hr (de_v 6) de_int de_int))))))
    (dss_cons (ds_ifx (dt_cmp (r_ne hr) (de_callB (r_repr hr ng T.sys) rfl T.n_repr bu_repr (da_cons (de_lst (da_cons (de_fld (de_v 0) T.c_Write T.na_Write_name) (da_cons (de_prop (de_v 0) T.c_Write T.p_Write_required (ok_Write_required T) (hr.mono (by decide)) ng (bi_Write_required T)) da_nil)) (lenA_cons (lenA_cons lenA_nil))) da_nil)) (de_callB (r_repr hr ng T.sys) rfl T.n_repr bu_repr (da_cons (de_lst (da_cons (de_v 1) (da_cons (de_v 3) da_nil)) (lenA_cons (lenA_cons lenA_nil))) da_nil)) rfl)
      (dss_one (ds_ret de_bl))
      dss_nil)
    (dss_cons (ds_set (i := 7) sc_law_is_as_made.nd rfl (.inl rfl) (de_op2 r_add (de_listRange2 rfl T.n_list rfl T.n_range (de_un r_neg de_int) de_int) (de_lst (da_cons de_bl (da_cons de_bl (da_cons de_non (da_cons de_str (da_cons (de_tup (da_cons de_int da_nil) (lenA_cons lenA_nil)) (da_cons (de_lst da_nil lenA_nil) (da_cons (de_fz df_dnewK) (da_cons (de_lst (da_cons de_int da_nil) (lenA_cons lenA_nil)) (da_cons (de_op2 r_pow de_int de_int) (da_cons (de_un r_neg (de_op2 r_pow de_int de_int)) da_nil)))))))))) (lenA_cons (lenA_cons (lenA_cons (lenA_cons (lenA_cons (lenA_cons (lenA_cons (lenA_cons (lenA_cons (lenA_cons lenA_nil)))))))))))))
    (dss_cons (ds_set (i := 9) sc_law_is_as_made.nd rfl (.inl rfl) (de_callB (r_repr hr ng T.sys) rfl T.n_repr bu_repr (da_cons (de_op2 r_add (de_fz (df_lcJ (own := [("_law_spot", 8)]) rfl sc_law_is_as_made.nd (dj_range2 rfl T.n_range (de_un r_neg de_int) de_int) (blkOk_by (N := N_law_is_as_made) (sc := defScope s_law_is_as_made) (by decide +kernel)) (fun _ _ _ _ _ => (dg_name sc_law_is_as_made.nd rfl (by first | exact .inl rfl | exact .inr rfl))) (fun _ _ _ _ _ => dts_nil) (fun _ _ _ _ _ => (de_get2 hr (de_callTy (r_dict rfl) rfl T.n_dict bu_dict (da_cons (de_v 2) da_nil)) (de_v 8) de_non)))) (de_op2 r_mulX (de_lst (da_cons de_non da_nil) (lenA_cons lenA_nil)) de_int)) da_nil)))
    (dss_cons (ds_ifx (dt_cmp (r_ne hr) (de_callB (r_repr hr ng T.sys) rfl T.n_repr bu_repr (da_cons (de_fz (df_lcJ (own := [("_law_spot", 8)]) rfl sc_law_is_as_made.nd (dj_any (de_v 7)) (blkOk_by (N := N_law_is_as_made) (sc := defScope s_law_is_as_made) (by decide +kernel)) (fun _ _ _ _ _ => (dg_name sc_law_is_as_made.nd rfl (by first | exact .inl rfl | exact .inr rfl))) (fun _ _ _ _ _ => dts_nil) (fun _ _ _ _ _ => (de_meth (de_v 0) T.c_Write T.m_Write_sets (ok_Write_sets T) (hr.mono (by decide)) ng (bi_Write_sets T) .nil (fun _ => DenL.nil) passL (da_cons (de_v 8) da_nil) (lenA_cons lenA_nil))))) da_nil)) (de_v 9) rfl)
      (dss_one (ds_ret de_bl))
      dss_nil)
    (dss_one (ds_ret (de_cmp (r_eq hr) (de_callB (r_repr hr ng T.sys) rfl T.n_repr bu_repr (da_cons (de_fz (df_lcJ (own := [("_law_spot", 8)]) rfl sc_law_is_as_made.nd (dj_any (de_v 7)) (blkOk_by (N := N_law_is_as_made) (sc := defScope s_law_is_as_made) (by decide +kernel)) (fun _ _ _ _ _ => (dg_name sc_law_is_as_made.nd rfl (by first | exact .inl rfl | exact .inr rfl))) (fun _ _ _ _ _ => dts_nil) (fun _ _ _ _ _ => (de_methK (de_v 0) T.c_Write T.m_Write_sets (ok_Write_sets T) (hr.mono (by decide)) ng (sb_Write_sets_cell T) (fun _ => DenL.nil) passL (dk_cons (de_v 8) dk_nil) (lenA_cons lenA_nil) (fun y zs l2 => match zs, l2 with | [_], _ => rfl))))) da_nil)) (de_v 9) rfl)))))))))
noncomputable def b_law_next : M Fl := (sSeq (whileN (gAnd (gTest (gOp2 FEq (gRsI 0 (fun r => r.dg)) (pur (.d (.int 0))))) (gRsT 0 (fun r => decide (r.gr ≠ [])))) (sRsPut 0 (fun r v => { r with dg := v }) (gRsPop 0)) 100000)
    (sSeq (gIf (gTest (gOp2 FGt (gRsI 0 (fun r => r.dg)) (pur (.d (.int 0))))) (sSeq (sSet 2 (gOp2 FMod (gRsI 0 (fun r => r.dg)) (gVar 1)))
    (sSeq (sRsPut 0 (fun r v => { r with dg := v }) (gOp2 FDiv (gRsI 0 (fun r => r.dg)) (gVar 1)))
    (sRet (gVar 2)))) sNx)
    (sSeq (sRsInc 0)
    (sSeq (sSet 3 (gRsI 0 (fun r => r.tn)))
    (sSeq (sSet 4 (pur (.d (.int 0))))
    (sSeq (gIf (gRsT 0 (fun r => decide (r.ce ≠ []))) (sSet 4 (gRsCel 0 (gOp2 FMod (gVar 3) (gRsLen 0)))) sNx)
    (sSeq (sSet 5 (gOp2 FMod (gOp2 FPow (gOp2 FAdd (gOp2 FMod (gVar 4) (pur (.d (.int 2147483629)))) (gOp2 FMulX (pur (.d (.int 40009))) (gVar 3))) (pur (.d (.int 3)))) (pur (.d (.int 2147483647)))))
    (sRet (gOp2 FMod (gOp2 FDiv (gOp2 FMod (gOp2 FPow (gOp2 FAdd (gVar 5) (gOp2 FMulX (pur (.d (.int 104729))) (gVar 3))) (pur (.d (.int 5)))) (pur (.d (.int 2147483629)))) (pur (.d (.int 11)))) (gVar 1))))))))))
noncomputable def m_law_next : Mir := mk 6 b_law_next
theorem ok_law_next (T : Txt K mg base) : FnD P w K mg base 2 (He.ga K "_law_next") (fdA K (He.ga K "_law_next")) ["_law_state", "_law_size"] m_law_next := fnD_of T.F_law_next sc_law_next fun cdv A outer s H E hr ng => (dss_cons (ds_while 100000 (passes_of rfl) (dt_w (dw_and (dt_cmp (r_eq hr) (de_rsI key_dg hr 0) de_int rfl) (dw_and1 (dt_rsNe key_gr (fun z => z.g) hr 0)))) (dss_one (ds_rsPut hr 0 (de_rsPop hr 0))))
    (dss_cons (ds_ifx (dt_cmp (r_gt hr) (de_rsI key_dg hr 0) de_int rfl)
      (dss_cons (ds_set (i := 2) sc_law_next.nd rfl (.inl rfl) (de_op2 r_mod (de_rsI key_dg hr 0) (de_v 1)))
    (dss_cons (ds_rsPut hr 0 (de_op2 r_div (de_rsI key_dg hr 0) (de_v 1)))
    (dss_one (ds_ret (de_v 2)))))
      dss_nil)
    (dss_cons (ds_rsInc hr 0)
    (dss_cons (ds_set (i := 3) sc_law_next.nd rfl (.inl rfl) (de_rsI key_tn hr 0))
    (dss_cons (ds_set (i := 4) sc_law_next.nd rfl (.inl rfl) de_int)
    (dss_cons (ds_ifx (dt_rsNe key_ce (fun z => z.c) hr 0)
      (dss_one (ds_set (i := 4) sc_law_next.nd rfl (.inl rfl) (de_rsCell hr 0 (de_op2 r_mod (de_v 3) (de_rsLen hr 0 (by rfl) T.n_len bu_len)))))
      dss_nil)
    (dss_cons (ds_set (i := 5) sc_law_next.nd rfl (.inl rfl) (de_op2 r_mod (de_op2 r_pow (de_op2 r_add (de_op2 r_mod (de_v 4) de_int) (de_op2 r_mulX de_int (de_v 3))) de_int) de_int))
    (dss_one (ds_ret (de_op2 r_mod (de_op2 r_div (de_op2 r_mod (de_op2 r_pow (de_op2 r_add (de_v 5) (de_op2 r_mulX de_int (de_v 3))) de_int) de_int) de_int) (de_v 1)))))))))))
noncomputable def b_law_pick : M Fl := (sRet (gOp2 FGet (gVar 1) (gCall m_law_next [] (gCons (gVar 0) (gCons (gFn FLen (gCons (gVar 1) (pur []))) (pur []))))))
noncomputable def m_law_pick : Mir := mk 2 b_law_pick
theorem ok_law_pick (T : Txt K mg base) : FnD P w K mg base 3 (He.ga K "_law_pick") (fdA K (He.ga K "_law_pick")) ["_law_state", "_law_some"] m_law_pick := fnD_of T.F_law_pick sc_law_pick fun cdv A outer s H E hr ng => (dss_one (ds_ret (de_sub hr (de_v 1) (de_call (ok_law_next T) (hr.mono (by decide)) ng rfl T.g_law_next T.F_law_next.kp (bi_law_next T) .nil (fun _ => DenL.nil) (passes_call takes_cx fun _ _ _ _ h => h) (da_cons (de_v 0) (da_cons (de_callB (r_len) rfl T.n_len bu_len (da_cons (de_v 1) da_nil)) da_nil)) (lenA_cons (lenA_cons lenA_nil))))))
noncomputable def b_law_names : M Fl := (sSeq (sSet 2 (pur (.d (.str "abcdefghijklmnopqrstuvwxyz"))))
    (sSeq (sPar [3, 4, 5] (qA (gCall m_law_next [] (gCons (gVar 0) (gCons (pur (.d (.int 26))) (pur [])))) (qA (gCall m_law_pick [] (gCons (gVar 0) (gCons (gSeq .lst (gCons (pur (.d (.int 1))) (gCons (pur (.d (.int 3))) (gCons (pur (.d (.int 5))) (gCons (pur (.d (.int 7))) (gCons (pur (.d (.int 9))) (gCons (pur (.d (.int 11))) (pur [])))))))) (pur [])))) (qA (gCall m_law_next [] (gCons (gVar 0) (gCons (pur (.d (.int 2))) (pur [])))) qNil))))
    (sSeq (sPar [7, 8] (qA (gM1 FJoin (pur (.d (.str ""))) (gFz (gLc (gRange1 (gCall m_law_next [] (gCons (gVar 0) (gCons (pur (.d (.int 8))) (pur []))))) [6] (tgN 6) (pur true) (gCall m_law_pick [] (gCons (gVar 0) (gCons (gVar 2) (pur []))))))) (qF (fLst (pur [])) qNil)))
    (sSeq (sForJ (gRange1 (gVar 1)) (tgN 6) (sSeq (gIf (gTest (gOp2 FEq (gVar 5) (pur (.d (.int 0))))) (sSet 7 (gM1 FJoin (pur (.d (.str ""))) (gFz (gLc (gRange1 (gCall m_law_next [] (gCons (gVar 0) (gCons (pur (.d (.int 8))) (pur []))))) [9] (tgN 9) (pur true) (gCall m_law_pick [] (gCons (gVar 0) (gCons (gVar 2) (pur [])))))))) sNx)
    (sExpr (gAppend 8 (gOp2 FAdd (gVar 7) (gOp2 FGet (gVar 2) (gOp2 FMod (gOp2 FAdd (gVar 3) (gOp2 FMulX (gVar 4) (gVar 6))) (pur (.d (.int 26))))))))))
    (sRet (gVar 8))))))
noncomputable def m_law_names : Mir := mk 10 b_law_names
theorem ok_law_names (T : Txt K mg base) : FnD P w K mg base 4 (He.ga K "_law_names") (fdA K (He.ga K "_law_names")) ["_law_state", "_law_many"] m_law_names := fnD_of T.F_law_names sc_law_names fun cdv A outer s H E hr ng => (dss_cons (ds_set (i := 2) sc_law_names.nd rfl (.inr rfl) de_str)
    (dss_cons (ds_par3 rfl sc_law_names.nd rfl rfl rfl (by decide) (by decide) (by decide) rfl rfl rfl (dq_a (de_call (ok_law_next T) (hr.mono (by decide)) ng rfl T.g_law_next T.F_law_next.kp (bi_law_next T) .nil (fun _ => DenL.nil) (passes_call takes_cx fun _ _ _ _ h => h) (da_cons (de_v 0) (da_cons de_int da_nil)) (lenA_cons (lenA_cons lenA_nil))) (dq_a (de_call (ok_law_pick T) (hr.mono (by decide)) ng rfl T.g_law_pick T.F_law_pick.kp (bi_law_pick T) .nil (fun _ => DenL.nil) (passes_call takes_cx fun _ _ _ _ h => h) (da_cons (de_v 0) (da_cons (de_lst (da_cons de_int (da_cons de_int (da_cons de_int (da_cons de_int (da_cons de_int (da_cons de_int da_nil)))))) (lenA_cons (lenA_cons (lenA_cons (lenA_cons (lenA_cons (lenA_cons lenA_nil))))))) da_nil)) (lenA_cons (lenA_cons lenA_nil))) (dq_a (de_call (ok_law_next T) (hr.mono (by decide)) ng rfl T.g_law_next T.F_law_next.kp (bi_law_next T) .nil (fun _ => DenL.nil) (passes_call takes_cx fun _ _ _ _ h => h) (da_cons (de_v 0) (da_cons de_int da_nil)) (lenA_cons (lenA_cons lenA_nil))) dq_nil))))
    (dss_cons (ds_par2 rfl sc_law_names.nd rfl rfl (by decide) rfl rfl (dq_a (de_join de_str (de_fz (df_lcJ (own := [("_law_k", 6)]) rfl sc_law_names.nd (dj_range1 rfl T.n_range (de_call (ok_law_next T) (hr.mono (by decide)) ng rfl T.g_law_next T.F_law_next.kp (bi_law_next T) .nil (fun _ => DenL.nil) (passes_call takes_cx fun _ _ _ _ h => h) (da_cons (de_v 0) (da_cons de_int da_nil)) (lenA_cons (lenA_cons lenA_nil)))) (blkOk_by (N := N_law_names) (sc := defScope s_law_names) (by decide +kernel)) (fun _ _ _ _ _ => (dg_name sc_law_names.nd rfl (by first | exact .inl rfl | exact .inr rfl))) (fun _ _ _ _ _ => dts_nil) (fun _ _ _ _ _ => (de_call (ok_law_pick T) (hr.mono (by decide)) ng rfl T.g_law_pick T.F_law_pick.kp (bi_law_pick T) .nil (fun _ => DenL.nil) passL (da_cons (de_v 0) (da_cons (de_v 2) da_nil)) (lenA_cons (lenA_cons lenA_nil))))))) (dq_f (df_lst da_nil lenA_nil) dq_nil)))
    (dss_cons (ds_forJ (passes_of rfl) rfl (dj_range1 rfl T.n_range (de_v 1)) (dg_name sc_law_names.nd rfl (by first | exact .inl rfl | exact .inr rfl))
      (dss_cons (ds_ifx (dt_cmp (r_eq hr) (de_v 5) de_int rfl)
      (dss_one (ds_set (i := 7) sc_law_names.nd rfl (.inl rfl) (de_join de_str (de_fz (df_lcJ (own := [("_law_at", 9)]) rfl sc_law_names.nd (dj_range1 rfl T.n_range (de_call (ok_law_next T) (hr.mono (by decide)) ng rfl T.g_law_next T.F_law_next.kp (bi_law_next T) .nil (fun _ => DenL.nil) (passes_call takes_cx fun _ _ _ _ h => h) (da_cons (de_v 0) (da_cons de_int da_nil)) (lenA_cons (lenA_cons lenA_nil)))) (blkOk_by (N := N_law_names) (sc := defScope s_law_names) (by decide +kernel)) (fun _ _ _ _ _ => (dg_name sc_law_names.nd rfl (by first | exact .inl rfl | exact .inr rfl))) (fun _ _ _ _ _ => dts_nil) (fun _ _ _ _ _ => (de_call (ok_law_pick T) (hr.mono (by decide)) ng rfl T.g_law_pick T.F_law_pick.kp (bi_law_pick T) .nil (fun _ => DenL.nil) passL (da_cons (de_v 0) (da_cons (de_v 2) da_nil)) (lenA_cons (lenA_cons lenA_nil)))))))))
      dss_nil)
    (dss_one (ds_expr (de_append 8 (de_op2 r_add (de_v 7) (de_sub hr (de_v 2) (de_op2 r_mod (de_op2 r_add (de_v 3) (de_op2 r_mulX (de_v 4) (de_v 6))) de_int))))))))
    (dss_one (ds_ret (de_v 8)))))))
noncomputable def b_law_shuffled : M Fl := (sSeq (sPar [2, 3] (qF (gFnF FList (gCons (gVar 1) (pur []))) (qF (fLst (pur [])) qNil)))
    (sSeq (whileN (gTest (gOp2 FNeL (gVar 2) (gSeq .lst (pur [])))) (sExpr (gAppend 3 (gPop 2 (gCall m_law_next [] (gCons (gVar 0) (gCons (gFn FLen (gCons (gVar 2) (pur []))) (pur []))))))) 100000)
    (sRet (gVar 3))))
noncomputable def m_law_shuffled : Mir := mk 4 b_law_shuffled
theorem ok_law_shuffled (T : Txt K mg base) : FnD P w K mg base 3 (He.ga K "_law_shuffled") (fdA K (He.ga K "_law_shuffled")) ["_law_state", "_law_some"] m_law_shuffled := fnD_of T.F_law_shuffled sc_law_shuffled fun cdv A outer s H E hr ng => (dss_cons (ds_par2 rfl sc_law_shuffled.nd rfl rfl (by decide) rfl rfl (dq_f (df_callTy (r_list rfl) mut_FList rfl T.n_list bu_list (da_cons (de_v 1) da_nil)) (dq_f (df_lst da_nil lenA_nil) dq_nil)))
    (dss_cons (ds_while 100000 (passes_of rfl) (dt_cmp (r_neL hr) (de_v 2) (de_lst da_nil lenA_nil) rfl) (dss_one (ds_expr (de_append 3 (de_pop 2 (de_call (ok_law_next T) (hr.mono (by decide)) ng rfl T.g_law_next T.F_law_next.kp (bi_law_next T) .nil (fun _ => DenL.nil) (passes_call takes_cx fun _ _ _ _ h => h) (da_cons (de_v 0) (da_cons (de_callB (r_len) rfl T.n_len bu_len (da_cons (de_v 2) da_nil)) da_nil)) (lenA_cons (lenA_cons lenA_nil))))))))
    (dss_one (ds_ret (de_v 3)))))
noncomputable def b_law_spots : M Fl := (sSeq (sAsg (tgT [(tgN 2), (tgN 3)]) (gSeq .tup (gCons (gCall m_law_next [] (gCons (gVar 0) (gCons (pur (.d (.int 16))) (pur [])))) (gCons (gCall m_law_pick [] (gCons (gVar 0) (gCons (gSeq .lst (gCons (pur (.d (.int 1))) (gCons (pur (.d (.int 3))) (gCons (pur (.d (.int 5))) (gCons (pur (.d (.int 7))) (gCons (pur (.d (.int 9))) (gCons (pur (.d (.int 11))) (gCons (pur (.d (.int 13))) (gCons (pur (.d (.int 15))) (pur [])))))))))) (pur [])))) (pur [])))))
    (sRet (gFn FSorted (gCons (gFz (gLc (gRange1 (gVar 1)) [4] (tgN 4) (pur true) (gOp2 FMod (gOp2 FAdd (gVar 2) (gOp2 FMulX (gVar 3) (gVar 4))) (pur (.d (.int 16)))))) (pur [])))))
noncomputable def m_law_spots : Mir := mk 5 b_law_spots
theorem ok_law_spots (T : Txt K mg base) : FnD P w K mg base 4 (He.ga K "_law_spots") (fdA K (He.ga K "_law_spots")) ["_law_state", "_law_many"] m_law_spots := fnD_of T.F_law_spots sc_law_spots fun cdv A outer s H E hr ng => (dss_cons (ds_asg (de_tup (da_cons (de_call (ok_law_next T) (hr.mono (by decide)) ng rfl T.g_law_next T.F_law_next.kp (bi_law_next T) .nil (fun _ => DenL.nil) (passes_call takes_cx fun _ _ _ _ h => h) (da_cons (de_v 0) (da_cons de_int da_nil)) (lenA_cons (lenA_cons lenA_nil))) (da_cons (de_call (ok_law_pick T) (hr.mono (by decide)) ng rfl T.g_law_pick T.F_law_pick.kp (bi_law_pick T) .nil (fun _ => DenL.nil) (passes_call takes_cx fun _ _ _ _ h => h) (da_cons (de_v 0) (da_cons (de_lst (da_cons de_int (da_cons de_int (da_cons de_int (da_cons de_int (da_cons de_int (da_cons de_int (da_cons de_int (da_cons de_int da_nil)))))))) (lenA_cons (lenA_cons (lenA_cons (lenA_cons (lenA_cons (lenA_cons (lenA_cons (lenA_cons lenA_nil))))))))) da_nil)) (lenA_cons (lenA_cons lenA_nil))) da_nil)) (lenA_cons (lenA_cons lenA_nil))) (dg_tup rfl (dgs_cons (dg_name sc_law_spots.nd rfl (by first | exact .inl rfl | exact .inr rfl)) (dgs_cons (dg_name sc_law_spots.nd rfl (by first | exact .inl rfl | exact .inr rfl)) dgs_nil))))
    (dss_one (ds_ret (de_callB (r_sorted hr rfl) rfl T.n_sorted bu_sorted (da_cons (de_fz (df_lcJ (own := [("_law_k", 4)]) rfl sc_law_spots.nd (dj_range1 rfl T.n_range (de_v 1)) (blkOk_by (N := N_law_spots) (sc := defScope s_law_spots) (by decide +kernel)) (fun _ _ _ _ _ => (dg_name sc_law_spots.nd rfl (by first | exact .inl rfl | exact .inr rfl))) (fun _ _ _ _ _ => dts_nil) (fun _ _ _ _ _ => (de_op2 r_mod (de_op2 r_add (de_v 2) (de_op2 r_mulX (de_v 3) (de_v 4))) de_int)))) da_nil)))))
noncomputable def b_law_pairs : M Fl := (sSeq (sSet 1 (gCall m_law_shuffled [] (gCons (gVar 0) (gCons (gCall m_law_spots [] (gCons (gVar 0) (gCons (gOp2 FAdd (pur (.d (.int 1))) (gCall m_law_next [] (gCons (gVar 0) (gCons (pur (.d (.int 15))) (pur []))))) (pur [])))) (pur [])))))
    (sRet (gFz (gLc (gItAny (gVar 1)) [2] (tgN 2) (pur true) (gSeq .tup (gCons (gVar 2) (gCons (gCall m_law_next [] (gCons (gVar 0) (gCons (pur (.d (.int 10))) (pur [])))) (pur []))))))))
noncomputable def m_law_pairs : Mir := mk 3 b_law_pairs
theorem ok_law_pairs (T : Txt K mg base) : FnD P w K mg base 5 (He.ga K "_law_pairs") (fdA K (He.ga K "_law_pairs")) ["_law_state"] m_law_pairs := fnD_of T.F_law_pairs sc_law_pairs fun cdv A outer s H E hr ng => (dss_cons (ds_set (i := 1) sc_law_pairs.nd rfl (.inl rfl) (de_call (ok_law_shuffled T) (hr.mono (by decide)) ng rfl T.g_law_shuffled T.F_law_shuffled.kp (bi_law_shuffled T) .nil (fun _ => DenL.nil) (passes_call takes_cx fun _ _ _ _ h => h) (da_cons (de_v 0) (da_cons (de_call (ok_law_spots T) (hr.mono (by decide)) ng rfl T.g_law_spots T.F_law_spots.kp (bi_law_spots T) .nil (fun _ => DenL.nil) (passes_call takes_cx fun _ _ _ _ h => h) (da_cons (de_v 0) (da_cons (de_op2 r_add de_int (de_call (ok_law_next T) (hr.mono (by decide)) ng rfl T.g_law_next T.F_law_next.kp (bi_law_next T) .nil (fun _ => DenL.nil) (passes_call takes_cx fun _ _ _ _ h => h) (da_cons (de_v 0) (da_cons de_int da_nil)) (lenA_cons (lenA_cons lenA_nil)))) da_nil)) (lenA_cons (lenA_cons lenA_nil))) da_nil)) (lenA_cons (lenA_cons lenA_nil))))
    (dss_one (ds_ret (de_fz (df_lcJ (own := [("_law_spot", 2)]) rfl sc_law_pairs.nd (dj_any (de_v 1)) (blkOk_by (N := N_law_pairs) (sc := defScope s_law_pairs) (by decide +kernel)) (fun _ _ _ _ _ => (dg_name sc_law_pairs.nd rfl (by first | exact .inl rfl | exact .inr rfl))) (fun _ _ _ _ _ => dts_nil) (fun _ _ _ _ _ => (de_tup (da_cons (de_v 2) (da_cons (de_call (ok_law_next T) (hr.mono (by decide)) ng rfl T.g_law_next T.F_law_next.kp (bi_law_next T) .nil (fun _ => DenL.nil) passL (da_cons (de_v 0) (da_cons de_int da_nil)) (lenA_cons (lenA_cons lenA_nil))) da_nil)) (lenA_cons (lenA_cons lenA_nil)))))))))
end
section
variable {P : Program} {w : World} {K : PySem.W.Frag} {mg : Str → Option Value} {base : Heap}
theorem ok_law_begun (T : Txt K mg base) : FnG P w K mg base (L2.CX P w) 1 (He.ga K "_law_begun") (fdA K (He.ga K "_law_begun")) ["_law_script"] (spBegun K) := by
  refine fnG_of T.F_law_begun sc_law_begun (fun vs H Q E h => by obtain ⟨a, ns, rfl, _⟩ := h; rfl) fun cdv A outer s H vs Q E hr ng h => ?_
  refine ⟨_, pss_cons (ps_setLc (i := 2) (own := [("_law_lump", 1)]) (g := gName 1) rfl sc_law_begun.nd rfl rfl (sw_true rfl rfl rfl (by decide +kernel)) (pi_list (pv 0)) (blkOk_by (N := N_law_begun) (sc := defScope s_law_begun) (by decide +kernel))
    (fun _ _ _ _ _ => pg_name (i := 1) sc_law_begun.nd rfl (Or.inl rfl))
    (fun _ _ _ _ _ => pts_one (pt_cmpR op_ge (pe_callB call_abs rfl T.n_abs bu_abs (pa_cons (pv 1) pa_nil)) (pe_op op_pow pe_int pe_int) rfl))
    (fun _ _ _ _ _ => pe_op op_fdivW (pe_callB call_abs rfl T.n_abs bu_abs (pa_cons (pv 1) pa_nil)) (pe_op op_pow pe_int pe_int)))
    (pss_one (ps_ret (pe_disp (pps_cons pe_str pe_int (pps_cons pe_str (pv 2) (pps_cons pe_str (pe_lc (own := [("_law_lump", 1)]) (g := gName 1) (tt := tYes) rfl sc_law_begun.nd (pi_list (pv 0)) (blkOk_by (N := N_law_begun) (sc := defScope s_law_begun) (by decide +kernel))
      (fun _ _ _ _ _ => pg_name (i := 1) sc_law_begun.nd rfl (Or.inl rfl)) (fun _ _ _ _ _ => pts_nil)
      (fun _ _ _ _ _ => pe_op op_mod (pe_callB call_abs rfl T.n_abs bu_abs (pa_cons (pv 1) pa_nil)) (pe_op op_pow pe_int pe_int)))
      (pps_cons pe_str pe_int pps_nil)))) rfl rfl (fun z => by cases z) (by decide)))), ?_⟩
  obtain ⟨a, ns, rfl, hS, hl, hq⟩ := h
  have hl' : ns.length < sizeLine := by rw [sizeLine_eq]; omega
  unfold tSeq tAsg
  refine tlc_ints (K := K) (a := a) (ns := ns) (σ := L2.start N_law_begun [.ref a]) (H := H) (fun n => decide (10 ^ 18 ≤ absI n)) (fun n => absI n / 10 ^ 18) rfl hS hl' (fun n H Q q => ?_) (fun n H Q q => ?_) fun g hg => ?_
  · exact ⟨_, rfl, n, rfl, 10, 18, rfl, rfl, ⟨by decide, by decide, by decide⟩, absI n, 10 ^ 18, rfl, rfl, _, rfl, q⟩
  · exact ⟨_, rfl, n, rfl, 10, 18, rfl, rfl, ⟨by decide, by decide, by decide⟩, absI n, 10 ^ 18, rfl, rfl, wide_div (b := 60) (by decide) (by decide) (by decide) (by decide), q⟩
  · intro p hp
    refine ⟨_, rfl, ?_⟩
    dsimp only [tPairs, tC]
    refine tlc_ints (tt := tYes) (K := K) (a := a) (ns := ns) (σ := (L2.start N_law_begun [.ref a]).set 2 (some (.ref g))) (fun _ => true) (fun n => absI n % 10 ^ 18) rfl (sqL_upd (sqL_upd hS hg) hp) hl' (fun n H Q q => q) (fun n H Q q => ?_) fun c hc => ?_
    · exact ⟨_, rfl, n, rfl, 10, 18, rfl, rfl, ⟨by decide, by decide, by decide⟩, absI n, 10 ^ 18, rfl, rfl, (by decide : (0 : Int) < 10 ^ 18), q⟩
    · have cp : c ≠ p := fun e => by rw [e, upd_same] at hc; cases hc
      refine ⟨by rw [upd_ne cp.symm, upd_same], [(kStr "digits", .int 0), (kStr "great", .ref g), (kStr "cells", .ref c), (kStr "turn", .int 0)], rfl, (by decide : 4 ≤ 15), ?_⟩
      have z := hq g p c ⟨hg, hp, hc⟩
      exact z
noncomputable def b_law : M Fl := (sSeq (sForJ (gRange1 (pur (.d (.int 4)))) (tgN 2) (sSeq (sAsg (tgL [(tgN 3), (tgN 4)]) (gCall m_law_names [] (gCons (gVar 1) (gCons (pur (.d (.int 2))) (pur [])))))
    (sSeq (sAsg (tgT [(tgN 5), (tgN 6)]) (gSeq .tup (gCons (gCall m_law_pairs [] (gCons (gVar 1) (pur []))) (gCons (gOp2 FEq (gCall m_law_next [] (gCons (gVar 1) (gCons (pur (.d (.int 2))) (pur [])))) (pur (.d (.int 0)))) (pur [])))))
    (sSeq (sPar [7, 8] (qA (gNew (gFnF FDict (gCons (gVar 5) (pur [])))) (qA (gOp2 FGet (gOp2 FGet (gVar 5) (pur (.d (.int 0)))) (pur (.d (.int 0)))) qNil)))
    (sSeq (sPar [9, 10] (qA (gMakeK "Write" m_Write___init__ [.u 0, .u 1, .w 0] [] (gCons (gVar 3) (gCons (gVar 7) (pur []))) (gCons (gVar 6) (pur []))) (qA (gMakeK "Write" m_Write___init__ [.w 2, .w 1, .w 0] [] (pur []) (gCons (gVar 6) (gCons (gVar 7) (gCons (gVar 3) (pur []))))) qNil)))
    (sSeq (sSet 11 (gMake "Write" m_Write___init__ [.bl false] (gCons (gVar 3) (gCons (gVar 7) (pur [])))))
    (sSeq (sExpr (gRClr (gVar 7)))
    (sSeq (sRPut (gVar 7) (gVar 8) (gOp2 FMod (gOp2 FAdd (gOp2 FGet (gOp2 FGet (gVar 5) (pur (.d (.int 0)))) (pur (.d (.int 1)))) (pur (.d (.int 1)))) (pur (.d (.int 10)))))
    (sSeq (gIf (gOr (gNot (gTest (gCall m_law_is_as_made [] (gCons (gVar 9) (gCons (gVar 3) (gCons (gVar 5) (gCons (gVar 6) (pur [])))))))) (gNot (gTest (gCall m_law_is_as_made [] (gCons (gVar 10) (gCons (gVar 3) (gCons (gVar 5) (gCons (gVar 6) (pur []))))))))) (sRet (pur (.d (.bl false)))) sNx)
    (sSeq (gIf (gNot (gTest (gCall m_law_is_as_made [] (gCons (gVar 11) (gCons (gVar 3) (gCons (gVar 5) (gCons (pur (.d (.bl false))) (pur [])))))))) (sRet (pur (.d (.bl false)))) sNx)
    (sSeq (gIf (gOr (gNot (gTest (gOwn2 "Write" m_Write___eq__ (gVar 9) (gVar 10)))) (gTest (gOp2 FNe (gOwn2 "Write" m_Write___eq__ (gVar 9) (gVar 11)) (gNotV (gVar 6))))) (sRet (pur (.d (.bl false)))) sNx)
    (sSeq (sSet 12 (gMeth "Write" "with_required" m_Write_with_required [] (gVar 9) (gCons (gNotV (gVar 6)) (pur []))))
    (sSeq (gIf (gOr (gNot (gTest (gCall m_law_is_as_made [] (gCons (gVar 12) (gCons (gVar 3) (gCons (gVar 5) (gCons (gNotV (gVar 6)) (pur [])))))))) (gTest (gOwn2 "Write" m_Write___eq__ (gVar 12) (gVar 9)))) (sRet (pur (.d (.bl false)))) sNx)
    (sSeq (gIf (gOr (gNot (gTest (gOwn2 "Write" m_Write___eq__ (gMethK "Write" "with_required" m_Write_with_required [.u 0, .w 0] [] (gVar 12) (gCons (gVar 6) (pur []))) (gVar 9)))) (gNot (gTest (gOwn2 "Write" m_Write___eq__ (gMeth "Write" "with_required" m_Write_with_required [] (gVar 9) (gCons (gVar 6) (pur []))) (gVar 9))))) (sRet (pur (.d (.bl false)))) sNx)
    (sSeq (sSet 13 (gOp2 FAdd (gSeq .lst (gCons (gSeq .tup (gCons (gVar 8) (gCons (gOp2 FMod (gOp2 FAdd (gOp2 FAdd (gOp2 FGet (gOp2 FGet (gVar 5) (pur (.d (.int 0)))) (pur (.d (.int 1)))) (pur (.d (.int 1)))) (gCall m_law_next [] (gCons (gVar 1) (gCons (pur (.d (.int 9))) (pur []))))) (pur (.d (.int 10)))) (pur [])))) (pur []))) (gSl FSl (gVar 5) (gPart (pur (.d (.int 1)))) (pur none))))
    (sSeq (sSet 15 (gOp2 FAdd (gVar 5) (gSeq .lst (gCons (gSeq .tup (gCons (gOp2 FGet (gFz (gLc (gRange1 (pur (.d (.int 16)))) [14] (tgN 14) (gTest (gOp2 FNotIn (gVar 14) (gFn FDict (gCons (gVar 5) (pur []))))) (gVar 14))) (pur (.d (.int 0)))) (gCons (pur (.d (.int 0))) (pur [])))) (pur [])))))
    (sSeq (gIf (gOr (gNot (gTest (gCall m_law_differs [] (gCons (gVar 9) (gCons (gVar 4) (gCons (gVar 5) (gCons (gVar 6) (pur [])))))))) (gNot (gTest (gCall m_law_differs [] (gCons (gVar 9) (gCons (gVar 3) (gCons (gVar 13) (gCons (gVar 6) (pur []))))))))) (sRet (pur (.d (.bl false)))) sNx)
    (gIf (gOr (gNot (gTest (gCall m_law_differs [] (gCons (gVar 9) (gCons (gVar 3) (gCons (gVar 15) (gCons (gVar 6) (pur [])))))))) (gNot (gTest (gCall m_law_differs [] (gCons (gVar 9) (gCons (gVar 3) (gCons (gVar 5) (gCons (gNotV (gVar 6)) (pur []))))))))) (sRet (pur (.d (.bl false)))) sNx))))))))))))))))))
    (sRet (pur (.d (.bl true)))))
def LawTrue : Prop := ∀ r : Rs, r.dg = 0 → r.tn = 0 → (∀ z ∈ r.gr, 1 ≤ z) → (∀ z ∈ r.ce, 0 ≤ z ∧ z < 10 ^ 18) → r.gr.length ≤ 63 → r.ce.length ≤ 63 → r.fz = [] → r.rg = [] → (r.tb = []) →
  ∃ s, b_law ⟨.no :: .fr (.adr r.sd) :: List.replicate 14 .no, some r, none⟩ = .ok (.rt (.bl true)) s
def spLaw (K : PySem.W.Frag) : Sp := fun vs H Q _ => ∃ (a : Addr) (ns : List Int), vs = [.ref a] ∧ SqL K H a (ns.map V.int) ∧ ns.length ≤ 63 ∧ (∀ q ∈ qsL, H (tabQ K q) = some (.tbl #[])) ∧ ∀ H', Q (.bl true) H'
theorem ok_law (L : LawTrue) (T : Txt K mg base) : FnG P w K mg base (L2.CX P w) 8 (He.ga K "law") (fdA K (He.ga K "law")) ["_law_script"] (spLaw K) := by
  refine fnG_of T.F_law sc_law (fun vs H Q E h => by obtain ⟨a, ns, rfl, _⟩ := h; rfl) fun cdv A outer s H vs Q E hr ng h => ?_
  obtain ⟨a, ns, rfl, hS, hl, ht, hq⟩ := h
  refine ⟨_, pss_cons (ps_set (i := 1) sc_law.nd rfl (.inl rfl) (peg_call (E := E) (ok_law_begun T) (hr.mono (by decide)) ng rfl T.g_law_begun T.F_law_begun.kp (bi_law_begun T) .nil (passes_call takes_cx fun _ _ _ _ h => h) (pa_cons (pv 0) pa_nil)))
    (show DSs _ E _ b_law from (dss_cons (ds_forJ (passes_of rfl) rfl (dj_range1 rfl T.n_range de_int) (dg_name sc_law.nd rfl (by first | exact .inl rfl | exact .inr rfl))
      (dss_cons (ds_asg (de_call (ok_law_names T) (hr.mono (by decide)) ng rfl T.g_law_names T.F_law_names.kp (bi_law_names T) .nil (fun _ => DenL.nil) (passes_call takes_cx fun _ _ _ _ h => h) (da_cons (de_v 1) (da_cons de_int da_nil)) (lenA_cons (lenA_cons lenA_nil))) (dg_unl rfl (dgs_cons (dg_name sc_law.nd rfl (by first | exact .inl rfl | exact .inr rfl)) (dgs_cons (dg_name sc_law.nd rfl (by first | exact .inl rfl | exact .inr rfl)) dgs_nil))))
    (dss_cons (ds_asg (de_tup (da_cons (de_call (ok_law_pairs T) (hr.mono (by decide)) ng rfl T.g_law_pairs T.F_law_pairs.kp (bi_law_pairs T) .nil (fun _ => DenL.nil) (passes_call takes_cx fun _ _ _ _ h => h) (da_cons (de_v 1) da_nil) (lenA_cons lenA_nil)) (da_cons (de_cmp (r_eq hr) (de_call (ok_law_next T) (hr.mono (by decide)) ng rfl T.g_law_next T.F_law_next.kp (bi_law_next T) .nil (fun _ => DenL.nil) (passes_call takes_cx fun _ _ _ _ h => h) (da_cons (de_v 1) (da_cons de_int da_nil)) (lenA_cons (lenA_cons lenA_nil))) de_int rfl) da_nil)) (lenA_cons (lenA_cons lenA_nil))) (dg_tup rfl (dgs_cons (dg_name sc_law.nd rfl (by first | exact .inl rfl | exact .inr rfl)) (dgs_cons (dg_name sc_law.nd rfl (by first | exact .inl rfl | exact .inr rfl)) dgs_nil))))
    (dss_cons (ds_par2 rfl sc_law.nd rfl rfl (by decide) rfl rfl (dq_a (de_new (df_callTy (r_dict rfl) mut_FDict rfl T.n_dict bu_dict (da_cons (de_v 5) da_nil))) (dq_a (de_sub hr (de_sub hr (de_v 5) de_int) de_int) dq_nil)))
    (dss_cons (ds_par2 rfl sc_law.nd rfl rfl (by decide) rfl rfl (dq_a (de_makeK (mz := []) (md := []) T.M_Write (ok_Write___init__ T) (hr.mono (by decide)) ng rfl T.g_Write (kbN T.F_Write___init__ 3 ["required"] [.u 0, .u 1, .u 2, .w 0] fun _ _ _ _ _ _ us ws l1 l2 => match us, ws, l1, l2 with | [_, _, _], [_], _, _ => rfl) (fun _ => DenL.nil) (fun y vs zs l1 l2 => match vs, zs, l1, l2 with | [_, _], [_], _, _ => rfl) (fun vs zs l1 l2 => match vs, zs, l1, l2 with | [_, _], [_], _, _ => rfl) takes_cx (da_cons (de_v 3) (da_cons (de_v 7) da_nil)) (dk_cons (de_v 6) dk_nil) (lenA_cons (lenA_cons lenA_nil)) (lenA_cons lenA_nil)) (dq_a (de_makeK0 (mz := []) (md := []) T.M_Write (ok_Write___init__ T) (hr.mono (by decide)) ng rfl T.g_Write (kbN T.F_Write___init__ 1 ["required", "cells", "name"] [.u 0, .w 2, .w 1, .w 0] fun _ _ _ _ _ _ us ws l1 l2 => match us, ws, l1, l2 with | [_], [_, _, _], _, _ => rfl) (fun _ => DenL.nil) (fun y zs l2 => match zs, l2 with | [_, _, _], _ => rfl) (fun zs l2 => match zs, l2 with | [_, _, _], _ => rfl) takes_cx (dk_cons (de_v 6) (dk_cons (de_v 7) (dk_cons (de_v 3) dk_nil))) (lenA_cons (lenA_cons (lenA_cons lenA_nil)))) dq_nil)))
    (dss_cons (ds_set (i := 11) sc_law.nd rfl (.inl rfl) (de_make T.M_Write (ok_Write___init__ T) (hr.mono (by decide)) ng rfl T.g_Write (bi0_Write___init__ T).choose_spec.2 (bi0_Write___init__ T).choose_spec.1 (fun _ => .cons (by unfold Den; rfl) (.nil)) takes_cx (da_cons (de_v 3) (da_cons (de_v 7) da_nil)) (lenA_cons (lenA_cons lenA_nil))))
    (dss_cons (ds_expr (de_rclr (de_v 7)))
    (dss_cons (ds_rput hr (de_v 7) (de_v 8) (de_op2 r_mod (de_op2 r_add (de_sub hr (de_sub hr (de_v 5) de_int) de_int) de_int) de_int))
    (dss_cons (ds_ifx (dt_w (dw_or (dt_not (dt_val (de_call (ok_law_is_as_made T) (hr.mono (by decide)) ng rfl T.g_law_is_as_made T.F_law_is_as_made.kp (bi_law_is_as_made T) .nil (fun _ => DenL.nil) (passes_call takes_cx fun _ _ _ _ h => h) (da_cons (de_v 9) (da_cons (de_v 3) (da_cons (de_v 5) (da_cons (de_v 6) da_nil)))) (lenA_cons (lenA_cons (lenA_cons (lenA_cons lenA_nil))))))) (dw_or1 (dt_not (dt_val (de_call (ok_law_is_as_made T) (hr.mono (by decide)) ng rfl T.g_law_is_as_made T.F_law_is_as_made.kp (bi_law_is_as_made T) .nil (fun _ => DenL.nil) (passes_call takes_cx fun _ _ _ _ h => h) (da_cons (de_v 10) (da_cons (de_v 3) (da_cons (de_v 5) (da_cons (de_v 6) da_nil)))) (lenA_cons (lenA_cons (lenA_cons (lenA_cons lenA_nil))))))))))
      (dss_one (ds_ret de_bl))
      dss_nil)
    (dss_cons (ds_ifx (dt_not (dt_val (de_call (ok_law_is_as_made T) (hr.mono (by decide)) ng rfl T.g_law_is_as_made T.F_law_is_as_made.kp (bi_law_is_as_made T) .nil (fun _ => DenL.nil) (passes_call takes_cx fun _ _ _ _ h => h) (da_cons (de_v 11) (da_cons (de_v 3) (da_cons (de_v 5) (da_cons de_bl da_nil)))) (lenA_cons (lenA_cons (lenA_cons (lenA_cons lenA_nil)))))))
      (dss_one (ds_ret de_bl))
      dss_nil)
    (dss_cons (ds_ifx (dt_w (dw_or (dt_not (dt_own2 (ok_Write___eq__ T) T.m_Write___eq__.at_ T.m_Write___eq__.fn (bi_Write___eq__ T) (noTys_of T.kn_Write_NoneType T.kn_Write_str T.kn_Write_list T.kn_Write_dict T.kn_Write_tuple) (hr.mono (by decide)) ng (de_v 9) (de_v 10) rfl)) (dw_or1 (dt_cmp (r_ne hr) (de_own2 (ok_Write___eq__ T) T.m_Write___eq__.at_ T.m_Write___eq__.fn (bi_Write___eq__ T) (noTys_of T.kn_Write_NoneType T.kn_Write_str T.kn_Write_list T.kn_Write_dict T.kn_Write_tuple) (hr.mono (by decide)) ng (de_v 9) (de_v 11) rfl) (de_not (de_v 6)) rfl))))
      (dss_one (ds_ret de_bl))
      dss_nil)
    (dss_cons (ds_set (i := 12) sc_law.nd rfl (.inl rfl) (de_meth (de_v 9) T.c_Write T.m_Write_with_required (ok_Write_with_required T) (hr.mono (by decide)) ng (bi_Write_with_required T) .nil (fun _ => DenL.nil) (passes_call takes_cx fun _ _ _ _ h => h) (da_cons (de_not (de_v 6)) da_nil) (lenA_cons lenA_nil)))
    (dss_cons (ds_ifx (dt_w (dw_or (dt_not (dt_val (de_call (ok_law_is_as_made T) (hr.mono (by decide)) ng rfl T.g_law_is_as_made T.F_law_is_as_made.kp (bi_law_is_as_made T) .nil (fun _ => DenL.nil) (passes_call takes_cx fun _ _ _ _ h => h) (da_cons (de_v 12) (da_cons (de_v 3) (da_cons (de_v 5) (da_cons (de_not (de_v 6)) da_nil)))) (lenA_cons (lenA_cons (lenA_cons (lenA_cons lenA_nil))))))) (dw_or1 (dt_own2 (ok_Write___eq__ T) T.m_Write___eq__.at_ T.m_Write___eq__.fn (bi_Write___eq__ T) (noTys_of T.kn_Write_NoneType T.kn_Write_str T.kn_Write_list T.kn_Write_dict T.kn_Write_tuple) (hr.mono (by decide)) ng (de_v 12) (de_v 9) rfl))))
      (dss_one (ds_ret de_bl))
      dss_nil)
    (dss_cons (ds_ifx (dt_w (dw_or (dt_not (dt_own2 (ok_Write___eq__ T) T.m_Write___eq__.at_ T.m_Write___eq__.fn (bi_Write___eq__ T) (noTys_of T.kn_Write_NoneType T.kn_Write_str T.kn_Write_list T.kn_Write_dict T.kn_Write_tuple) (hr.mono (by decide)) ng (de_methK (de_v 12) T.c_Write T.m_Write_with_required (ok_Write_with_required T) (hr.mono (by decide)) ng (sb_Write_with_required_required T) (fun _ => DenL.nil) (passes_call takes_cx fun _ _ _ _ h => h) (dk_cons (de_v 6) dk_nil) (lenA_cons lenA_nil) (fun y zs l2 => match zs, l2 with | [_], _ => rfl)) (de_v 9) rfl)) (dw_or1 (dt_not (dt_own2 (ok_Write___eq__ T) T.m_Write___eq__.at_ T.m_Write___eq__.fn (bi_Write___eq__ T) (noTys_of T.kn_Write_NoneType T.kn_Write_str T.kn_Write_list T.kn_Write_dict T.kn_Write_tuple) (hr.mono (by decide)) ng (de_meth (de_v 9) T.c_Write T.m_Write_with_required (ok_Write_with_required T) (hr.mono (by decide)) ng (bi_Write_with_required T) .nil (fun _ => DenL.nil) (passes_call takes_cx fun _ _ _ _ h => h) (da_cons (de_v 6) da_nil) (lenA_cons lenA_nil)) (de_v 9) rfl)))))
      (dss_one (ds_ret de_bl))
      dss_nil)
    (dss_cons (ds_set (i := 13) sc_law.nd rfl (.inl rfl) (de_op2 r_add (de_lst (da_cons (de_tup (da_cons (de_v 8) (da_cons (de_op2 r_mod (de_op2 r_add (de_op2 r_add (de_sub hr (de_sub hr (de_v 5) de_int) de_int) de_int) (de_call (ok_law_next T) (hr.mono (by decide)) ng rfl T.g_law_next T.F_law_next.kp (bi_law_next T) .nil (fun _ => DenL.nil) (passes_call takes_cx fun _ _ _ _ h => h) (da_cons (de_v 1) (da_cons de_int da_nil)) (lenA_cons (lenA_cons lenA_nil)))) de_int) da_nil)) (lenA_cons (lenA_cons lenA_nil))) da_nil) (lenA_cons lenA_nil)) (de_slice (de_v 5) (do_some de_int) do_none)))
    (dss_cons (ds_set (i := 15) sc_law.nd rfl (.inl rfl) (de_op2 r_add (de_v 5) (de_lst (da_cons (de_tup (da_cons (de_sub hr (de_fz (df_lcJ (own := [("_law_spot", 14)]) rfl sc_law.nd (dj_range1 rfl T.n_range de_int) (blkOk_by (N := N_law) (sc := defScope s_law) (by decide +kernel)) (fun _ _ _ _ _ => (dg_name sc_law.nd rfl (by first | exact .inl rfl | exact .inr rfl))) (fun _ _ _ _ _ => dts_one (dt_cmp (r_notIn hr) (de_v 14) (de_callTy (r_dict rfl) rfl T.n_dict bu_dict (da_cons (de_v 5) da_nil)) rfl)) (fun _ _ _ _ _ => (de_v 14)))) de_int) (da_cons de_int da_nil)) (lenA_cons (lenA_cons lenA_nil))) da_nil) (lenA_cons lenA_nil))))
    (dss_cons (ds_ifx (dt_w (dw_or (dt_not (dt_val (de_call (ok_law_differs T) (hr.mono (by decide)) ng rfl T.g_law_differs T.F_law_differs.kp (bi_law_differs T) .nil (fun _ => DenL.nil) (passes_call takes_cx fun _ _ _ _ h => h) (da_cons (de_v 9) (da_cons (de_v 4) (da_cons (de_v 5) (da_cons (de_v 6) da_nil)))) (lenA_cons (lenA_cons (lenA_cons (lenA_cons lenA_nil))))))) (dw_or1 (dt_not (dt_val (de_call (ok_law_differs T) (hr.mono (by decide)) ng rfl T.g_law_differs T.F_law_differs.kp (bi_law_differs T) .nil (fun _ => DenL.nil) (passes_call takes_cx fun _ _ _ _ h => h) (da_cons (de_v 9) (da_cons (de_v 3) (da_cons (de_v 13) (da_cons (de_v 6) da_nil)))) (lenA_cons (lenA_cons (lenA_cons (lenA_cons lenA_nil))))))))))
      (dss_one (ds_ret de_bl))
      dss_nil)
    (dss_one (ds_ifx (dt_w (dw_or (dt_not (dt_val (de_call (ok_law_differs T) (hr.mono (by decide)) ng rfl T.g_law_differs T.F_law_differs.kp (bi_law_differs T) .nil (fun _ => DenL.nil) (passes_call takes_cx fun _ _ _ _ h => h) (da_cons (de_v 9) (da_cons (de_v 3) (da_cons (de_v 15) (da_cons (de_v 6) da_nil)))) (lenA_cons (lenA_cons (lenA_cons (lenA_cons lenA_nil))))))) (dw_or1 (dt_not (dt_val (de_call (ok_law_differs T) (hr.mono (by decide)) ng rfl T.g_law_differs T.F_law_differs.kp (bi_law_differs T) .nil (fun _ => DenL.nil) (passes_call takes_cx fun _ _ _ _ h => h) (da_cons (de_v 9) (da_cons (de_v 3) (da_cons (de_v 5) (da_cons (de_not (de_v 6)) da_nil)))) (lenA_cons (lenA_cons (lenA_cons (lenA_cons lenA_nil))))))))))
      (dss_one (ds_ret de_bl))
      dss_nil)))))))))))))))))))
    (dss_one (ds_ret de_bl)))), ?_⟩
  refine ⟨_, rfl, a, ns, rfl, hS, hl, fun g p c b => ?_⟩
  have R := begun_relT (qs := qsL) (K := K) (n := 14) b ht (fun q h => absurd h (by unfold qsL; exact List.not_mem_nil)) (σ := (L2.start N_law [.ref a]).set 1 (some (.ref p))) rfl rfl
  obtain ⟨s1, e⟩ := L ⟨p, g, c, 0, greatOf ns, cellsOf ns, 0, qsL.map (fun q => (tabQ K q, q)), [], []⟩ rfl rfl (greatOf_pos ns) (cellsOf_lt ns) (Nat.le_trans (greatOf_len ns) hl) (Nat.le_trans (cellsOf_len ns) hl) rfl rfl rfl
  refine ⟨_, _, R, ?_⟩
  rw [e]
  intro v H' G' l r' dn
  unfold Den at dn
  subst dn
  exact hq H'
end
end Lw
end
section
set_option maxHeartbeats 0
namespace Lw
open PySem PySem.Spec PyProof.Rows L2 DL
theorem funD_fdA {K : PySem.W.Frag} {x qual : Str} {params : Arguments} {body : List Stmt} {scope : Scope} {dvs : List V} {kws : List (Str × V)} {f : Addr} (h : ∃ fd, FunD K x qual params body scope dvs kws f fd) : FunD K x qual params body scope dvs kws f (fdA K f) := by
  obtain ⟨fd, F⟩ := h
  have e : fdA K f = fd := by
    obtain ⟨oc, od, dV, kV, doc, pm, an, cdv, ct, osl, _, lk, _⟩ := F.ex
    unfold fdA
    rw [lk]
  rw [e]
  exact F
theorem exAt {K : PySem.W.Frag} (h : ex K = true) (i : Nat) {b : PySem.W.Frag → Bool} (e : exl[i]? = some b := by rfl) : b K = true := List.all_eq_true.mp h b (List.mem_of_getElem? e)
theorem ob_eq (s : PySem.W.SharedT) : ob s = hk.obs s.abs := obsL_eq (HandSHeadRun.getT_eq s)
end Lw
end
section
set_option maxHeartbeats 0
namespace Lw
open PySem PySem.Spec PyProof.Rows L2 DL
def cs (K : PySem.W.Frag) : List (Addr × Addr) := tf.map fun f => (cdF K (f K), tabF K (f K))
theorem txt_of {K : PySem.W.Frag} {mg : Str → Option Value} {base h : Heap} (KX : K.In h) (G : h.Ns mainGlobals mg) (c : SaysG fa fn tf ex h K) (tb : ∀ p ∈ cs K, LamX.TabB base mg p.1 p.2) : Txt K mg base where
  F_law_begun := funD_fdA (c.s.def_ 0 (d := d_law_begun) rfl)
  F_Write___eq__ := funD_fdA (c.s.def_ 1 (d := d_Write___eq__) rfl)
  F_is_number := funD_fdA (c.s.def_ 2 (d := d_is_number) rfl)
  F_is_cell := funD_fdA (c.s.def_ 3 (d := d_is_cell) rfl)
  F_is_value := funD_fdA (c.s.def_ 4 (d := d_is_value) rfl)
  F_are_cells := funD_fdA (c.s.def_ 5 (d := d_are_cells) rfl)
  F_is_name := funD_fdA (c.s.def_ 6 (d := d_is_name) rfl)
  F_Write___init__ := funD_fdA (c.s.def_ 7 (d := d_Write___init__) rfl)
  F_Write_with_required := funD_fdA (c.s.def_ 8 (d := d_Write_with_required) rfl)
  F_law_differs := funD_fdA (c.s.def_ 9 (d := d_law_differs) rfl)
  F_Write_cells := funD_fdA (c.s.def_ 10 (d := d_Write_cells) rfl)
  F_Write_required := funD_fdA (c.s.def_ 11 (d := d_Write_required) rfl)
  F_Write_sets := funD_fdA (c.s.def_ 12 (d := d_Write_sets) rfl)
  F_law_is_as_made := funD_fdA (c.s.def_ 13 (d := d_law_is_as_made) rfl)
  F_law_next := funD_fdA (c.s.def_ 14 (d := d_law_next) rfl)
  F_law_pick := funD_fdA (c.s.def_ 15 (d := d_law_pick) rfl)
  F_law_names := funD_fdA (c.s.def_ 16 (d := d_law_names) rfl)
  F_law_shuffled := funD_fdA (c.s.def_ 17 (d := d_law_shuffled) rfl)
  F_law_spots := funD_fdA (c.s.def_ 18 (d := d_law_spots) rfl)
  F_law_pairs := funD_fdA (c.s.def_ 19 (d := d_law_pairs) rfl)
  F_law := funD_fdA (c.s.def_ 20 (d := d_law) rfl)
  M_Write := He.mkr_ok (c.s.fact 1 (f := .mkr "Write") rfl)
  c_Write := He.cls_ok (c.s.fact 2 (f := .cls "Write") rfl)
  g_Write := He.glo_ok KX G (c.s.fact 3 (f := .glo "Write") rfl)
  g_are_cells := He.glo_ok KX G (c.s.fact 4 (f := .glo "are_cells") rfl)
  g_is_cell := He.glo_ok KX G (c.s.fact 5 (f := .glo "is_cell") rfl)
  g_is_name := He.glo_ok KX G (c.s.fact 6 (f := .glo "is_name") rfl)
  g_is_number := He.glo_ok KX G (c.s.fact 7 (f := .glo "is_number") rfl)
  g_is_value := He.glo_ok KX G (c.s.fact 8 (f := .glo "is_value") rfl)
  g_law_begun := He.glo_ok KX G (c.s.fact 9 (f := .glo "_law_begun") rfl)
  g_law_differs := He.glo_ok KX G (c.s.fact 10 (f := .glo "_law_differs") rfl)
  g_law_is_as_made := He.glo_ok KX G (c.s.fact 11 (f := .glo "_law_is_as_made") rfl)
  g_law_names := He.glo_ok KX G (c.s.fact 12 (f := .glo "_law_names") rfl)
  g_law_next := He.glo_ok KX G (c.s.fact 13 (f := .glo "_law_next") rfl)
  g_law_pairs := He.glo_ok KX G (c.s.fact 14 (f := .glo "_law_pairs") rfl)
  g_law_pick := He.glo_ok KX G (c.s.fact 15 (f := .glo "_law_pick") rfl)
  g_law_shuffled := He.glo_ok KX G (c.s.fact 16 (f := .glo "_law_shuffled") rfl)
  g_law_spots := He.glo_ok KX G (c.s.fact 17 (f := .glo "_law_spots") rfl)
  kn_Write_NoneType := kitB_ok (exAt c.ex 0 (b := fun K => kitB K (He.ga K "Write") (.type "NoneType") false) rfl)
  kn_Write_dict := kitB_ok (exAt c.ex 1 (b := fun K => kitB K (He.ga K "Write") (.type "dict") false) rfl)
  kn_Write_list := kitB_ok (exAt c.ex 2 (b := fun K => kitB K (He.ga K "Write") (.type "list") false) rfl)
  kn_Write_str := kitB_ok (exAt c.ex 3 (b := fun K => kitB K (He.ga K "Write") (.type "str") false) rfl)
  kn_Write_tuple := kitB_ok (exAt c.ex 4 (b := fun K => kitB K (He.ga K "Write") (.type "tuple") false) rfl)
  m_Write___eq__ := He.meth_ok (c.s.fact 18 (f := .meth "Write" "__eq__") rfl)
  m_Write_sets := He.meth_ok (c.s.fact 19 (f := .meth "Write" "sets") rfl)
  m_Write_with_required := He.meth_ok (c.s.fact 20 (f := .meth "Write" "with_required") rfl)
  n_abs := He.free_ok KX G (c.s.fact 21 (f := .free "abs") rfl)
  n_all := He.free_ok KX G (c.s.fact 22 (f := .free "all") rfl)
  n_bool := He.free_ok KX G (c.s.fact 23 (f := .free "bool") rfl)
  n_dict := He.free_ok KX G (c.s.fact 24 (f := .free "dict") rfl)
  n_int := He.free_ok KX G (c.s.fact 25 (f := .free "int") rfl)
  n_isinstance := He.free_ok KX G (c.s.fact 26 (f := .free "isinstance") rfl)
  n_len := He.free_ok KX G (c.s.fact 27 (f := .free "len") rfl)
  n_list := He.free_ok KX G (c.s.fact 28 (f := .free "list") rfl)
  n_range := He.free_ok KX G (c.s.fact 29 (f := .free "range") rfl)
  n_repr := He.free_ok KX G (c.s.fact 30 (f := .free "repr") rfl)
  n_sorted := He.free_ok KX G (c.s.fact 31 (f := .free "sorted") rfl)
  n_str := He.free_ok KX G (c.s.fact 32 (f := .free "str") rfl)
  na_Write_name := He.noat_ok (c.s.fact 33 (f := .noat "Write" "name") rfl)
  na_Write_own_cells := He.noat_ok (c.s.fact 34 (f := .noat "Write" "own_cells") rfl)
  na_Write_own_need := He.noat_ok (c.s.fact 35 (f := .noat "Write" "own_need") rfl)
  p_Write_cells := propB_ok (exAt c.ex 5 (b := fun K => propB K "Write" "cells") rfl)
  p_Write_required := propB_ok (exAt c.ex 6 (b := fun K => propB K "Write" "required") rfl)
  sys := sysB_ok (exAt c.ex 7 (b := sysB) rfl)
  v_LETTERS := He.str_ok KX G (c.s.fact 36 (f := .str "LETTERS" "abcdefghijklmnopqrstuvwxyz") rfl)
  v_LONGEST := He.int_ok KX G (c.s.fact 37 (f := .int "LONGEST" 8) rfl)
  v_MOST_CELL := He.int_ok KX G (c.s.fact 38 (f := .int "MOST_CELL" 15) rfl)
  v_MOST_VALUE := He.int_ok KX G (c.s.fact 39 (f := .int "MOST_VALUE" 9) rfl)
  o_Write := ownB_ok (He.cls_ok (c.s.fact 2 (f := .cls "Write") rfl)) (exAt c.ex 8 (b := fun K => ownB K "Write") rfl)
  i_Write_bool := notB_ok (exAt c.ex 9 (b := fun K => notB K (.ref (He.ga K "Write")) (.type "bool")) rfl)
  i_Write_dict := notB_ok (exAt c.ex 10 (b := fun K => notB K (.ref (He.ga K "Write")) (.type "dict")) rfl)
  i_Write_int := notB_ok (exAt c.ex 11 (b := fun K => notB K (.ref (He.ga K "Write")) (.type "int")) rfl)
  i_Write_str := notB_ok (exAt c.ex 12 (b := fun K => notB K (.ref (He.ga K "Write")) (.type "str")) rfl)
  i_NoneType_Write := notB_ok (exAt c.ex 13 (b := fun K => notB K (.type "NoneType") (.ref (He.ga K "Write"))) rfl)
  i_bool_Write := notB_ok (exAt c.ex 14 (b := fun K => notB K (.type "bool") (.ref (He.ga K "Write"))) rfl)
  i_int_Write := notB_ok (exAt c.ex 15 (b := fun K => notB K (.type "int") (.ref (He.ga K "Write"))) rfl)
  i_str_Write := notB_ok (exAt c.ex 16 (b := fun K => notB K (.type "str") (.ref (He.ga K "Write"))) rfl)
  i_list_Write := notB_ok (exAt c.ex 17 (b := fun K => notB K (.type "list") (.ref (He.ga K "Write"))) rfl)
  i_tuple_Write := notB_ok (exAt c.ex 18 (b := fun K => notB K (.type "tuple") (.ref (He.ga K "Write"))) rfl)
  i_dict_Write := notB_ok (exAt c.ex 19 (b := fun K => notB K (.type "dict") (.ref (He.ga K "Write"))) rfl)
theorem facts {w : World} {K : PySem.W.Frag} {h : Heap} {mg : Str → Option Value} {f : Addr} (L : LawTrue) (KX : K.In h) (G : h.Ns mainGlobals mg) (hfa : mg ("law" : Str) = some (.ref f)) (c : SaysG fa fn tf ex h K) :
    LawG PySem.Challenge.rw_lastwrites_k01_writes_as_made w K 8 63 "_law_script" mg f h := by
  have e := hfa.symm.trans (He.glo_ok KX G (c.s.fact 0 (f := .glo "law") rfl))
  cases e
  have F := funD_fdA (c.s.def_ 20 (d := d_law) rfl)
  have b := FunD.bindsA (ps := ["_law_script"]) F fun _ _ _ _ _ _ us hl => match us, hl with | [_], _ => rfl
  have m : ∀ p ∈ cs K, ∃ f ∈ tf, p = (cdF K (f K), tabF K (f K)) := fun p hp => by
    obtain ⟨f, hf, rfl⟩ := List.mem_map.mp hp
    exact ⟨f, hf, rfl⟩
  refine ⟨fdA K (He.ga K "law"), cs K, spLaw K, fun p hp => ?_, fun p hp => ?_, fun p hp => ?_, fun s v => b s [v] rfl, fun H a ns hl ht hS => ?_, fun base _ _ tb => ok_law L (txt_of KX G c tb)⟩
  · obtain ⟨f, hf, rfl⟩ := m p hp
    exact c.emp f hf
  · obtain ⟨f, hf, rfl⟩ := m p hp
    exact c.out f hf
  · obtain ⟨f, hf, rfl⟩ := m p hp
    exact PySem.W.codeHd_of_K KX (c.hd f hf)
  · refine ⟨a, ns, rfl, hS, hl, ?_, fun _ => rfl⟩
    intro q hq
    simp only [qsL, List.mem_cons, List.not_mem_nil, or_false] at hq
end Lw
open PySem PySem.W PySem.Calls PyProof.Rows
theorem Lw.holds (L : Lw.LawTrue) : PySem.Challenge.rw_lastwrites_k01_writes_as_made.Holds := by
  w_on; o_law
  refine HandSHeadRun.head_any (r := OpenLaw.row PySem.Challenge.rw_lastwrites_k01_writes_as_made) (q := view (OpenLaw.row PySem.Challenge.rw_lastwrites_k01_writes_as_made).prog [24]) (H := Lw.hk) (ob := Lw.ob) (M := 24000) (loose := Lw.nms) (d := HandSHeadRun.topDef (OpenLaw.row PySem.Challenge.rw_lastwrites_k01_writes_as_made).prog 24) (kwd := []) Lw.ob_eq
    (by kernel_rfl) (fun s => by kernel_rfl) Lw.run (by kernel_rfl) (by kernel_rfl) (by kernel_rfl) (by rfl) (by first | assumption | decide +kernel) (by decide +kernel) ⟨rfl, rfl, rfl, rfl, rfl, by decide +kernel⟩ ?hw ?hc
  case hw => w_witness2
  case hc =>
    refine DL.walk_ofG (l := PySem.Challenge.rw_lastwrites_k01_writes_as_made) (n := 63) (k := 8) (x := "_law_script") rfl (by decide) (by kernel_rfl) ⟨rfl, by decide, by decide⟩ (fun w mg fa h Y G hmg0 => ?_) (fun w H s e s' z => ?_)
    · obtain ⟨K, KX, c⟩ := Y
      have hmg : mg ("law" : PySem.Str) = some (.ref fa) := by
        have e : (HandSHeadRun.topDef (OpenLaw.row PySem.Challenge.rw_lastwrites_k01_writes_as_made).prog 24).name = ("law" : PySem.Str) := by kernel_rfl
        rw [← e]
        exact hmg0
      exact ⟨K, KX, Lw.facts L KX G hmg c⟩
    · obtain ⟨_, _, _, _, _, _, _, _, _, _, _, _, f⟩ := z
      exact f
end
section
namespace DL
open PySem PySem.Spec PyProof.Rows L2
class StE (p : Prop) (q : outParam Prop) : Prop where
  go : q → p
class RvO (r : Rv) (d : outParam D) : Prop where
  e : r = .old d
class RvN (r : Rv) (d : outParam D) : Prop where
  e : r = .nw d
class OpA (o : Option D) (d : outParam D) : Prop where
  e : o = some d
class IsB (o : Option Bool) (b : outParam Bool) : Prop where
  e : o = some b
class Hd (p : Prop) : Prop where
  h : p
class Nth (l : List Sl) (i : Nat) (x : outParam Sl) : Prop where
  e : l[i]? = some x
class SetAt (l : List Sl) (i : Nat) (x : Sl) (l' : outParam (List Sl)) : Prop where
  e : l.set i x = l'
section
variable {α β : Type}
@[irreducible] def Ok (g : M α) (s : S) (Q : α → S → Prop) : Prop := match g s with
  | .ok a s' => Q a s'
  | _ => False
variable {Q Q' : α → S → Prop} {g : M α} {s : S}
theorem ok_imp (h : Ok g s Q) (w : ∀ a s', Q a s' → Q' a s') : Ok g s Q' := by
  unfold Ok at h ⊢
  cases e : g s with
  | ok a s' => rw [e] at h; exact w _ _ h
  | _ => rw [e] at h; exact h
theorem ok_get (h : Ok g s Q) : ∃ a s', g s = .ok a s' ∧ Q a s' := by
  unfold Ok at h
  cases e : g s with
  | ok a s' => rw [e] at h; exact ⟨a, s', rfl, h⟩
  | _ => rw [e] at h; exact h.elim
theorem ok_of {a : α} {s' : S} (e : g s = .ok a s') (h : Q a s') : Ok g s Q := by unfold Ok; rw [e]; exact h
theorem ok_at {g' : M α} {s0 : S} (e : g' s = g s0) (h : Ok g s0 Q) : Ok g' s Q := by
  unfold Ok at h ⊢
  rw [e]
  exact h
theorem ok_pur {a : α} : Ok (pur a) s Q = Q a s := by unfold Ok; rfl
theorem ok_bad : Ok bad s Q = False := by unfold Ok; rfl
theorem ok_bnd {Q : β → S → Prop} {f : α → M β} : Ok (bnd g f) s Q = Ok g s fun a s' => Ok (f a) s' Q := by
  unfold Ok bnd
  cases g s <;> rfl
theorem ok_ite {c : Prop} [Decidable c] {a b : M α} : Ok (if c then a else b) s Q = if c then Ok a s Q else Ok b s Q := by split <;> rfl
end
section
variable {s : S} {i : Nat} {sl : List Sl} {rs : Option Rs} {me : Option Me}
theorem ok_var {Q : A → S → Prop} : Ok (gVar i) s Q = match (s.sl[i]? : Option Sl) with
    | some (.fr _) => Q (.sl i) s
    | some (.ow _) => Q (.sl i) s
    | _ => False := by
  unfold Ok gVar
  generalize s.sl[i]? = o
  cases o with
  | none => rfl
  | some x => cases x <;> rfl
theorem ok_pk {a : A} {Q : D → S → Prop} : Ok (pk a) s Q = match peek a s with
    | some d => Q d s
    | none => False := by
  unfold Ok pk
  cases peek a s <;> rfl
theorem peek_d {d : D} : peek (.d d) s = some d := rfl
theorem peek_sl : peek (.sl i) s = match (s.sl[i]? : Option Sl) with
    | some (.fr d) => some d
    | some (.ow d) => (match pairO d with
      | none => some d
      | some _ => none)
    | _ => none := rfl
theorem ok_force_d {d : D} {Q : D → S → Prop} : Ok (force (.d d)) s Q = Q d s := by unfold Ok; rfl
theorem ok_force_sl {Q : D → S → Prop} : Ok (force (.sl i)) s Q = match (s.sl[i]? : Option Sl) with
    | some (.fr d) => Q d s
    | some (.ow d) => Q d (setSl i (.fr d) s)
    | _ => False := by
  unfold Ok force
  dsimp only
  generalize s.sl[i]? = o
  cases o with
  | none => rfl
  | some x => cases x <;> rfl
theorem ok_rv {r : Rv} {Q : A → S → Prop} : Ok (rvM r) s Q = match r with
    | .old d => Q (.d d) s
    | .nw d => Q (.d d) s
    | .no => False := by unfold Ok; cases r <;> rfl
theorem ok_put {x : Sl} {Q : Fl → S → Prop} : Ok (put i x) s Q = Q .nx (setSl i x s) := by unfold Ok; rfl
theorem ok_seq {a b : M Fl} {Q : Fl → S → Prop} : Ok (sSeq a b) s Q = Ok a s fun f s' => match f with
    | .nx => Ok b s' Q
    | f => Q f s' := by
  unfold sSeq
  rw [ok_bnd]
  congr 1
  funext f s'
  cases f <;> first | rfl | exact ok_pur
theorem ok_call {m : Mir} {ds : List D} {Q : A → S → Prop} : Ok (doCall m ds) s Q = match m ds s.rs with
    | .ok d rs => Q (.d d) { s with rs := rs }
    | _ => False := by
  unfold Ok doCall
  cases m ds s.rs <;> rfl
theorem ok_make {c : Str} {m : MirI} {ds : List D} {fs : List (Str × D)} {rs' : Option Rs} {Q : A → S → Prop} (h : ∀ x dx, m x dx ds s.rs = .ok (.ins c fs) rs') (q : Q (.d (.ins c fs)) { s with rs := rs' }) : Ok (doMake c m ds) s Q := by
  refine ok_of (a := .d (.ins c fs)) (s' := { s with rs := rs' }) ?_ q
  unfold doMake
  rw [if_pos (show Still m ds s.rs from fun x dx => (h x dx).trans (h 0 0).symm), h 0 0]
  dsimp only
  rw [if_pos rfl]
theorem ok_noX {α : Type} {g : M α} {Q : α → S → Prop} (h : Ok g s Q) : Ok (noX g) s Q := by
  obtain ⟨a, s', e, q⟩ := ok_get h
  refine ok_of (a := a) (s' := s') ?_ q
  unfold noX
  rw [e]
end
section
variable {α : Type} {s : S}
theorem ok_loop {tg : Tg} {b : M Fl} {Q : Fl → S → Prop} (en : α → D) {xs : List α} (I : List α → S → Prop)
    (step : ∀ pre x suf s, xs = pre ++ x :: suf → I pre s → ∃ s2, tg (en x) s = some s2 ∧ Ok b s2 fun f s3 => match f with
      | .nx => I (pre ++ [x]) s3
      | .ct => I (pre ++ [x]) s3
      | .bk => Q .nx s3
      | .rt d => Q (.rt d) s3) (q : ∀ s', I xs s' → Q .nx s') : ∀ (suf pre : List α) (s : S), xs = pre ++ suf → I pre s → Ok (loop tg b (suf.map en)) s Q
  | [], pre, s, e, h0 => by
    rw [List.map_nil]
    rw [List.append_nil] at e
    subst e
    exact ok_at (g := pur .nx) (s0 := s) rfl (by rw [ok_pur]; exact q s h0)
  | x :: suf, pre, s, e, h0 => by
    rw [List.map_cons]
    obtain ⟨s2, e2, h⟩ := step pre x suf s e h0
    refine ok_at (g := bnd b _) (s0 := s2) (by unfold loop; rw [e2]) ?_
    rw [ok_bnd]
    refine ok_imp h fun f s3 h3 => ?_
    cases f with
    | nx => exact ok_loop en I step q suf (pre ++ [x]) s3 (by rw [e]; simp) h3
    | ct => exact ok_loop en I step q suf (pre ++ [x]) s3 (by rw [e]; simp) h3
    | bk => rw [ok_pur]; exact h3
    | rt d => rw [ok_pur]; exact h3
theorem ok_forJ {it : M (List D)} {tg : Tg} {b : M Fl} {Q : Fl → S → Prop} (en : α → D) (xs : List α) (I : List α → S → Prop)
    (hit : Ok it s fun ds s1 => ds = xs.map en ∧ I [] s1)
    (step : ∀ pre x suf s, xs = pre ++ x :: suf → I pre s → ∃ s2, tg (en x) s = some s2 ∧ Ok b s2 fun f s3 => match f with
      | .nx => I (pre ++ [x]) s3
      | .ct => I (pre ++ [x]) s3
      | .bk => Q .nx s3
      | .rt d => Q (.rt d) s3) (q : ∀ s', I xs s' → Q .nx s') : Ok (sForJ it tg b) s Q := by
  unfold sForJ
  rw [ok_bnd]
  refine ok_imp hit fun ds s1 ⟨e, h0⟩ => ?_
  subst e
  exact ok_loop en I step q xs [] s1 rfl h0
theorem ok_while {c : M Bool} {b : M Fl} {Q : Fl → S → Prop} (I : Nat → S → Prop)
    (step : ∀ n s, I n s → Ok c s fun x s1 => if x = true then ∃ m, m < n ∧ Ok b s1 fun f s2 => f = .nx ∧ I m s2 else Q .nx s1) : ∀ (k n : Nat) (s : S), n < k → I n s → Ok (whileN c b k) s Q
  | 0, n, s, h, _ => by omega
  | k + 1, n, s, h, hI => by
    unfold whileN
    rw [ok_bnd]
    refine ok_imp (step n s hI) fun x s1 h1 => ?_
    cases x with
    | true =>
      rw [if_pos rfl] at h1 ⊢
      obtain ⟨m, hm, h2⟩ := h1
      rw [ok_bnd]
      refine ok_imp h2 fun f s2 ⟨ef, h3⟩ => ?_
      subst ef
      exact ok_while I step k m s2 (by omega) h3
    | false =>
      rw [if_neg (by simp)] at h1 ⊢
      rw [ok_pur]; exact h1
end
section
variable {α : Type} {s : S} {vs : List Nat} {t : Tg} {c : M Bool} {e ek ev : M A} {it : M (List D)} {sl : List Sl} {me : Option Me}
theorem wipeS_get : ∀ {vs : List Nat} {s : S} {j : Nat}, j ∉ vs → (wipeS vs s).sl[j]? = s.sl[j]?
  | [], s, j, _ => rfl
  | v :: vs, s, j, h => by
    unfold wipeS setSl
    rw [List.mem_cons, not_or] at h
    rw [List.getElem?_set_ne (Ne.symm h.1)]
    exact wipeS_get h.2
theorem wipeS_keep : ∀ {vs : List Nat} {s : S}, (wipeS vs s).rs = s.rs ∧ (wipeS vs s).me = s.me ∧ (wipeS vs s).sl.length = s.sl.length
  | [], s => ⟨rfl, rfl, rfl⟩
  | v :: vs, s => by
    unfold wipeS setSl
    have h := wipeS_keep (vs := vs) (s := s)
    exact ⟨h.1, h.2.1, by simp [h.2.2]⟩
theorem backS_ext (s0 : S) : ∀ (vs : List Nat) (s s' : S), s.rs = s'.rs → s.me = s'.me → s.sl.length = s'.sl.length → (∀ j, j ∉ vs → s.sl[j]? = s'.sl[j]?) → backS s0 vs s = backS s0 vs s'
  | [], s, s', h1, h2, h3, h4 => by
    obtain ⟨a, b, d⟩ := s
    obtain ⟨a', b', d'⟩ := s'
    have e : a = a' := List.ext_getElem? fun j => h4 j (by simp)
    subst e h1 h2
    rfl
  | v :: vs, s, s', h1, h2, h3, h4 => by
    unfold backS
    refine backS_ext s0 vs _ _ h1 h2 (by simp [setSl, h3]) fun j hj => ?_
    unfold setSl
    by_cases ejv : j = v
    · subst ejv
      by_cases hl : j < s.sl.length
      · simp only [List.getElem?_set_self hl, List.getElem?_set_self (show j < s'.sl.length by omega)]
      · rw [List.getElem?_eq_none (by simp; omega), List.getElem?_eq_none (by simp; omega)]
    · simp only [List.getElem?_set_ne (Ne.symm ejv)]
      exact h4 j (by simp [ejv, hj])
theorem backS_wipe (s0 s : S) : backS s0 vs (wipeS vs s) = backS s0 vs s :=
  backS_ext s0 vs _ _ wipeS_keep.1 wipeS_keep.2.1 wipeS_keep.2.2 fun j hj => wipeS_get hj
theorem ok_lcl (en : α → D) {xs : List α} (I : List α → List D → Option Rs → Prop) {Q : List D → S → Prop}
    (step : ∀ pre x suf acc rs, xs = pre ++ x :: suf → I pre acc rs → ∃ s2, t (en x) ⟨sl, rs, me⟩ = some s2 ∧ Ok c s2 fun b s3 => if b = true then Ok e s3 fun a s4 => Ok (force a) s4 fun y s5 => wipeS vs s5 = ⟨sl, s5.rs, me⟩ ∧ I (pre ++ [x]) (acc ++ [y]) s5.rs
      else wipeS vs s3 = ⟨sl, s3.rs, me⟩ ∧ I (pre ++ [x]) acc s3.rs)
    (q : ∀ acc s', wipeS vs s' = ⟨sl, s'.rs, me⟩ → I xs acc s'.rs → Q acc s') : ∀ (suf pre : List α) (acc : List D) (s : S), xs = pre ++ suf → wipeS vs s = ⟨sl, s.rs, me⟩ → I pre acc s.rs → Ok (lcLoop vs t c e (suf.map en) acc) s Q
  | [], pre, acc, s, ex, w, h0 => by
    rw [List.map_nil]
    rw [List.append_nil] at ex
    subst ex
    exact ok_at (g := pur acc) (s0 := s) rfl (by rw [ok_pur]; exact q acc s w h0)
  | x :: suf, pre, acc, s, ex, w, h0 => by
    rw [List.map_cons]
    obtain ⟨s2, e2, h⟩ := step pre x suf acc s.rs ex h0
    refine ok_at (g := bnd c _) (s0 := s2) (by unfold lcLoop; rw [w, e2]) ?_
    rw [ok_bnd]
    refine ok_imp h fun b s3 h3 => ?_
    cases b with
    | true =>
      rw [if_pos rfl] at h3 ⊢
      rw [ok_bnd]
      refine ok_imp h3 fun a s4 h4 => ?_
      rw [ok_bnd]
      exact ok_imp h4 fun y s5 h5 => ok_lcl en I step q suf (pre ++ [x]) (acc ++ [y]) s5 (by rw [ex]; simp) h5.1 h5.2
    | false =>
      rw [if_neg (by simp)] at h3 ⊢
      exact ok_lcl en I step q suf (pre ++ [x]) acc s3 (by rw [ex]; simp) h3.1 h3.2
theorem ok_lc {Q : D → S → Prop} (en : α → D) (xs : List α) (sl : List Sl) (me : Option Me) (I : List α → List D → Option Rs → Prop)
    (hit : Ok it s fun ds s1 => ds = xs.map en ∧ xs.length ≤ 100000 ∧ wipeS vs s1 = ⟨sl, s1.rs, me⟩ ∧ I [] [] s1.rs ∧
      (∀ pre x suf acc rs, xs = pre ++ x :: suf → I pre acc rs → ∃ s2, t (en x) ⟨sl, rs, me⟩ = some s2 ∧ Ok c s2 fun b s3 => if b = true then Ok e s3 fun a s4 => Ok (force a) s4 fun y s5 => wipeS vs s5 = ⟨sl, s5.rs, me⟩ ∧ I (pre ++ [x]) (acc ++ [y]) s5.rs
        else wipeS vs s3 = ⟨sl, s3.rs, me⟩ ∧ I (pre ++ [x]) acc s3.rs) ∧
      ∀ acc rs, I xs acc rs → Q (.lst acc) (backS s1 vs ⟨sl, rs, me⟩)) : Ok (gLc it vs t c e) s Q := by
  unfold gLc
  rw [ok_bnd]
  refine ok_imp hit fun ds s1 ⟨ed, hl, w, h0, step, q⟩ => ?_
  subst ed
  obtain ⟨acc, s', e1, e2⟩ := ok_get (ok_lcl en I step (Q := fun acc s' => Q (.lst acc) (backS s1 vs s')) (fun acc s' w' h => by rw [← backS_wipe, w']; exact q acc s'.rs h) xs [] [] s1 rfl w h0)
  refine ok_of (a := .lst acc) (s' := backS s1 vs s') ?_ e2
  rw [List.length_map, if_pos hl, e1]
theorem ok_lcP {Q : D → S → Prop} (en : α → D) (xs : List α) (sl : List Sl) (me : Option Me) (b : α → Bool) (f : α → D)
    (hit : Ok it s fun ds s1 => ds = xs.map en ∧ xs.length ≤ 100000 ∧ wipeS vs s1 = ⟨sl, s1.rs, me⟩ ∧
      (∀ x ∈ xs, ∃ s2, t (en x) ⟨sl, s1.rs, me⟩ = some s2 ∧ Ok c s2 fun b' s3 => b' = b x ∧ if b' = true then Ok e s3 fun a s4 => Ok (force a) s4 fun y s5 => y = f x ∧ wipeS vs s5 = ⟨sl, s1.rs, me⟩
        else wipeS vs s3 = ⟨sl, s1.rs, me⟩) ∧ Q (.lst ((xs.filter b).map f)) (backS s1 vs ⟨sl, s1.rs, me⟩)) : Ok (gLc it vs t c e) s Q := by
  have hit' := ok_get hit
  obtain ⟨ds, s1, e0, ed, hl, w, step, q⟩ := hit'
  refine ok_lc en xs sl me (fun pre acc rs => rs = s1.rs ∧ acc = (pre.filter b).map f) (ok_of e0 ⟨ed, hl, w, ⟨rfl, rfl⟩, fun pre x suf acc rs hx h0 => ?_, fun acc rs h => ?_⟩)
  · obtain ⟨rfl, rfl⟩ := h0
    obtain ⟨s2, e2, h2⟩ := step x (by rw [hx]; simp)
    refine ⟨s2, e2, ok_imp h2 fun b' s3 ⟨eb, h3⟩ => ?_⟩
    cases b' with
    | true =>
      rw [if_pos rfl] at h3 ⊢
      refine ok_imp h3 fun a s4 h4 => ok_imp h4 fun y s5 ⟨ey, w5⟩ => ?_
      have r5 : s5.rs = s1.rs := by rw [← (wipeS_keep (vs := vs) (s := s5)).1, w5]
      rw [r5]
      refine ⟨w5, rfl, ?_⟩
      rw [List.filter_append, List.map_append, ey]
      simp [← eb]
    | false =>
      rw [if_neg (by simp)] at h3 ⊢
      have r3 : s3.rs = s1.rs := by rw [← (wipeS_keep (vs := vs) (s := s3)).1, h3]
      rw [r3]
      refine ⟨h3, rfl, ?_⟩
      rw [List.filter_append, List.map_append]
      simp [← eb]
  · obtain ⟨rfl, rfl⟩ := h
    exact q
end
theorem okD_int {i : Int} : okD (.int i) = true := by simp [okD, plD, py, PyData.depth]
theorem okD_str {i : Str} : okD (.str i) = true := by simp [okD, plD, py, PyData.depth]
theorem eqv_str {a b : Str} : PyData.eqv (.str a) (.str b) = decide (a = b) := by
  rw [PyData.eqv]
  first
    | rfl
    | (by_cases h : a = b <;> simp [h])
theorem eqv_int {a b : Int} : PyData.eqv (.int a) (.int b) = decide (a = b) := by
  rw [PyData.eqv]
  first
    | rfl
    | (by_cases h : a = b <;> simp [h])
theorem feq_int {a b : Int} : FEq (.int a) (.int b) = .old (.bl (decide (a = b))) := by
  have e : eqD (.int a) (.int b) = some (a == b) := rfl
  unfold FEq
  rw [e]
  rfl
instance i_feq_int {a b : Int} : DL.RvO (FEq (.int a) (.int b)) (.bl (decide (a = b))) := ⟨feq_int⟩
theorem feq_str {a b : Str} : FEq (.str a) (.str b) = .old (.bl (decide (a = b))) := by
  have e : eqD (.str a) (.str b) = some (a == b) := rfl
  unfold FEq
  rw [e]
  rfl
instance i_feq_str {a b : Str} : DL.RvO (FEq (.str a) (.str b)) (.bl (decide (a = b))) := ⟨feq_str⟩
theorem feq_nil {xs : List D} : FEq (.lst xs) (.lst []) = .old (.bl (decide (xs = []))) := by
  unfold FEq eqD
  rw [dEqN]
  cases xs with
  | nil => rfl
  | cons x r => rw [if_neg (by simp)]; rfl
instance i_feq_nil {xs : List D} : DL.RvO (FEq (.lst xs) (.lst [])) (.bl (decide (xs = []))) := ⟨feq_nil⟩
theorem fne_str {a b : Str} : FNe (.str a) (.str b) = .old (.bl (!decide (a = b))) := by
  unfold FNe
  rw [if_pos ⟨okD_str, okD_str⟩]
  show Rv.old (.bl (!PyData.eqv (.str a) (.str b))) = _
  rw [eqv_str]
instance i_fne_str {a b : Str} : DL.RvO (FNe (.str a) (.str b)) (.bl (!decide (a = b))) := ⟨fne_str⟩
theorem fne_int {a b : Int} : FNe (.int a) (.int b) = .old (.bl (!decide (a = b))) := by
  unfold FNe
  rw [if_pos ⟨okD_int, okD_int⟩]
  show Rv.old (.bl (!PyData.eqv (.int a) (.int b))) = _
  rw [eqv_int]
instance i_fne_int {a b : Int} : DL.RvO (FNe (.int a) (.int b)) (.bl (!decide (a = b))) := ⟨fne_int⟩
theorem ltD_int {a b : Int} : ltD (.int a) (.int b) = decide (a < b) := PySem.W.dataLt_int _ _
theorem cmp_int {a b : Int} : cmpOk (.int a) (.int b) := ⟨okD_int, okD_int, rfl, rfl⟩
theorem fgt_int {a b : Int} : FGt (.int a) (.int b) = .old (.bl (decide (b < a))) := by unfold FGt; rw [if_pos cmp_int, ltD_int]
instance i_fgt_int {a b : Int} : DL.RvO (FGt (.int a) (.int b)) (.bl (decide (b < a))) := ⟨fgt_int⟩
theorem flt_int {a b : Int} : FLt (.int a) (.int b) = .old (.bl (decide (a < b))) := by unfold FLt; rw [if_pos cmp_int, ltD_int]
instance i_flt_int {a b : Int} : DL.RvO (FLt (.int a) (.int b)) (.bl (decide (a < b))) := ⟨flt_int⟩
theorem fle_int {a b : Int} : FLe (.int a) (.int b) = .old (.bl (decide (a ≤ b))) := by
  unfold FLe; rw [if_pos cmp_int, ltD_int]
  congr 2
  by_cases h : a ≤ b
  · rw [decide_eq_true h, decide_eq_false (by omega)]; rfl
  · rw [decide_eq_false h, decide_eq_true (by omega)]; rfl
instance i_fle_int {a b : Int} : DL.RvO (FLe (.int a) (.int b)) (.bl (decide (a ≤ b))) := ⟨fle_int⟩
theorem fge_int {a b : Int} : FGe (.int a) (.int b) = .old (.bl (decide (b ≤ a))) := by
  unfold FGe; rw [if_pos cmp_int, ltD_int]
  congr 2
  by_cases h : b ≤ a
  · rw [decide_eq_true h, decide_eq_false (by omega)]; rfl
  · rw [decide_eq_false h, decide_eq_true (by omega)]; rfl
instance i_fge_int {a b : Int} : DL.RvO (FGe (.int a) (.int b)) (.bl (decide (b ≤ a))) := ⟨fge_int⟩
theorem fmod_int {a b : Int} (h : 0 < b) : FMod (.int a) (.int b) = .old (.int (a % b)) := if_pos h
theorem fdiv_int {a b : Int} (h : 0 < b) (h2 : b < 1073741824) : FDiv (.int a) (.int b) = .old (.int (a / b)) := if_pos ⟨h, h2⟩
theorem fpow_int {a b : Int} (h : 0 ≤ b) (h2 : b ≤ 1000000) (h3 : a.natAbs < 2 ^ 64) : FPow (.int a) (.int b) = .old (.int (a ^ b.toNat)) := if_pos ⟨h, h2, h3⟩
theorem fadd_int {a b : Int} : FAdd (.int a) (.int b) = .old (.int (a + b)) := rfl
instance i_fadd_int {a b : Int} : DL.RvO (FAdd (.int a) (.int b)) (.int (a + b)) := ⟨fadd_int⟩
theorem fsub_int {a b : Int} : FSub (.int a) (.int b) = .old (.int (a - b)) := rfl
instance i_fsub_int {a b : Int} : DL.RvO (FSub (.int a) (.int b)) (.int (a - b)) := ⟨fsub_int⟩
theorem fmul_int {a b : Int} (h : CMul a b) : FMulX (.int a) (.int b) = .old (.int (a * b)) := if_pos h
theorem fmul_l {a b : Int} (h1 : -(2 ^ 64) < a) (h2 : a < 2 ^ 64) : FMulX (.int a) (.int b) = .old (.int (a * b)) := fmul_int (.inl ⟨h1, h2⟩)
theorem flen_lst {xs : List D} : FLen [.lst xs] = .old (.int xs.length) := rfl
instance i_flen_lst {xs : List D} : DL.RvO (FLen [.lst xs]) (.int xs.length) := ⟨flen_lst⟩
theorem flen_tup {xs : List D} : FLen [.tup xs] = .old (.int xs.length) := rfl
instance i_flen_tup {xs : List D} : DL.RvO (FLen [.tup xs]) (.int xs.length) := ⟨flen_tup⟩
theorem flen_dic {xs : List (Key × D)} : FLen [.dic xs] = .old (.int xs.length) := rfl
instance i_flen_dic {xs : List (Key × D)} : DL.RvO (FLen [.dic xs]) (.int xs.length) := ⟨flen_dic⟩
theorem flen_str {z : Str} (h : z.length ≤ 16777216) : FLen [.str z] = .old (.int z.length) := if_pos h
theorem at_nat {α : Type} {xs : List α} {k : Nat} {x : α} (h : xs[k]? = some x) : atI xs (k : Nat) = some x := by
  have lt := (List.getElem?_eq_some_iff.mp h).1
  unfold atI ixN
  rw [if_pos (by omega), if_pos (by omega)]
  exact h
theorem fget_lst {xs : List D} {k : Nat} {i : Int} {x : D} (hi : i = k) (h : xs[k]? = some x) : FGet (.lst xs) (.int i) = .old x := by
  subst hi
  unfold FGet
  rw [show getD2 (.lst xs) (.int (k : Nat)) = atI xs (k : Nat) from rfl, at_nat h]
theorem fget_tup {xs : List D} {k : Nat} {i : Int} {x : D} (hi : i = k) (h : xs[k]? = some x) : FGet (.tup xs) (.int i) = .old x := by
  subst hi
  unfold FGet
  rw [show getD2 (.tup xs) (.int (k : Nat)) = atI xs (k : Nat) from rfl, at_nat h]
theorem fget_t0 {a : D} {r : List D} : FGet (.tup (a :: r)) (.int 0) = .old a := fget_tup (k := 0) rfl rfl
instance i_fget_t0 {a : D} {r : List D} : DL.RvO (FGet (.tup (a :: r)) (.int 0)) a := ⟨fget_t0⟩
theorem fget_t1 {a b : D} {r : List D} : FGet (.tup (a :: b :: r)) (.int 1) = .old b := fget_tup (k := 1) rfl rfl
instance i_fget_t1 {a b : D} {r : List D} : DL.RvO (FGet (.tup (a :: b :: r)) (.int 1)) b := ⟨fget_t1⟩
theorem fget_t2 {a b c : D} {r : List D} : FGet (.tup (a :: b :: c :: r)) (.int 2) = .old c := fget_tup (k := 2) rfl rfl
instance i_fget_t2 {a b c : D} {r : List D} : DL.RvO (FGet (.tup (a :: b :: c :: r)) (.int 2)) c := ⟨fget_t2⟩
theorem fget_t3 {a b c d : D} {r : List D} : FGet (.tup (a :: b :: c :: d :: r)) (.int 3) = .old d := fget_tup (k := 3) rfl rfl
instance i_fget_t3 {a b c d : D} {r : List D} : DL.RvO (FGet (.tup (a :: b :: c :: d :: r)) (.int 3)) d := ⟨fget_t3⟩
theorem fget_str {z : Str} {k : Nat} {i : Int} {c : Nat} (hz : z.length ≤ 16777216) (hi : i = k) (h : z.cps.toList[k]? = some c) : FGet (.str z) (.int i) = .old (.str ⟨#[c]⟩) := by
  subst hi
  unfold FGet
  rw [show getD2 (.str z) (.int (k : Nat)) = (if z.length ≤ sizeLine then (atI z.cps.toList (k : Nat)).map fun c => .str ⟨#[c]⟩ else none) from rfl, if_pos (show z.length ≤ sizeLine from hz), at_nat h]
  rfl
theorem fget_dicI {ks : List (Key × D)} {i : Int} {x : D} (h : lookD ks (.inl i) = some x) : FGet (.dic ks) (.int i) = .old x := by
  unfold FGet getD2
  simp [dK, h]
theorem any_strs {x : Str} {xs : List Str} : anyD (.str x) (xs.map D.str) = some (decide (x ∈ xs)) := by
  unfold anyD
  rw [if_pos ⟨okD_str, List.all_eq_true.mpr fun y hy => by obtain ⟨z, _, rfl⟩ := List.mem_map.mp hy; exact okD_str⟩]
  congr 1
  rw [List.any_map]
  induction xs with
  | nil => rfl
  | cons y r ih =>
    rw [List.any_cons, ih]
    show (PyData.eqv (.str y) (.str x) || _) = _
    rw [eqv_str]
    by_cases h : x = y
    · simp [h]
    · have h' : ¬ y = x := fun e => h e.symm
      simp [h, h']
theorem any_ints {x : Int} {xs : List Int} : anyD (.int x) (xs.map D.int) = some (decide (x ∈ xs)) := by
  unfold anyD
  rw [if_pos ⟨okD_int, List.all_eq_true.mpr fun y hy => by obtain ⟨z, _, rfl⟩ := List.mem_map.mp hy; exact okD_int⟩]
  congr 1
  rw [List.any_map]
  induction xs with
  | nil => rfl
  | cons y r ih =>
    rw [List.any_cons, ih]
    show (PyData.eqv (.int y) (.int x) || _) = _
    rw [eqv_int]
    by_cases h : x = y
    · simp [h]
    · have h' : ¬ y = x := fun e => h e.symm
      simp [h, h']
theorem fin_tupS {x : Str} {xs : List Str} : FIn (.str x) (.tup (xs.map D.str)) = .old (.bl (decide (x ∈ xs))) := by show rvB (anyD _ _) = _; rw [any_strs]; rfl
instance i_fin_tupS {x : Str} {xs : List Str} : DL.RvO (FIn (.str x) (.tup (xs.map D.str))) (.bl (decide (x ∈ xs))) := ⟨fin_tupS⟩
theorem fin_lstS {x : Str} {xs : List Str} : FIn (.str x) (.lst (xs.map D.str)) = .old (.bl (decide (x ∈ xs))) := by show rvB (anyD _ _) = _; rw [any_strs]; rfl
instance i_fin_lstS {x : Str} {xs : List Str} : DL.RvO (FIn (.str x) (.lst (xs.map D.str))) (.bl (decide (x ∈ xs))) := ⟨fin_lstS⟩
theorem fin_lstI {x : Int} {xs : List Int} : FIn (.int x) (.lst (xs.map D.int)) = .old (.bl (decide (x ∈ xs))) := by show rvB (anyD _ _) = _; rw [any_ints]; rfl
instance i_fin_lstI {x : Int} {xs : List Int} : DL.RvO (FIn (.int x) (.lst (xs.map D.int))) (.bl (decide (x ∈ xs))) := ⟨fin_lstI⟩
theorem fin_tupI {x : Int} {xs : List Int} : FIn (.int x) (.tup (xs.map D.int)) = .old (.bl (decide (x ∈ xs))) := by show rvB (anyD _ _) = _; rw [any_ints]; rfl
instance i_fin_tupI {x : Int} {xs : List Int} : DL.RvO (FIn (.int x) (.tup (xs.map D.int))) (.bl (decide (x ∈ xs))) := ⟨fin_tupI⟩
theorem fni_tupS {x : Str} {xs : List Str} : FNotIn (.str x) (.tup (xs.map D.str)) = .old (.bl (!decide (x ∈ xs))) := by show rvB ((anyD _ _).map _) = _; rw [any_strs]; rfl
instance i_fni_tupS {x : Str} {xs : List Str} : DL.RvO (FNotIn (.str x) (.tup (xs.map D.str))) (.bl (!decide (x ∈ xs))) := ⟨fni_tupS⟩
theorem fni_lstS {x : Str} {xs : List Str} : FNotIn (.str x) (.lst (xs.map D.str)) = .old (.bl (!decide (x ∈ xs))) := by show rvB ((anyD _ _).map _) = _; rw [any_strs]; rfl
instance i_fni_lstS {x : Str} {xs : List Str} : DL.RvO (FNotIn (.str x) (.lst (xs.map D.str))) (.bl (!decide (x ∈ xs))) := ⟨fni_lstS⟩
theorem fni_lstI {x : Int} {xs : List Int} : FNotIn (.int x) (.lst (xs.map D.int)) = .old (.bl (!decide (x ∈ xs))) := by show rvB ((anyD _ _).map _) = _; rw [any_ints]; rfl
instance i_fni_lstI {x : Int} {xs : List Int} : DL.RvO (FNotIn (.int x) (.lst (xs.map D.int))) (.bl (!decide (x ∈ xs))) := ⟨fni_lstI⟩
theorem fni_tupI {x : Int} {xs : List Int} : FNotIn (.int x) (.tup (xs.map D.int)) = .old (.bl (!decide (x ∈ xs))) := by show rvB ((anyD _ _).map _) = _; rw [any_ints]; rfl
instance i_fni_tupI {x : Int} {xs : List Int} : DL.RvO (FNotIn (.int x) (.tup (xs.map D.int))) (.bl (!decide (x ∈ xs))) := ⟨fni_tupI⟩
theorem fin_dicI {i : Int} {ks : List (Key × D)} : FIn (.int i) (.dic ks) = .old (.bl (lookD ks (.inl i)).isSome) := rfl
instance i_fin_dicI {i : Int} {ks : List (Key × D)} : DL.RvO (FIn (.int i) (.dic ks)) (.bl (lookD ks (.inl i)).isSome) := ⟨fin_dicI⟩
theorem fin_dicS {i : Str} {ks : List (Key × D)} : FIn (.str i) (.dic ks) = .old (.bl (lookD ks (.inr i)).isSome) := rfl
instance i_fin_dicS {i : Str} {ks : List (Key × D)} : DL.RvO (FIn (.str i) (.dic ks)) (.bl (lookD ks (.inr i)).isSome) := ⟨fin_dicS⟩
theorem fni_dicI {i : Int} {ks : List (Key × D)} : FNotIn (.int i) (.dic ks) = .old (.bl (!(lookD ks (.inl i)).isSome)) := rfl
instance i_fni_dicI {i : Int} {ks : List (Key × D)} : DL.RvO (FNotIn (.int i) (.dic ks)) (.bl (!(lookD ks (.inl i)).isSome)) := ⟨fni_dicI⟩
theorem fni_dicS {i : Str} {ks : List (Key × D)} : FNotIn (.str i) (.dic ks) = .old (.bl (!(lookD ks (.inr i)).isSome)) := rfl
instance i_fni_dicS {i : Str} {ks : List (Key × D)} : DL.RvO (FNotIn (.str i) (.dic ks)) (.bl (!(lookD ks (.inr i)).isSome)) := ⟨fni_dicS⟩
theorem fisnot_non : FIsNot .non .non = .old (.bl false) := rfl
instance i_fisnot_non : DL.RvO (FIsNot .non .non) (.bl false) := ⟨fisnot_non⟩
theorem fisnot_lst {xs : List D} : FIsNot (.lst xs) .non = .old (.bl true) := rfl
instance i_fisnot_lst {xs : List D} : DL.RvO (FIsNot (.lst xs) .non) (.bl true) := ⟨fisnot_lst⟩
theorem dK_kD (k : Key) : dK (kD k) = some k := by cases k <;> rfl
theorem pairsD_of : ∀ ks : List (Key × D), pairsD (ks.map fun p => D.tup [kD p.1, p.2]) = some ks
  | [] => rfl
  | p :: r => by
    have ih := pairsD_of r
    rw [List.map_cons, pairsD, ih]
    have e : pairD (D.tup [kD p.1, p.2]) = some p := by
      show (dK (kD p.1)).map _ = _
      rw [dK_kD]; rfl
    rw [e]
theorem putD_new {ks : List (Key × D)} {k : Key} {d : D} (h : k ∉ ks.map (·.1)) : putD ks k d = ks ++ [(k, d)] := by
  unfold putD
  rw [if_neg]
  intro z
  obtain ⟨p, hp, e⟩ := List.any_eq_true.mp z
  exact h (List.mem_map.mpr ⟨p, hp, of_decide_eq_true e⟩)
theorem mergeD_new : ∀ (more ks : List (Key × D)), ((ks ++ more).map (·.1)).Nodup → mergeD ks more = ks ++ more
  | [], ks, _ => by simp [mergeD]
  | p :: r, ks, nd => by
    have e : putD ks p.1 p.2 = ks ++ [p] := putD_new (by
      intro hm
      rw [List.map_append, List.map_cons] at nd
      exact (List.nodup_append.mp nd).2.2 _ hm _ (List.mem_cons_self ..) rfl)
    have ih := mergeD_new r (ks ++ [p]) (by simpa using nd)
    unfold mergeD at ih ⊢
    rw [List.foldl_cons, e, ih]
    simp
theorem ftuple_lst {xs : List D} : FTuple [.lst xs] = .nw (.tup xs) := rfl
instance i_ftuple_lst {xs : List D} : DL.RvN (FTuple [.lst xs]) (.tup xs) := ⟨ftuple_lst⟩
theorem ftuple_tup {xs : List D} : FTuple [.tup xs] = .old (.tup xs) := rfl
instance i_ftuple_tup {xs : List D} : DL.RvO (FTuple [.tup xs]) (.tup xs) := ⟨ftuple_tup⟩
theorem fdict_dic {ks : List (Key × D)} : FDict [.dic ks] = .nw (.dic ks) := rfl
instance i_fdict_dic {ks : List (Key × D)} : DL.RvN (FDict [.dic ks]) (.dic ks) := ⟨fdict_dic⟩
theorem flist_lst {xs : List D} : FList [.lst xs] = .nw (.lst xs) := rfl
instance i_flist_lst {xs : List D} : DL.RvN (FList [.lst xs]) (.lst xs) := ⟨flist_lst⟩
theorem flist_tup {xs : List D} : FList [.tup xs] = .nw (.lst xs) := rfl
instance i_flist_tup {xs : List D} : DL.RvN (FList [.tup xs]) (.lst xs) := ⟨flist_tup⟩
theorem fmin_int {a b : Int} : FMin2 [.int a, .int b] = .old (.int (if b < a then b else a)) := rfl
instance i_fmin_int {a b : Int} : DL.RvO (FMin2 [.int a, .int b]) (.int (if b < a then b else a)) := ⟨fmin_int⟩
theorem fmax_int {a b : Int} : FMax2 [.int a, .int b] = .old (.int (if b > a then b else a)) := rfl
instance i_fmax_int {a b : Int} : DL.RvO (FMax2 [.int a, .int b]) (.int (if b > a then b else a)) := ⟨fmax_int⟩
theorem fint_bl {b : Bool} : FInt [.bl b] = .old (.int (if b then 1 else 0)) := rfl
instance i_fint_bl {b : Bool} : DL.RvO (FInt [.bl b]) (.int (if b then 1 else 0)) := ⟨fint_bl⟩
theorem fint_int {i : Int} : FInt [.int i] = .old (.int i) := rfl
instance i_fint_int {i : Int} : DL.RvO (FInt [.int i]) (.int i) := ⟨fint_int⟩
section
variable {α β : Type} {s : S} {sl : List Sl} {rs rs' : Option Rs} {me : Option Me} {i : Nat} {d : D} {K : α → S → Prop} {KA : A → S → Prop} {KD : D → S → Prop} {KF : Fl → S → Prop}
theorem e_bnd {g : M β} {f : β → M α} (h : Ok g s fun a s' => Ok (f a) s' K) : Ok (bnd g f) s K := by rw [ok_bnd]; exact h
theorem e_pur {a : α} (h : K a s) : Ok (pur a) s K := by rw [ok_pur]; exact h
theorem e_varF (h : s.sl[i]? = some (.fr d)) (k : KA (.sl i) s) : Ok (gVar i) s KA := by rw [ok_var, h]; exact k
theorem e_varO (h : s.sl[i]? = some (.ow d)) (k : KA (.sl i) s) : Ok (gVar i) s KA := by rw [ok_var, h]; exact k
theorem e_pkD (k : KD d s) : Ok (pk (.d d)) s KD := by rw [ok_pk]; exact k
theorem e_pkF (h : s.sl[i]? = some (.fr d)) (k : KD d s) : Ok (pk (.sl i)) s KD := by rw [ok_pk, peek_sl, h]; exact k
theorem e_pkO (h : s.sl[i]? = some (.ow d)) (hn : pairO d = none) (k : KD d s) : Ok (pk (.sl i)) s KD := by
  have e : peek (.sl i) s = some d := by
    rw [peek_sl, h]
    show (match pairO d with | none => some d | some _ => none) = some d
    rw [hn]
  rw [ok_pk, e]; exact k
theorem e_foD (k : KD d s) : Ok (force (.d d)) s KD := by rw [ok_force_d]; exact k
theorem e_foF (h : s.sl[i]? = some (.fr d)) (k : KD d s) : Ok (force (.sl i)) s KD := by rw [ok_force_sl, h]; exact k
theorem e_foO (h : sl[i]? = some (.ow d)) (k : KD d ⟨sl.set i (.fr d), rs, me⟩) : Ok (force (.sl i)) ⟨sl, rs, me⟩ KD := by rw [ok_force_sl, h]; exact k
theorem e_rv {r : Rv} (h : r = .old d) (k : KA (.d d) s) : Ok (rvM r) s KA := by rw [h, ok_rv]; exact k
theorem e_rvN {r : Rv} (h : r = .nw d) (k : KA (.d d) s) : Ok (rvM r) s KA := by rw [h, ok_rv]; exact k
theorem e_put {x : Sl} (k : KF .nx ⟨sl.set i x, rs, me⟩) : Ok (put i x) ⟨sl, rs, me⟩ KF := by rw [ok_put]; exact k
theorem e_seq {a b : M Fl} (h : Ok a s fun f s' => match f with
    | .nx => Ok b s' KF
    | f => KF f s') : Ok (sSeq a b) s KF := by rw [ok_seq]; exact h
theorem e_F {c : Prop} [Decidable c] {a b : M α} (h : ¬ c) (k : Ok b s K) : Ok (if c then a else b) s K := by rw [if_neg h]; exact k
theorem e_app {ga : M A} {xs : List D} (h : sl[i]? = some (.ow (.lst xs))) (ha : Ok ga ⟨sl, rs, me⟩ fun a s1 => Ok (force a) s1 fun x s2 => ∃ sl2 rs2, s2 = ⟨sl2, rs2, me⟩ ∧ sl2[i]? = some (.ow (.lst xs)) ∧ xs.length < 16777216 ∧ KA (.d .non) ⟨sl2.set i (.ow (.lst (xs ++ [x]))), rs2, me⟩) : Ok (gAppend i ga) ⟨sl, rs, me⟩ KA := by
  have e0 : owL i ⟨sl, rs, me⟩ = some xs := by unfold owL; rw [show (⟨sl, rs, me⟩ : S).sl[i]? = _ from h]
  refine ok_at (g := bnd ga _) (s0 := ⟨sl, rs, me⟩) (by unfold gAppend; rw [e0]) ?_
  rw [ok_bnd]
  refine ok_imp ha fun a s1 h1 => ?_
  rw [ok_bnd]
  refine ok_imp h1 fun x s2 ⟨sl2, rs2, e, h2, hl, k⟩ => ?_
  subst e
  have e2 : owL i ⟨sl2, rs2, me⟩ = some xs := by unfold owL; rw [show (⟨sl2, rs2, me⟩ : S).sl[i]? = _ from h2]
  unfold Ok
  dsimp only
  rw [e2]
  dsimp only
  rw [if_pos (show xs.length < sizeLine from hl)]
  exact k
theorem mk_run {n : Nat} {b : M Fl} {ds : List D} {P : D → Option Rs → Prop} (h : Ok b ⟨ds.map .fr ++ List.replicate (n - ds.length) .no, rs, none⟩ fun f s => match f with
    | .rt d => P d s.rs
    | .nx => P .non s.rs
    | _ => False) : ∃ d rs', mk n b ds rs = .ok d rs' ∧ P d rs' := by
  obtain ⟨f, s, e, q⟩ := ok_get h
  unfold mk
  rw [e]
  cases f with
  | rt d => exact ⟨d, s.rs, rfl, q⟩
  | nx => exact ⟨.non, s.rs, rfl, q⟩
  | bk => exact q.elim
  | ct => exact q.elim
theorem mk_eq {n : Nat} {b : M Fl} {ds : List D} {d : D} (h : Ok b ⟨ds.map .fr ++ List.replicate (n - ds.length) .no, rs, none⟩ fun f s => f = .rt d ∧ s.rs = rs') : mk n b ds rs = .ok d rs' := by
  obtain ⟨f, s, e, rfl, q⟩ := ok_get h
  unfold mk
  rw [e]
  show Rf.ok d s.rs = _
  rw [q]
end
inductive All2 {α β : Type} (P : α → β → Prop) : List α → List β → Prop
  | nil : All2 P [] []
  | cons {a : α} {b : β} {as : List α} {bs : List β} : P a b → All2 P as bs → All2 P (a :: as) (b :: bs)
section
variable {α β γ : Type} {P : α → β → Prop}
theorem All2.snoc {as : List α} {bs : List β} {a : α} {b : β} (h : All2 P as bs) (p : P a b) : All2 P (as ++ [a]) (bs ++ [b]) := by
  induction h with
  | nil => exact .cons p .nil
  | cons q _ ih => exact .cons q ih
theorem All2.len {as : List α} {bs : List β} (h : All2 P as bs) : bs.length = as.length := by
  induction h with
  | nil => rfl
  | cons _ _ ih => simp [ih]
theorem All2.imp {P' : α → β → Prop} {as : List α} {bs : List β} (h : All2 P as bs) (w : ∀ a b, P a b → P' a b) : All2 P' as bs := by
  induction h with
  | nil => exact .nil
  | cons q _ ih => exact .cons (w _ _ q) ih
theorem All2.typed {P : α → γ → Prop} {en : γ → β} {as : List α} {bs : List β} (h : All2 (fun a b => ∃ c, b = en c ∧ P a c) as bs) : ∃ cs, bs = cs.map en ∧ All2 P as cs := by
  induction h with
  | nil => exact ⟨[], rfl, .nil⟩
  | cons q _ ih =>
    obtain ⟨c, rfl, p⟩ := q
    obtain ⟨cs, rfl, h⟩ := ih
    exact ⟨c :: cs, rfl, .cons p h⟩
theorem All2.right {Pb : β → Prop} {as : List α} {bs : List β} (h : All2 P as bs) (w : ∀ a b, P a b → Pb b) : ∀ b ∈ bs, Pb b := by
  induction h with
  | nil => intro b hb; cases hb
  | cons q _ ih =>
    intro b hb
    rcases List.mem_cons.mp hb with rfl | hb
    · exact w _ _ q
    · exact ih b hb
end
section
variable {α β : Type} {s : S} {sl : List Sl} {rs rs' : Option Rs} {me : Option Me} {i : Nat} {d : D} {K : α → S → Prop} {KA : A → S → Prop} {KD : D → S → Prop} {KF : Fl → S → Prop}
theorem e_noX {g : M α} (h : Ok g s K) : Ok (noX g) s K := ok_noX h
@[irreducible] def Stop (p : Prop) : Prop := p
theorem stop {p : Prop} (h : p) : Stop p := by unfold Stop; exact h
theorem Stop.go {p : Prop} (h : Stop p) : p := by unfold Stop at h; exact h
theorem e_call {m : Mir} {ds : List D} (h : m ds rs = .ok d rs') (k : KA (.d d) ⟨sl, rs', me⟩) : Stop (Ok (doCall m ds) ⟨sl, rs, me⟩ KA) := stop (by rw [ok_call, h]; exact k)
theorem e_seqS {a b : M Fl} (s1 : S) (h : Ok a s fun f s' => f = .nx ∧ s' = s1) (k : Ok b s1 KF) : Ok (sSeq a b) s KF := by
  rw [ok_seq]
  refine ok_imp h fun f s' ⟨e1, e2⟩ => ?_
  subst e1 e2
  exact k
theorem e_seqE {a b : M Fl} (P : S → Prop) (h : Ok a s fun f s' => f = .nx ∧ P s') (k : ∀ s', P s' → Ok b s' KF) : Ok (sSeq a b) s KF := by
  rw [ok_seq]
  refine ok_imp h fun f s' ⟨e1, e2⟩ => ?_
  subst e1
  exact k s' e2
def Tgt (o : Option S) (k : S → Prop) : Prop := ∃ s3, o = some s3 ∧ k s3
theorem e_sAsg {t : Tg} {ga : M A} (h : Ok ga s fun a s1 => Ok (force a) s1 fun d s2 => Tgt (t d s2) (KF .nx)) : Ok (sAsg t ga) s KF := by
  unfold sAsg
  rw [ok_bnd]
  refine ok_imp h fun a s1 h1 => ?_
  rw [ok_bnd]
  refine ok_imp h1 fun d s2 ⟨s3, e, k⟩ => ?_
  refine ok_of (a := .nx) (s' := s3) ?_ k
  try dsimp only
  rw [e]
theorem e_range {ga : M A} {KL : List D → S → Prop} (h : Ok ga s fun a s1 => Ok (pk a) s1 fun d s2 => ∃ n : Nat, d = .int n ∧ n ≤ 100000 ∧ KL ((List.range n).map fun i => .int (i : Nat)) s2) : Ok (gRange1 ga) s KL := by
  unfold gRange1
  rw [ok_bnd]
  refine ok_imp h fun a s1 h1 => ?_
  rw [ok_bnd]
  refine ok_imp h1 fun d s2 ⟨n, e, hn, k⟩ => ?_
  subst e
  dsimp only
  rw [ok_ite, if_pos (by omega), ok_pur]
  exact k
def putLs : List Nat → List Sl → List Sl → List Sl
  | i :: is, x :: xs, sl => putLs is xs (sl.set i x)
  | _, _, sl => sl
theorem putL_mk : ∀ {is : List Nat} {ss : List Sl} {sl : List Sl}, putL is ss ⟨sl, rs, me⟩ = ⟨putLs is ss sl, rs, me⟩
  | [], _, _ => rfl
  | _ :: _, [], _ => rfl
  | i :: is, x :: xs, sl => by
    unfold putL putLs
    exact putL_mk (is := is) (ss := xs) (sl := sl.set i x)
theorem e_par {is : List Nat} {ss : List Sl} (h : ss.length = is.length) (k : KF .nx ⟨putLs is ss sl, rs, me⟩) : Ok (fun s => if ss.length = is.length then .ok .nx (putL is ss s) else .bad) ⟨sl, rs, me⟩ KF := by
  refine ok_of (a := .nx) (s' := ⟨putLs is ss sl, rs, me⟩) ?_ k
  try dsimp only
  rw [if_pos h, putL_mk]
theorem e_sPar {is : List Nat} {g : M (List Iq)} (h : Ok g s fun qs s1 => Ok (forceQ qs) s1 fun ss s2 => Ok (fun s => if ss.length = is.length then .ok .nx (putL is ss s) else .bad) s2 KF) : Ok (sPar is g) s KF := by
  unfold sPar
  rw [ok_bnd]
  refine ok_imp h fun qs s1 h1 => ?_
  rw [ok_bnd]
  exact h1
theorem e_pop {ga : M A} {xs : List D} (h : sl[i]? = some (.ow (.lst xs))) (ha : Ok ga ⟨sl, rs, me⟩ fun a s1 => Ok (pk a) s1 fun x s2 => ∃ sl2 rs2 y, ∃ k : Nat, x = .int k ∧ s2 = ⟨sl2, rs2, me⟩ ∧ sl2[i]? = some (.ow (.lst xs)) ∧ xs.length < 1000000 ∧ xs[k]? = some y ∧ KA (.d y) ⟨sl2.set i (.ow (.lst (xs.eraseIdx k))), rs2, me⟩) : Ok (gPop i ga) ⟨sl, rs, me⟩ KA := by
  have e0 : owL i ⟨sl, rs, me⟩ = some xs := by unfold owL; rw [show (⟨sl, rs, me⟩ : S).sl[i]? = _ from h]
  refine ok_at (g := bnd ga _) (s0 := ⟨sl, rs, me⟩) (by unfold gPop; rw [e0]) ?_
  rw [ok_bnd]
  refine ok_imp ha fun a s1 h1 => ?_
  rw [ok_bnd]
  refine ok_imp h1 fun x s2 ⟨sl2, rs2, y, k, ex, e, h2, hl, hk, kk⟩ => ?_
  subst e ex
  have e2 : owL i ⟨sl2, rs2, me⟩ = some xs := by unfold owL; rw [show (⟨sl2, rs2, me⟩ : S).sl[i]? = _ from h2]
  have lt := (List.getElem?_eq_some_iff.mp hk).1
  have es : seqIndex? (k : Int) xs.length = some k := by unfold seqIndex?; simp [lt]; omega
  refine ok_of (a := .d y) (s' := ⟨sl2.set i (.ow (.lst (xs.eraseIdx k))), rs2, me⟩) ?_ kk
  try dsimp only
  rw [e2]
  try dsimp only
  rw [if_pos (by omega), es]
  try dsimp only
  rw [hk]
  rfl
theorem e_isDic {ks : List (Key × D)} {KU : Unit → S → Prop} {a : A} (h : peek a s = some (.dic ks)) (k : KU () s) : Ok (isDic a) s KU := by
  refine ok_of (a := ()) (s' := s) ?_ k
  unfold isDic
  rw [h]
theorem e_isStr {z : Str} {KU : Unit → S → Prop} {a : A} (h : peek a s = some (.str z)) (k : KU () s) : Ok (isStr a) s KU := by
  refine ok_of (a := ()) (s' := s) ?_ k
  unfold isStr
  rw [h]
end
structure Dw (sd : Addr) (tb : List (Addr × Str)) (t : Nat) (r : Rs) : Prop where
  sd : r.sd = sd
  tb : r.tb = tb
  dg : 0 ≤ r.dg
  gr : ∀ z ∈ r.gr, 1 ≤ z
  ce : ∀ z ∈ r.ce, 0 ≤ z ∧ z < 10 ^ 18
  lg : r.gr.length ≤ 63
  lc : r.ce.length ≤ 63
  tn0 : 0 ≤ r.tn
  tn : r.tn ≤ t
section
variable {sd : Addr} {tb : List (Addr × Str)} {t : Nat}
theorem Dw.mono {r : Rs} (h : Dw sd tb t r) {t' : Nat} (l : t ≤ t') : Dw sd tb t' r := ⟨h.sd, h.tb, h.dg, h.gr, h.ce, h.lg, h.lc, h.tn0, by have := h.tn; omega⟩
theorem lc_draw {α : Type} {vs : List Nat} {tg : Tg} {e : M A} {it : M (List D)} {s : S} {Q : D → S → Prop} (en : α → D) (xs : List α) (sl : List Sl) (me : Option Me) (P : α → D → Prop) (c : Nat)
    (hit : Ok it s fun ds s1 => ∃ r, ds = xs.map en ∧ xs.length ≤ 100000 ∧ wipeS vs s1 = ⟨sl, some r, me⟩ ∧ Dw sd tb t r ∧
      (∀ x ∈ xs, ∀ r t', t' + c ≤ t + c * xs.length → Dw sd tb t' r → ∃ s2, tg (en x) ⟨sl, some r, me⟩ = some s2 ∧ Ok e s2 fun a s4 => Ok (force a) s4 fun y s5 => P x y ∧ ∃ r', wipeS vs s5 = ⟨sl, some r', me⟩ ∧ Dw sd tb (t' + c) r') ∧
      ∀ ys r', All2 P xs ys → Dw sd tb (t + c * xs.length) r' → Q (.lst ys) (backS s1 vs ⟨sl, some r', me⟩)) : Ok (gLc it vs tg (pur true) e) s Q := by
  obtain ⟨ds, s1, e0, r, ed, hl, w, d, step, q⟩ := ok_get hit
  have w' : wipeS vs s1 = ⟨sl, s1.rs, me⟩ := by
    have e := (wipeS_keep (vs := vs) (s := s1)).1
    rw [w] at e
    rw [w, ← e]
  have rs1 : s1.rs = some r := by rw [← (wipeS_keep (vs := vs) (s := s1)).1, w]
  refine ok_lc en xs sl me (fun pre acc rs => ∃ r, rs = some r ∧ All2 P pre acc ∧ Dw sd tb (t + c * pre.length) r) (ok_of e0 ⟨ed, hl, w', ⟨r, rs1, .nil, by simpa using d⟩, fun pre x suf acc rs hx ⟨r, er, al, dr⟩ => ?_, fun acc rs ⟨r, er, al, dr⟩ => ?_⟩)
  · subst er
    have lx : xs.length = pre.length + suf.length + 1 := by rw [hx]; simp; omega
    obtain ⟨s2, e2, h2⟩ := step x (by rw [hx]; simp) r (t + c * pre.length) (by
      rw [lx, Nat.mul_add, Nat.mul_add]
      omega) dr
    refine ⟨s2, e2, ?_⟩
    rw [ok_pur, if_pos rfl]
    refine ok_imp h2 fun a s4 h4 => ok_imp h4 fun y s5 ⟨p, r', w5, d5⟩ => ?_
    have r5 : s5.rs = some r' := by rw [← (wipeS_keep (vs := vs) (s := s5)).1, w5]
    rw [r5]
    refine ⟨w5, r', rfl, al.snoc p, ?_⟩
    rw [List.length_append, Nat.mul_add]
    exact d5.mono (by simp; omega)
  · subst er
    exact q acc r al dr
end
def SeqK (b : M Fl) (K : Fl → S → Prop) (f : Fl) (s : S) : Prop := match f with
  | .nx => Ok b s K
  | f => K f s
def tstD : D → M Bool
  | .bl b => pur b
  | _ => bad
def andD (g : M A) : D → M A
  | .bl b => if b = true then g else pur (.d (.bl false))
  | _ => bad
def orD (g : M A) : D → M A
  | .bl b => if b = true then pur (.d (.bl true)) else g
  | _ => bad
def notD : D → M A
  | .bl b => pur (.d (.bl !b))
  | _ => bad
def itAny : D → M (List D)
  | .lst ds => pur ds
  | .tup ds => pur ds
  | .str x => pur (signs x)
  | _ => bad
def itKeys : D → M (List D)
  | .dic ks => pur (ks.map fun p => kD p.1)
  | _ => bad
def itVals : D → M (List D)
  | .dic ks => pur (ks.map fun p => p.2)
  | _ => bad
def itItems : D → M (List D)
  | .dic ks => pur (ks.map fun p => .tup [kD p.1, p.2])
  | _ => bad
def itZip : D → D → M (List D)
  | .lst xs, .lst ys => pur (zipD xs ys)
  | .tup xs, .tup ys => pur (zipD xs ys)
  | _, _ => bad
def partD : D → M (Option Int)
  | .int i => pur (some i)
  | _ => bad
def getDef (z : D) : D → Option Key → M A
  | .dic ks, some k => pur (.d ((lookD ks k).getD z))
  | _, _ => bad
def optA : Option D → M A
  | some d => pur (.d d)
  | none => bad
def isT (tab : List (TyN × Bool)) (d : D) : Option Bool := if notDit d = true then (tyN d).bind fun t => tab.lookup t else none
def chainM (r : Rv) (g : M A) : M A := match r with
  | .old (.bl true) => g
  | .old (.bl false) => pur (.d (.bl false))
  | _ => bad
def rgM (mk : List D → D) : D → M A
  | .int j => if 0 ≤ j ∧ j ≤ 1000000 then pur (.d (mk (rgD j))) else bad
  | _ => bad
def rangeM : D → M (List D)
  | .int j => if -(2 ^ 62) ≤ j ∧ j < 2 ^ 62 then pur ((List.range j.toNat).map fun i => .int (i : Nat)) else bad
  | _ => bad
def DicP (a : A) (s : S) (k : Prop) : Prop := ∃ ks, peek a s = some (.dic ks) ∧ k
def Chk (p q : Prop) : Prop := p ∧ q
section
variable {α β : Type} {s : S} {sl sl' : List Sl} {rs rs' : Option Rs} {me : Option Me} {i : Nat} {d e x : D} {K : α → S → Prop} {KA : A → S → Prop} {KB : Bool → S → Prop} {KL : List D → S → Prop} {KLA : List A → S → Prop} {KD : D → S → Prop} {KF : Fl → S → Prop} {KO : Option Int → S → Prop} {KI : List Iq → S → Prop}
variable {a b : M Fl} {g : M α} {ga gb gc : M A} {gs gk : M (List A)} {gd : M D} {t c c2 : M Bool} {q : List D}
theorem chk {p q : Prop} (h : p) (k : q) : Chk p q := ⟨h, k⟩
theorem r_seq (h : Ok a s (SeqK b KF)) : Ok (sSeq a b) s KF := by
  rw [ok_seq]
  refine ok_imp h fun f s' h => ?_
  cases f <;> exact h
theorem r_nx (h : Ok b s KF) : SeqK b KF .nx s := h
theorem r_rt (h : KF (.rt d) s) : SeqK b KF (.rt d) s := h
theorem r_pur {v : α} (h : K v s) : Ok (pur v) s K := e_pur h
theorem r_bnd {g : M β} {f : β → M α} (h : Ok g s fun a s' => Ok (f a) s' K) : Ok (bnd g f) s K := e_bnd h
theorem r_put {x : Sl} (e : sl.set i x = sl') (k : KF .nx ⟨sl', rs, me⟩) : Ok (put i x) ⟨sl, rs, me⟩ KF := by subst e; exact e_put k
theorem r_pkL0 (h : KL [] s) : Ok (pkL []) s KL := e_pur h
theorem r_pkL {a : A} {r : List A} (h : Ok (pk a) s fun d s1 => Ok (pkL r) s1 fun ds s2 => KL (d :: ds) s2) : Ok (pkL (a :: r)) s KL := by
  unfold pkL
  rw [ok_bnd]
  refine ok_imp h fun d s1 h1 => ?_
  rw [ok_bnd]
  exact ok_imp h1 fun ds s2 h2 => e_pur h2
theorem r_foL0 (h : KL [] s) : Ok (forceL []) s KL := e_pur h
theorem r_foL {a : A} {r : List A} (h : Ok (force a) s fun d s1 => Ok (forceL r) s1 fun ds s2 => KL (d :: ds) s2) : Ok (forceL (a :: r)) s KL := by
  unfold forceL
  rw [ok_bnd]
  refine ok_imp h fun d s1 h1 => ?_
  rw [ok_bnd]
  exact ok_imp h1 fun ds s2 h2 => e_pur h2
theorem r_op2 {F : D → D → Rv} (h : Ok ga s fun a s1 => Ok gb s1 fun b s2 => Ok (pk a) s2 fun d s3 => Ok (pk b) s3 fun e s4 => Ok (rvM (F d e)) s4 KA) : Ok (gOp2 F ga gb) s KA := by
  unfold gOp2
  simp only [ok_bnd]
  exact h
theorem r_op1 {F : D → Rv} (h : Ok ga s fun a s1 => Ok (pk a) s1 fun d s2 => Ok (rvM (F d)) s2 KA) : Ok (gOp1 F ga) s KA := by
  unfold gOp1
  simp only [ok_bnd]
  exact h
theorem r_cons (h : Ok ga s fun a s1 => Ok gs s1 fun as s2 => KLA (a :: as) s2) : Ok (gCons ga gs) s KLA := by
  unfold gCons
  rw [ok_bnd]
  refine ok_imp h fun d s1 h1 => ?_
  rw [ok_bnd]
  exact ok_imp h1 fun ds s2 h2 => e_pur h2
theorem r_fn {F : List D → Rv} (h : Ok gs s fun as s1 => Ok (pkL as) s1 fun ds s2 => Ok (rvM (F ds)) s2 KA) : Ok (gFn F gs) s KA := by
  unfold gFn
  simp only [ok_bnd]
  exact h
theorem r_fnF {F : List D → Rv} (h : Ok gs s fun as s1 => Ok (pkL as) s1 fun ds s2 => Ok (rvF (F ds)) s2 KD) : Ok (gFnF F gs) s KD := by
  unfold gFnF
  simp only [ok_bnd]
  exact h
theorem r_rvF {r : Rv} (h : r = .nw d) (k : KD d s) : Ok (rvF r) s KD := by rw [h]; exact e_pur k
theorem r_sq {mk : List D → D} (h : Ok gs s fun as s1 => Ok (forceL as) s1 fun ds s2 => KA (.d (mk ds)) s2) : Ok (gSeq mk gs) s KA := by
  unfold gSeq
  rw [ok_bnd]
  refine ok_imp h fun d s1 h1 => ?_
  rw [ok_bnd]
  exact ok_imp h1 fun ds s2 h2 => e_pur h2
theorem r_fLst (h : Ok gs s fun as s1 => Ok (forceL as) s1 fun ds s2 => KD (.lst ds) s2) : Ok (fLst gs) s KD := by
  unfold fLst
  rw [ok_bnd]
  refine ok_imp h fun d s1 h1 => ?_
  rw [ok_bnd]
  exact ok_imp h1 fun ds s2 h2 => e_pur h2
theorem r_test (h : Ok ga s fun a s1 => Ok (pk a) s1 fun d s2 => Ok (tstD d) s2 KB) : Ok (gTest ga) s KB := by
  unfold gTest
  simp only [ok_bnd]
  refine ok_imp h fun a s1 h1 => ok_imp h1 fun d s2 h2 => ?_
  cases d <;> exact h2
theorem r_tst {b : Bool} (h : KB b s) : Ok (tstD (.bl b)) s KB := e_pur h
theorem r_and (h : Ok t s fun b s1 => Ok (if b = true then c else pur false) s1 KB) : Ok (gAnd t c) s KB := by unfold gAnd; rw [ok_bnd]; exact h
theorem r_or (h : Ok t s fun b s1 => Ok (if b = true then pur true else c) s1 KB) : Ok (gOr t c) s KB := by unfold gOr; rw [ok_bnd]; exact h
theorem r_not (h : Ok t s fun b s1 => KB (!b) s1) : Ok (gNot t) s KB := by
  unfold gNot
  rw [ok_bnd]
  exact ok_imp h fun b s1 h1 => e_pur h1
theorem r_if {a b : M α} (h : Ok c s fun x s1 => Ok (if x = true then a else b) s1 K) : Ok (gIf c a b) s K := by unfold gIf; rw [ok_bnd]; exact h
theorem r_gBl (h : Ok t s fun b s1 => KA (.d (.bl b)) s1) : Ok (gBl t) s KA := by
  unfold gBl
  rw [ok_bnd]
  exact ok_imp h fun b s1 h1 => e_pur h1
theorem r_andV (h : Ok ga s fun a s1 => Ok (pk a) s1 fun d s2 => Ok (andD gb d) s2 KA) : Ok (gAndV ga gb) s KA := by
  unfold gAndV
  simp only [ok_bnd]
  refine ok_imp h fun a s1 h1 => ok_imp h1 fun d s2 h2 => ?_
  cases d <;> exact h2
theorem r_andD {b : Bool} (h : Ok (if b = true then gb else pur (.d (.bl false))) s KA) : Ok (andD gb (.bl b)) s KA := h
theorem r_orV (h : Ok ga s fun a s1 => Ok (pk a) s1 fun d s2 => Ok (orD gb d) s2 KA) : Ok (gOrV ga gb) s KA := by
  unfold gOrV
  simp only [ok_bnd]
  refine ok_imp h fun a s1 h1 => ok_imp h1 fun d s2 h2 => ?_
  cases d <;> exact h2
theorem r_orD {b : Bool} (h : Ok (if b = true then pur (.d (.bl true)) else gb) s KA) : Ok (orD gb (.bl b)) s KA := h
theorem r_notV (h : Ok ga s fun a s1 => Ok (pk a) s1 fun d s2 => Ok (notD d) s2 KA) : Ok (gNotV ga) s KA := by
  unfold gNotV
  simp only [ok_bnd]
  refine ok_imp h fun a s1 h1 => ok_imp h1 fun d s2 h2 => ?_
  cases d <;> exact h2
theorem r_notD {b : Bool} (h : KA (.d (.bl !b)) s) : Ok (notD (.bl b)) s KA := e_pur h
theorem r_iT {a b : M α} (h : Ok a s K) : Ok (if true = true then a else b) s K := by rw [if_pos rfl]; exact h
theorem r_iF {a b : M α} (h : Ok b s K) : Ok (if false = true then a else b) s K := by rw [if_neg (by simp)]; exact h
theorem r_inT {a b : M α} (h : Ok b s K) : Ok (if (!true) = true then a else b) s K := by rw [if_neg (by simp)]; exact h
theorem r_inF {a b : M α} (h : Ok a s K) : Ok (if (!false) = true then a else b) s K := by rw [if_pos (by simp)]; exact h
theorem r_iP {p : Prop} [Decidable p] {a b : M α} (hp : p) (h : Ok a s K) : Ok (if decide p = true then a else b) s K := by rw [if_pos (decide_eq_true hp)]; exact h
theorem r_iN {p : Prop} [Decidable p] {a b : M α} (hp : ¬ p) (h : Ok b s K) : Ok (if decide p = true then a else b) s K := by rw [if_neg (by simpa using hp)]; exact h
theorem r_inP {p : Prop} [Decidable p] {a b : M α} (hp : p) (h : Ok b s K) : Ok (if (!decide p) = true then a else b) s K := by rw [if_neg (by simpa using hp)]; exact h
theorem r_inN {p : Prop} [Decidable p] {a b : M α} (hp : ¬ p) (h : Ok a s K) : Ok (if (!decide p) = true then a else b) s K := by rw [if_pos (by simpa using hp)]; exact h
theorem r_innP {p : Prop} [Decidable p] {a b : M α} (hp : p) (h : Ok a s K) : Ok (if (!!decide p) = true then a else b) s K := by rw [if_pos (by simpa using hp)]; exact h
theorem r_innN {p : Prop} [Decidable p] {a b : M α} (hp : ¬ p) (h : Ok b s K) : Ok (if (!!decide p) = true then a else b) s K := by rw [if_neg (by simpa using hp)]; exact h
theorem r_iB {x : Bool} {a b : M α} (hx : x = true) (h : Ok a s K) : Ok (if x = true then a else b) s K := by rw [if_pos hx]; exact h
theorem r_iC {x : Bool} {a b : M α} (hx : x = false) (h : Ok b s K) : Ok (if x = true then a else b) s K := by rw [hx, if_neg (by simp)]; exact h
theorem r_inB {x : Bool} {a b : M α} (hx : x = true) (h : Ok b s K) : Ok (if (!x) = true then a else b) s K := by rw [hx, if_neg (by simp)]; exact h
theorem r_inC {x : Bool} {a b : M α} (hx : x = false) (h : Ok a s K) : Ok (if (!x) = true then a else b) s K := by rw [hx, if_pos (by simp)]; exact h
theorem r_sNx (h : KF .nx s) : Ok sNx s KF := e_pur h
theorem r_sExpr (h : Ok ga s fun _ s1 => KF .nx s1) : Ok (sExpr ga) s KF := by
  unfold sExpr
  rw [ok_bnd]
  exact ok_imp h fun a s1 h1 => e_pur h1
theorem r_sRet (h : Ok ga s fun a s1 => Ok (force a) s1 fun d s2 => KF (.rt d) s2) : Ok (sRet ga) s KF := by
  unfold sRet
  rw [ok_bnd]
  refine ok_imp h fun a s1 h1 => ?_
  rw [ok_bnd]
  exact ok_imp h1 fun d s2 h2 => e_pur h2
theorem r_sSet (h : Ok ga s fun a s1 => Ok (force a) s1 fun d s2 => Ok (put i (.fr d)) s2 KF) : Ok (sSet i ga) s KF := by
  unfold sSet
  simp only [ok_bnd]
  exact h
theorem r_sSetF (h : Ok gd s fun d s1 => Ok (put i (.ow d)) s1 KF) : Ok (sSetF i gd) s KF := by
  unfold sSetF
  simp only [ok_bnd]
  exact h
theorem r_fz (h : Ok gd s fun d s1 => KA (.d d) s1) : Ok (gFz gd) s KA := by
  unfold gFz
  rw [ok_bnd]
  exact ok_imp h fun b s1 h1 => e_pur h1
theorem r_asg {tg : Tg} (h : Ok ga s fun a s1 => Ok (force a) s1 fun d s2 => Tgt (tg d s2) (KF .nx)) : Ok (sAsg tg ga) s KF := e_sAsg h
theorem r_tgN (e : sl.set i (.fr d) = sl') {P : S → Prop} (h : P ⟨sl', rs, me⟩) : Tgt (tgN i d ⟨sl, rs, me⟩) P := ⟨_, rfl, by subst e; exact h⟩
def parP (is : List Nat) (ss : List Sl) : M Fl := fun s => if ss.length = is.length then .ok .nx (putL is ss s) else .bad
theorem r_par {is : List Nat} {g : M (List Iq)} (h : Ok g s fun qs s1 => Ok (forceQ qs) s1 fun ss s2 => Ok (parP is ss) s2 KF) : Ok (sPar is g) s KF := e_sPar h
theorem r_parP {is : List Nat} {ss : List Sl} (h : ss.length = is.length) (e : putLs is ss sl = sl') (k : KF .nx ⟨sl', rs, me⟩) : Ok (parP is ss) ⟨sl, rs, me⟩ KF := by subst e; exact e_par h k
theorem r_qNil (h : KI [] s) : Ok qNil s KI := e_pur h
theorem r_qA {gq : M (List Iq)} (h : Ok ga s fun a s1 => Ok gq s1 fun is s2 => KI (.a a :: is) s2) : Ok (qA ga gq) s KI := by
  unfold qA
  rw [ok_bnd]
  refine ok_imp h fun d s1 h1 => ?_
  rw [ok_bnd]
  exact ok_imp h1 fun ds s2 h2 => e_pur h2
theorem r_qF {gq : M (List Iq)} (h : Ok gd s fun d s1 => Ok gq s1 fun is s2 => KI (.f d :: is) s2) : Ok (qF gd gq) s KI := by
  unfold qF
  rw [ok_bnd]
  refine ok_imp h fun d s1 h1 => e_noX ?_
  rw [ok_bnd]
  exact ok_imp h1 fun ds s2 h2 => e_pur h2
variable {KS : List Sl → S → Prop}
theorem r_fq0 (h : KS [] s) : Ok (forceQ []) s KS := e_pur h
theorem r_fqA {a : A} {r : List Iq} (h : Ok (force a) s fun d s1 => Ok (forceQ r) s1 fun ss s2 => KS (.fr d :: ss) s2) : Ok (forceQ (.a a :: r)) s KS := by
  unfold forceQ
  rw [ok_bnd]
  refine ok_imp h fun d s1 h1 => ?_
  rw [ok_bnd]
  exact ok_imp h1 fun ds s2 h2 => e_pur h2
theorem r_fqF {r : List Iq} (h : Ok (forceQ r) s fun ss s2 => KS (.ow d :: ss) s2) : Ok (forceQ (.f d :: r)) s KS := by
  unfold forceQ
  rw [ok_bnd]
  exact ok_imp h fun ds s2 h2 => e_pur h2
theorem r_itAny (h : Ok ga s fun a s1 => Ok (force a) s1 fun d s2 => Ok (itAny d) s2 KL) : Ok (gItAny ga) s KL := by
  unfold gItAny
  simp only [ok_bnd]
  refine ok_imp h fun a s1 h1 => ok_imp h1 fun d s2 h2 => ?_
  cases d <;> exact h2
theorem r_itL (h : KL q s) : Ok (itAny (.lst q)) s KL := e_pur h
theorem r_itT (h : KL q s) : Ok (itAny (.tup q)) s KL := e_pur h
theorem r_itS {z : Str} (h : KL (signs z) s) : Ok (itAny (.str z)) s KL := e_pur h
theorem r_keys (h : Ok ga s fun a s1 => Ok (force a) s1 fun d s2 => Ok (itKeys d) s2 KL) : Ok (gKeys ga) s KL := by
  unfold gKeys
  simp only [ok_bnd]
  refine ok_imp h fun a s1 h1 => ok_imp h1 fun d s2 h2 => ?_
  cases d <;> exact h2
theorem r_vals (h : Ok ga s fun a s1 => Ok (force a) s1 fun d s2 => Ok (itVals d) s2 KL) : Ok (gVals ga) s KL := by
  unfold gVals
  simp only [ok_bnd]
  refine ok_imp h fun a s1 h1 => ok_imp h1 fun d s2 h2 => ?_
  cases d <;> exact h2
theorem r_items (h : Ok ga s fun a s1 => Ok (force a) s1 fun d s2 => Ok (itItems d) s2 KL) : Ok (gItems ga) s KL := by
  unfold gItems
  simp only [ok_bnd]
  refine ok_imp h fun a s1 h1 => ok_imp h1 fun d s2 h2 => ?_
  cases d <;> exact h2
theorem r_itK {ks : List (Key × D)} (h : KL (ks.map fun p => kD p.1) s) : Ok (itKeys (.dic ks)) s KL := e_pur h
theorem r_itV {ks : List (Key × D)} (h : KL (ks.map fun p => p.2) s) : Ok (itVals (.dic ks)) s KL := e_pur h
theorem r_itI {ks : List (Key × D)} (h : KL (ks.map fun p => .tup [kD p.1, p.2]) s) : Ok (itItems (.dic ks)) s KL := e_pur h
theorem r_zip (h : Ok ga s fun a s1 => Ok gb s1 fun b s2 => Ok (force a) s2 fun d s3 => Ok (force b) s3 fun e s4 => Ok (itZip d e) s4 KL) : Ok (gZip ga gb) s KL := by
  unfold gZip
  simp only [ok_bnd]
  refine ok_imp h fun a s1 h1 => ok_imp h1 fun b s2 h2 => ok_imp h2 fun d s3 h3 => ok_imp h3 fun e s4 h4 => ?_
  cases d <;> cases e <;> exact h4
theorem r_zipT {xs ys : List D} (h : KL (zipD xs ys) s) : Ok (itZip (.tup xs) (.tup ys)) s KL := e_pur h
theorem r_zipL {xs ys : List D} (h : KL (zipD xs ys) s) : Ok (itZip (.lst xs) (.lst ys)) s KL := e_pur h
theorem r_call0 {m : Mir} (h : Ok gs s fun as s1 => Ok (forceL as) s1 fun ds s2 => Ok (doCall m ds) s2 KA) : Ok (gCall m [] gs) s KA := by
  unfold gCall
  simp only [ok_bnd, List.append_nil]
  exact h
theorem r_callK {m : Mir} {sp : List Src} {md : List D} (h : Ok gs s fun as s1 => Ok gk s1 fun bs s2 => Ok (forceL as) s2 fun ds s3 => Ok (forceL bs) s3 fun es s4 => Ok (doCall m (place sp ds md es)) s4 KA) : Ok (gCallK m sp md gs gk) s KA := by
  unfold gCallK
  simp only [ok_bnd]
  exact h
theorem r_place {m : Mir} {sp : List Src} {ds md es xs : List D} (e : place sp ds md es = xs) (h : Ok (doCall m xs) s KA) : Ok (doCall m (place sp ds md es)) s KA := by rw [e]; exact h
theorem r_call {m : Mir} {ds : List D} (h : m ds rs = .ok d rs') (k : KA (.d d) ⟨sl, rs', me⟩) : Ok (doCall m ds) ⟨sl, rs, me⟩ KA := (e_call h k).go
theorem r_meth {cl mn : Str} {m : Mir} (h : Ok ga s fun a s1 => Ok (force a) s1 fun d0 s2 => Chk (okM cl mn d0 = true) (Ok gs s2 fun as s3 => Ok (forceL as) s3 fun ds s4 => Ok (doCall m (d0 :: ds)) s4 KA)) : Ok (gMeth cl mn m [] ga gs) s KA := by
  unfold gMeth
  simp only [ok_bnd, List.append_nil]
  refine ok_imp h fun a s1 h1 => ok_imp h1 fun d s2 h2 => ?_
  rw [if_pos h2.1]
  simp only [ok_bnd]
  exact h2.2
theorem r_prop {cl : Str} {m : Mir} (h : Ok ga s fun a s1 => Ok (force a) s1 fun d0 s2 => Chk (isIns cl d0 = true) (Ok (doCall m [d0]) s2 KA)) : Ok (gProp cl m ga) s KA := by
  unfold gProp
  simp only [ok_bnd]
  refine ok_imp h fun a s1 h1 => ok_imp h1 fun d s2 h2 => ?_
  rw [if_pos h2.1]
  obtain ⟨v, s3, e, k⟩ := ok_get h2.2
  refine ok_of (a := v) (s' := s3) ?_ k
  unfold doCall at e
  cases q : m [d] s2.rs with
  | ok y r => rw [q] at e; exact e
  | exc => rw [q] at e; cases e
  | bad => rw [q] at e; cases e
theorem r_fld {cl f : Str} (h : Ok ga s fun a s1 => Ok (pk a) s1 fun d s2 => Ok (optA (getF cl f d)) s2 KA) : Ok (gFld cl f ga) s KA := by
  unfold gFld
  simp only [ok_bnd]
  refine ok_imp h fun a s1 h1 => ok_imp h1 fun d s2 h2 => ?_
  cases q : getF cl f d with
  | none => rw [q] at h2; exact h2
  | some x => rw [q] at h2; exact h2
theorem r_optA {o : Option D} (h : o = some d) (k : KA (.d d) s) : Ok (optA o) s KA := by rw [h]; exact e_pur k
theorem r_isD {tab : List (TyN × Bool)} (h : Ok ga s fun a s1 => Ok (pk a) s1 fun d s2 => Ok (optA ((isT tab d).map D.bl)) s2 KA) : Ok (gIsD tab ga) s KA := by
  unfold gIsD
  simp only [ok_bnd]
  refine ok_imp h fun a s1 h1 => ok_imp h1 fun d s2 h2 => ?_
  unfold isT at h2
  by_cases c : notDit d = true
  · rw [if_pos c] at h2 ⊢
    cases q : tyN d with
    | none => rw [q] at h2; exact h2
    | some t =>
      rw [q] at h2
      dsimp only [Option.bind] at h2 ⊢
      cases q2 : List.lookup t tab with
      | none => rw [q2] at h2; exact h2
      | some b => rw [q2] at h2; exact h2
  · rw [if_neg c] at h2
    have h3 : Ok bad s2 KA := h2
    rw [ok_bad] at h3
    exact h3.elim
theorem r_isT {o : Option Bool} {b : Bool} (h : o = some b) (k : KA (.d (.bl b)) s) : Ok (optA (o.map D.bl)) s KA := by rw [h]; exact e_pur k
theorem r_chain {F F' : D → D → Rv} (h : Ok ga s fun a s1 => Ok gb s1 fun b s2 => Ok (pk a) s2 fun d s3 => Ok (pk b) s3 fun e s4 => Ok (chainM (F d e) (bnd gc fun c => bnd (pk b) fun e' => bnd (pk c) fun z => rvM (F' e' z))) s4 KA) : Ok (gChain2 F F' ga gb gc) s KA := by
  unfold gChain2
  simp only [ok_bnd]
  refine ok_imp h fun a s1 h1 => ok_imp h1 fun b s2 h2 => ok_imp h2 fun d s3 h3 => ok_imp h3 fun e s4 h4 => ?_
  unfold chainM at h4
  split at h4
  · rename_i q; first | exact h4 | (rw [q]; exact h4)
  · rename_i q; first | exact h4 | (rw [q]; exact h4)
  · rw [ok_bad] at h4; exact h4.elim
theorem r_chainV {r : Rv} {y : Bool} {g : M A} (h : r = .old (.bl y)) (k : Ok (if y = true then g else pur (.d (.bl false))) s KA) : Ok (chainM r g) s KA := by
  rw [h]
  cases y
  · rw [if_neg (by simp)] at k; exact k
  · rw [if_pos rfl] at k; exact k
theorem r_gSl {F : D → Option Int → Option Int → Rv} {gl gh : M (Option Int)} (h : Ok ga s fun a s1 => Ok gl s1 fun l s2 => Ok gh s2 fun hi s3 => Ok (pk a) s3 fun d s4 => Ok (rvM (F d l hi)) s4 KA) : Ok (gSl F ga gl gh) s KA := by
  unfold gSl
  simp only [ok_bnd]
  exact h
theorem r_part (h : Ok ga s fun a s1 => Ok (pk a) s1 fun d s2 => Ok (partD d) s2 KO) : Ok (gPart ga) s KO := by
  unfold gPart
  simp only [ok_bnd]
  refine ok_imp h fun a s1 h1 => ok_imp h1 fun d s2 h2 => ?_
  cases d <;> exact h2
theorem r_partI {j : Int} (h : KO (some j) s) : Ok (partD (.int j)) s KO := e_pur h
theorem r_getD (h : Ok ga s fun a s1 => DicP a s1 (Ok gb s1 fun b s2 => Ok gc s2 fun c s3 => Ok (pk a) s3 fun d s4 => Ok (pk b) s4 fun e s5 => Ok (force c) s5 fun z s6 => Ok (getDef z d (dK e)) s6 KA)) : Ok (gGetD ga gb gc) s KA := by
  unfold gGetD
  simp only [ok_bnd]
  refine ok_imp h fun a s1 ⟨ks, ek, h1⟩ => e_isDic ek ?_
  refine ok_imp h1 fun b s2 h2 => ok_imp h2 fun c s3 h3 => ok_imp h3 fun d s4 h4 => ok_imp h4 fun e s5 h5 => ok_imp h5 fun z s6 h6 => ?_
  cases d <;> cases q : dK e <;> (rw [q] at h6; exact h6)
theorem r_dicP {a : A} {ks : List (Key × D)} {k : Prop} (h : peek a s = some (.dic ks)) (q : k) : DicP a s k := ⟨ks, h, q⟩
theorem r_getI {ks : List (Key × D)} {j : Int} {z : D} (h : KA (.d ((lookD ks (.inl j)).getD z)) s) : Ok (getDef z (.dic ks) (dK (.int j))) s KA := e_pur h
theorem r_getS {ks : List (Key × D)} {j : Str} {z : D} (h : KA (.d ((lookD ks (.inr j)).getD z)) s) : Ok (getDef z (.dic ks) (dK (.str j))) s KA := e_pur h
theorem r_getDef {ks : List (Key × D)} {k : Key} {z : D} (h : KA (.d ((lookD ks k).getD z)) s) : Ok (getDef z (.dic ks) (some k)) s KA := e_pur h
theorem r_listRange (h : Ok ga s fun a s1 => Ok (pk a) s1 fun d s2 => Ok (rgM .lst d) s2 KA) : Ok (gListRange1 ga) s KA := by
  unfold gListRange1 gRg
  simp only [ok_bnd]
  refine ok_imp h fun a s1 h1 => ok_imp h1 fun d s2 h2 => ?_
  cases d <;> exact h2
theorem r_tupleRange (h : Ok ga s fun a s1 => Ok (pk a) s1 fun d s2 => Ok (rgM .tup d) s2 KA) : Ok (gTupleRange1 ga) s KA := by
  unfold gTupleRange1 gRg
  simp only [ok_bnd]
  refine ok_imp h fun a s1 h1 => ok_imp h1 fun d s2 h2 => ?_
  cases d <;> exact h2
theorem r_rgM {mk : List D → D} {j : Int} (hn : 0 ≤ j ∧ j ≤ 1000000) (h : KA (.d (mk (rgD j))) s) : Ok (rgM mk (.int j)) s KA := by
  unfold rgM
  dsimp only
  rw [if_pos hn]
  exact e_pur h
theorem r_range1 (h : Ok ga s fun a s1 => Ok (pk a) s1 fun d s2 => Ok (rangeM d) s2 KL) : Ok (gRange1 ga) s KL := by
  unfold gRange1
  simp only [ok_bnd]
  refine ok_imp h fun a s1 h1 => ok_imp h1 fun d s2 h2 => ?_
  cases d <;> exact h2
theorem r_rangeL {j : Int} (hn : 0 ≤ j ∧ j ≤ 1000000) (h : KL ((List.range j.toNat).map fun i => .int (i : Nat)) s) : Ok (rangeM (.int j)) s KL := by
  unfold rangeM
  dsimp only
  rw [if_pos (by omega)]
  exact e_pur h
theorem r_rangeM {n : Nat} (hn : n ≤ 1000000) (h : KL ((List.range n).map fun i => .int (i : Nat)) s) : Ok (rangeM (.int (n : Nat))) s KL := by
  unfold rangeM
  dsimp only
  rw [if_pos (by omega)]
  exact e_pur h
end
section
variable {α κ : Type} {s : S} {vs : List Nat} {t : Tg} {c : M Bool} {e ek ev : M A} {it : M (List D)} {tg : Tg} {bd : M Fl}
def wipeL : List Nat → List Sl → List Sl
  | [], l => l
  | v :: vs, l => (wipeL vs l).set v .no
theorem wipeS_mk {rs : Option Rs} {me : Option Me} : ∀ {vs : List Nat} {sl : List Sl}, wipeS vs ⟨sl, rs, me⟩ = ⟨wipeL vs sl, rs, me⟩
  | [], _ => rfl
  | v :: vs, sl => by
    unfold wipeS wipeL
    rw [wipeS_mk (vs := vs)]
    rfl
def backL (l0 : List Sl) : List Nat → List Sl → List Sl
  | [], l => l
  | v :: vs, l => backL l0 vs (l.set v (if v ∈ vs then .no else match l0[v]? with
    | some (.fr d) => .fr d
    | _ => .no))
theorem backS_mk {rs rs0 : Option Rs} {me me0 : Option Me} {l0 : List Sl} : ∀ {vs : List Nat} {sl : List Sl}, backS ⟨l0, rs0, me0⟩ vs ⟨sl, rs, me⟩ = ⟨backL l0 vs sl, rs, me⟩
  | [], _ => rfl
  | v :: vs, sl => by
    unfold backS backL
    exact backS_mk (vs := vs)
theorem r_lc {Q : D → S → Prop} (en : α → D) (xs : List α) (b : α → Bool) (f : α → D)
    (hit : Ok it s fun ds s1 => ds = xs.map en ∧ xs.length ≤ 100000 ∧ ∃ sl1 rs me sl sl2, s1 = ⟨sl1, rs, me⟩ ∧ wipeL vs sl1 = sl ∧ backL sl1 vs sl = sl2 ∧
      (∀ x ∈ xs, Tgt (t (en x) ⟨sl, rs, me⟩) fun s2 => Ok c s2 fun b' s3 => b' = b x ∧ if b' = true then Ok e s3 fun a s4 => Ok (force a) s4 fun y s5 => y = f x ∧ wipeS vs s5 = ⟨sl, rs, me⟩
        else wipeS vs s3 = ⟨sl, rs, me⟩) ∧ Q (.lst ((xs.filter b).map f)) ⟨sl2, rs, me⟩) : Ok (gLc it vs t c e) s Q := by
  obtain ⟨ds, s1, e0, ed, hl, sl1, rs, me, sl, sl2, es1, ew1, ew2, step, q⟩ := ok_get hit
  have w : wipeS vs s1 = ⟨sl, rs, me⟩ := by rw [es1, wipeS_mk, ew1]
  have ew : backS s1 vs ⟨sl, rs, me⟩ = ⟨sl2, rs, me⟩ := by rw [es1, backS_mk, ew2]
  have er : s1.rs = rs := by rw [← (wipeS_keep (vs := vs) (s := s1)).1, w]
  subst er
  exact ok_lcP en xs sl me b f (ok_of e0 ⟨ed, hl, w, fun x hx => by
    obtain ⟨s2, e2, h2⟩ := step x hx
    exact ⟨s2, e2, h2⟩, by rw [ew]; exact q⟩)
theorem r_dcl {sl : List Sl} {rs : Option Rs} {me : Option Me} (en : α → D) {xs : List α} (b : α → Bool) (kf : α → Key) (f : α → D) (nd : ((xs.filter b).map kf).Nodup) {Q : List (Key × D) → S → Prop}
    (step : ∀ x ∈ xs, Tgt (t (en x) ⟨sl, rs, me⟩) fun s2 => Ok c s2 fun b' s3 => b' = b x ∧ if b' = true then Ok ek s3 fun a s4 => Ok (pk a) s4 fun z s5 => Ok ev s5 fun a2 s6 => Ok (force a2) s6 fun y s7 => dK z = some (kf x) ∧ y = f x ∧ wipeS vs s7 = ⟨sl, rs, me⟩ else wipeS vs s3 = ⟨sl, rs, me⟩)
    (q : ∀ s', wipeS vs s' = ⟨sl, rs, me⟩ → Q ((xs.filter b).map fun x => (kf x, f x)) s') : ∀ (suf pre : List α) (s : S), xs = pre ++ suf → wipeS vs s = ⟨sl, rs, me⟩ → Ok (dcLoop vs t c ek ev (suf.map en) ((pre.filter b).map fun x => (kf x, f x))) s Q
  | [], pre, s, ex, w => by
    rw [List.map_nil]
    rw [List.append_nil] at ex
    subst ex
    exact ok_at (g := pur _) (s0 := s) rfl (by rw [ok_pur]; exact q s w)
  | x :: suf, pre, s, ex, w => by
    rw [List.map_cons]
    obtain ⟨s2, e2, h⟩ := step x (by rw [ex]; simp)
    refine ok_at (g := bnd c _) (s0 := s2) (by unfold dcLoop; rw [w, e2]) ?_
    rw [ok_bnd]
    refine ok_imp h fun b' s3 ⟨eb, h3⟩ => ?_
    have ih := fun s h => r_dcl en b kf f nd step q suf (pre ++ [x]) s (by rw [ex]; simp) h
    cases b' with
    | true =>
      rw [if_pos rfl] at h3 ⊢
      rw [ok_bnd]
      refine ok_imp h3 fun a s4 h4 => ?_
      rw [ok_bnd]
      refine ok_imp h4 fun z s5 h5 => ?_
      rw [ok_bnd]
      refine ok_imp h5 fun a2 s6 h6 => ?_
      rw [ok_bnd]
      refine ok_imp h6 fun y s7 ⟨ez, ey, w7⟩ => ?_
      have h8 := ih s7 w7
      have e6 : ([x].filter b) = [x] := by simp [← eb]
      rw [List.filter_append, List.map_append, e6] at h8
      rw [ez, ey]
      dsimp only
      rw [putD_new]
      · exact h8
      · rw [ex, List.filter_append, List.map_append] at nd
        have e7 : ((x :: suf).filter b) = x :: suf.filter b := by simp [← eb]
        rw [e7, List.map_cons] at nd
        rw [List.map_map]
        intro hm
        exact (List.nodup_append.mp nd).2.2 _ hm _ (List.mem_cons_self ..) rfl
    | false =>
      rw [if_neg (by simp)] at h3 ⊢
      have h5 := ih s3 h3
      have e6 : ([x].filter b) = [] := by simp [← eb]
      rw [List.filter_append, e6, List.append_nil] at h5
      exact h5
theorem r_dc {Q : D → S → Prop} (en : α → D) (xs : List α) (b : α → Bool) (kf : α → Key) (f : α → D) (nd : ((xs.filter b).map kf).Nodup)
    (hit : Ok it s fun ds s1 => ds = xs.map en ∧ xs.length ≤ 100000 ∧ ∃ sl1 rs me sl sl2, s1 = ⟨sl1, rs, me⟩ ∧ wipeL vs sl1 = sl ∧ backL sl1 vs sl = sl2 ∧
      (∀ x ∈ xs, Tgt (t (en x) ⟨sl, rs, me⟩) fun s2 => Ok c s2 fun b' s3 => b' = b x ∧ if b' = true then Ok ek s3 fun a s4 => Ok (pk a) s4 fun z s5 => Ok ev s5 fun a2 s6 => Ok (force a2) s6 fun y s7 => dK z = some (kf x) ∧ y = f x ∧ wipeS vs s7 = ⟨sl, rs, me⟩ else wipeS vs s3 = ⟨sl, rs, me⟩) ∧
      Q (.dic ((xs.filter b).map fun x => (kf x, f x))) ⟨sl2, rs, me⟩) : Ok (gDc it vs t c ek ev) s Q := by
  obtain ⟨ds, s1, e0, ed, hl, sl1, rs, me, sl, sl2, es1, ew1, ew2, step, q⟩ := ok_get hit
  have w : wipeS vs s1 = ⟨sl, rs, me⟩ := by rw [es1, wipeS_mk, ew1]
  have ew : backS s1 vs ⟨sl, rs, me⟩ = ⟨sl2, rs, me⟩ := by rw [es1, backS_mk, ew2]
  unfold gDc
  rw [ok_bnd]
  refine ok_of e0 ?_
  subst ed
  obtain ⟨acc, s', e1, e2⟩ := ok_get (r_dcl en b kf f nd (Q := fun acc s' => acc = ((xs.filter b).map fun x => (kf x, f x)) ∧ wipeS vs s' = ⟨sl, rs, me⟩) step (fun s' w' => ⟨rfl, w'⟩) xs [] s1 rfl w)
  obtain ⟨ea, w'⟩ := e2
  subst ea
  refine ok_of (a := _) (s' := ⟨sl2, rs, me⟩) ?_ q
  rw [List.length_map, if_pos hl]
  have e1' : dcLoop vs t c ek ev (xs.map en) [] s1 = _ := e1
  rw [e1']
  dsimp only
  rw [← ew, ← w', backS_wipe]
def LoopK (I : S → Prop) (Q : Fl → S → Prop) (f : Fl) (s : S) : Prop := match f with
  | .nx => I s
  | .ct => I s
  | .bk => Q .nx s
  | .rt d => Q (.rt d) s
theorem l_nx {I : S → Prop} {Q : Fl → S → Prop} (h : I s) : LoopK I Q .nx s := h
theorem l_ct {I : S → Prop} {Q : Fl → S → Prop} (h : I s) : LoopK I Q .ct s := h
theorem l_bk {I : S → Prop} {Q : Fl → S → Prop} (h : Q .nx s) : LoopK I Q .bk s := h
theorem l_rt {I : S → Prop} {Q : Fl → S → Prop} {d : D} (h : Q (.rt d) s) : LoopK I Q (.rt d) s := h
theorem r_forJ {Q : Fl → S → Prop} (en : α → D) (xs : List α) (I : List α → S → Prop)
    (hit : Ok it s fun ds s1 => ds = xs.map en ∧ I [] s1)
    (step : ∀ pre x suf s, xs = pre ++ x :: suf → I pre s → Tgt (tg (en x) s) fun s2 => Ok bd s2 (LoopK (I (pre ++ [x])) Q)) (q : ∀ s', I xs s' → Q .nx s') : Ok (sForJ it tg bd) s Q :=
  ok_forJ en xs I hit (fun pre x suf s e h => by
    obtain ⟨s2, e2, h2⟩ := step pre x suf s e h
    exact ⟨s2, e2, ok_imp h2 fun f s3 h3 => by cases f <;> exact h3⟩) q
end
section
variable {s : S} {sl : List Sl} {rs : Option Rs} {x0 dx0 : Addr} {cl f : Str} {fs fs' : List (Str × D)} {d : D} {KF : Fl → S → Prop} {KA : A → S → Prop} {ga : M A}
theorem meC_mk : meC cl ⟨.fr (.adr x0) :: sl, rs, some ⟨x0, dx0, cl, fs⟩⟩ = some ⟨x0, dx0, cl, fs⟩ := by
  unfold meC
  simp
def selfP (cl f : Str) (d : D) : M Fl := fun s => match meC cl s with
  | some q => if q.fs.length < 1000 then .ok .nx { s with me := some { q with fs := putFD f d q.fs } } else .bad
  | none => .bad
theorem r_sSelf (h : Ok ga s fun a s1 => Ok (force a) s1 fun d s2 => Ok (selfP cl f d) s2 KF) : Ok (sSelf cl f ga) s KF := by
  unfold sSelf
  simp only [ok_bnd]
  exact h
theorem putFD_new : ∀ {fs : List (Str × D)}, f ∉ fs.map (·.1) → putFD f d fs = fs ++ [(f, d)]
  | [], _ => rfl
  | (g, x) :: r, h => by
    rw [List.map_cons, List.mem_cons, not_or] at h
    unfold putFD
    rw [if_neg (Ne.symm h.1), putFD_new h.2]
    rfl
theorem r_selfP {ks : List Str} (hl : fs.length < 1000) (ek : fs.map (·.1) = ks) (hf : f ∉ ks) (e : fs ++ [(f, d)] = fs') (k : KF .nx ⟨.fr (.adr x0) :: sl, rs, some ⟨x0, dx0, cl, fs'⟩⟩) : Ok (selfP cl f d) ⟨.fr (.adr x0) :: sl, rs, some ⟨x0, dx0, cl, fs⟩⟩ KF := by
  refine ok_of (a := .nx) (s' := ⟨.fr (.adr x0) :: sl, rs, some ⟨x0, dx0, cl, fs'⟩⟩) ?_ k
  unfold selfP
  rw [meC_mk]
  dsimp only
  rw [if_pos hl, putFD_new (by rw [ek]; exact hf), e]
theorem r_gSelf (h : fs.lookup f = some d) (k : KA (.d d) ⟨.fr (.adr x0) :: sl, rs, some ⟨x0, dx0, cl, fs⟩⟩) : Ok (gSelf cl f) ⟨.fr (.adr x0) :: sl, rs, some ⟨x0, dx0, cl, fs⟩⟩ KA := by
  refine ok_of (a := .d d) (s' := ⟨.fr (.adr x0) :: sl, rs, some ⟨x0, dx0, cl, fs⟩⟩) ?_ k
  unfold gSelf
  rw [meC_mk]
  dsimp only
  rw [h]
theorem look1 {k : Str} {a : D} {r : List (Str × D)} : ((k, a) :: r).lookup k = some a := by simp [List.lookup]
theorem lookN {k k' : Str} {a : D} {r : List (Str × D)} (h : k ≠ k') : ((k', a) :: r).lookup k = r.lookup k := by
  have e : (k == k') = false := by simpa using h
  simp [List.lookup, e]
theorem mkI_eq {c : Str} {n : Nat} {b : M Fl} {ds : List D} {rs' : Option Rs} (h : ∀ x dx, Ok b ⟨.fr (.adr x) :: ds.map .fr ++ List.replicate (n - (ds.length + 1)) .no, rs, some ⟨x, dx, c, []⟩⟩ fun g s => g = .nx ∧ s.me = some ⟨x, dx, c, fs⟩ ∧ s.rs = rs') (x dx : Addr) : mkI c n b x dx ds rs = .ok (.ins c fs) rs' := by
  obtain ⟨g, s, e, rfl, em, er⟩ := ok_get (h x dx)
  unfold mkI
  rw [List.map_cons, e]
  dsimp only
  rw [em]
  dsimp only
  rw [if_pos ⟨rfl, rfl, rfl⟩, er]
theorem r_make {c : Str} {m : MirI} {ds : List D} {rs' : Option Rs} {me : Option Me} (h : ∀ x dx, m x dx ds rs = .ok (.ins c fs) rs') (q : KA (.d (.ins c fs)) ⟨sl, rs', me⟩) : Ok (doMake c m ds) ⟨sl, rs, me⟩ KA := ok_make h q
variable {gs gk : M (List A)} {c : Str} {m : MirI} {ds md es xs : List D} {sp : List Src}
theorem r_makeK (h : Ok gs s fun as s1 => Ok gk s1 fun bs s2 => Ok (forceL as) s2 fun ds s3 => Ok (forceL bs) s3 fun es s4 => Ok (doMake c m (place sp ds md es)) s4 KA) : Ok (gMakeK c m sp md gs gk) s KA := by
  unfold gMakeK
  simp only [ok_bnd]
  exact h
theorem r_placeM (e : place sp ds md es = xs) (h : Ok (doMake c m xs) s KA) : Ok (doMake c m (place sp ds md es)) s KA := by rw [e]; exact h
theorem r_norm {sl sl' : List Sl} {me : Option Me} {α : Type} {g : M α} {K : α → S → Prop} (e : sl = sl') (h : Ok g ⟨sl', rs, me⟩ K) : Ok g ⟨sl, rs, me⟩ K := by rw [e]; exact h
theorem r_back {l0 sl sl' : List Sl} {rs0 : Option Rs} {me me0 : Option Me} {vs : List Nat} {α : Type} {g : M α} {K : α → S → Prop} (e : backL l0 vs sl = sl') (h : Ok g ⟨sl', rs, me⟩ K) : Ok g (backS ⟨l0, rs0, me0⟩ vs ⟨sl, rs, me⟩) K := by rw [backS_mk, e]; exact h
theorem r_tgt {sl sl1 sl' : List Sl} {me : Option Me} {tg : Tg} {P : S → Prop} (h : tg d ⟨sl, rs, me⟩ = some ⟨sl1, rs, me⟩) (e : sl1 = sl') (k : P ⟨sl', rs, me⟩) : Tgt (tg d ⟨sl, rs, me⟩) P := by subst e; exact ⟨_, h, k⟩
end
instance {a0 : Sl} {l : List Sl} : Nth (a0 :: l) 0 a0 := ⟨rfl⟩
instance {a0 x : Sl} {l : List Sl} : SetAt (a0 :: l) 0 x (x :: l) := ⟨rfl⟩
instance {a0 a1 : Sl} {l : List Sl} : Nth (a0 :: a1 :: l) 1 a1 := ⟨rfl⟩
instance {a0 a1 x : Sl} {l : List Sl} : SetAt (a0 :: a1 :: l) 1 x (a0 :: x :: l) := ⟨rfl⟩
instance {a0 a1 a2 : Sl} {l : List Sl} : Nth (a0 :: a1 :: a2 :: l) 2 a2 := ⟨rfl⟩
instance {a0 a1 a2 x : Sl} {l : List Sl} : SetAt (a0 :: a1 :: a2 :: l) 2 x (a0 :: a1 :: x :: l) := ⟨rfl⟩
instance {a0 a1 a2 a3 : Sl} {l : List Sl} : Nth (a0 :: a1 :: a2 :: a3 :: l) 3 a3 := ⟨rfl⟩
instance {a0 a1 a2 a3 x : Sl} {l : List Sl} : SetAt (a0 :: a1 :: a2 :: a3 :: l) 3 x (a0 :: a1 :: a2 :: x :: l) := ⟨rfl⟩
instance {a0 a1 a2 a3 a4 : Sl} {l : List Sl} : Nth (a0 :: a1 :: a2 :: a3 :: a4 :: l) 4 a4 := ⟨rfl⟩
instance {a0 a1 a2 a3 a4 x : Sl} {l : List Sl} : SetAt (a0 :: a1 :: a2 :: a3 :: a4 :: l) 4 x (a0 :: a1 :: a2 :: a3 :: x :: l) := ⟨rfl⟩
instance {a0 a1 a2 a3 a4 a5 : Sl} {l : List Sl} : Nth (a0 :: a1 :: a2 :: a3 :: a4 :: a5 :: l) 5 a5 := ⟨rfl⟩
instance {a0 a1 a2 a3 a4 a5 x : Sl} {l : List Sl} : SetAt (a0 :: a1 :: a2 :: a3 :: a4 :: a5 :: l) 5 x (a0 :: a1 :: a2 :: a3 :: a4 :: x :: l) := ⟨rfl⟩
instance {a0 a1 a2 a3 a4 a5 a6 : Sl} {l : List Sl} : Nth (a0 :: a1 :: a2 :: a3 :: a4 :: a5 :: a6 :: l) 6 a6 := ⟨rfl⟩
instance {a0 a1 a2 a3 a4 a5 a6 x : Sl} {l : List Sl} : SetAt (a0 :: a1 :: a2 :: a3 :: a4 :: a5 :: a6 :: l) 6 x (a0 :: a1 :: a2 :: a3 :: a4 :: a5 :: x :: l) := ⟨rfl⟩
instance {a0 a1 a2 a3 a4 a5 a6 a7 : Sl} {l : List Sl} : Nth (a0 :: a1 :: a2 :: a3 :: a4 :: a5 :: a6 :: a7 :: l) 7 a7 := ⟨rfl⟩
instance {a0 a1 a2 a3 a4 a5 a6 a7 x : Sl} {l : List Sl} : SetAt (a0 :: a1 :: a2 :: a3 :: a4 :: a5 :: a6 :: a7 :: l) 7 x (a0 :: a1 :: a2 :: a3 :: a4 :: a5 :: a6 :: x :: l) := ⟨rfl⟩
instance {a0 a1 a2 a3 a4 a5 a6 a7 a8 : Sl} {l : List Sl} : Nth (a0 :: a1 :: a2 :: a3 :: a4 :: a5 :: a6 :: a7 :: a8 :: l) 8 a8 := ⟨rfl⟩
instance {a0 a1 a2 a3 a4 a5 a6 a7 a8 x : Sl} {l : List Sl} : SetAt (a0 :: a1 :: a2 :: a3 :: a4 :: a5 :: a6 :: a7 :: a8 :: l) 8 x (a0 :: a1 :: a2 :: a3 :: a4 :: a5 :: a6 :: a7 :: x :: l) := ⟨rfl⟩
instance {a0 a1 a2 a3 a4 a5 a6 a7 a8 a9 : Sl} {l : List Sl} : Nth (a0 :: a1 :: a2 :: a3 :: a4 :: a5 :: a6 :: a7 :: a8 :: a9 :: l) 9 a9 := ⟨rfl⟩
instance {a0 a1 a2 a3 a4 a5 a6 a7 a8 a9 x : Sl} {l : List Sl} : SetAt (a0 :: a1 :: a2 :: a3 :: a4 :: a5 :: a6 :: a7 :: a8 :: a9 :: l) 9 x (a0 :: a1 :: a2 :: a3 :: a4 :: a5 :: a6 :: a7 :: a8 :: x :: l) := ⟨rfl⟩
instance {a0 a1 a2 a3 a4 a5 a6 a7 a8 a9 a10 : Sl} {l : List Sl} : Nth (a0 :: a1 :: a2 :: a3 :: a4 :: a5 :: a6 :: a7 :: a8 :: a9 :: a10 :: l) 10 a10 := ⟨rfl⟩
instance {a0 a1 a2 a3 a4 a5 a6 a7 a8 a9 a10 x : Sl} {l : List Sl} : SetAt (a0 :: a1 :: a2 :: a3 :: a4 :: a5 :: a6 :: a7 :: a8 :: a9 :: a10 :: l) 10 x (a0 :: a1 :: a2 :: a3 :: a4 :: a5 :: a6 :: a7 :: a8 :: a9 :: x :: l) := ⟨rfl⟩
instance {a0 a1 a2 a3 a4 a5 a6 a7 a8 a9 a10 a11 : Sl} {l : List Sl} : Nth (a0 :: a1 :: a2 :: a3 :: a4 :: a5 :: a6 :: a7 :: a8 :: a9 :: a10 :: a11 :: l) 11 a11 := ⟨rfl⟩
instance {a0 a1 a2 a3 a4 a5 a6 a7 a8 a9 a10 a11 x : Sl} {l : List Sl} : SetAt (a0 :: a1 :: a2 :: a3 :: a4 :: a5 :: a6 :: a7 :: a8 :: a9 :: a10 :: a11 :: l) 11 x (a0 :: a1 :: a2 :: a3 :: a4 :: a5 :: a6 :: a7 :: a8 :: a9 :: a10 :: x :: l) := ⟨rfl⟩
instance {a0 a1 a2 a3 a4 a5 a6 a7 a8 a9 a10 a11 a12 : Sl} {l : List Sl} : Nth (a0 :: a1 :: a2 :: a3 :: a4 :: a5 :: a6 :: a7 :: a8 :: a9 :: a10 :: a11 :: a12 :: l) 12 a12 := ⟨rfl⟩
instance {a0 a1 a2 a3 a4 a5 a6 a7 a8 a9 a10 a11 a12 x : Sl} {l : List Sl} : SetAt (a0 :: a1 :: a2 :: a3 :: a4 :: a5 :: a6 :: a7 :: a8 :: a9 :: a10 :: a11 :: a12 :: l) 12 x (a0 :: a1 :: a2 :: a3 :: a4 :: a5 :: a6 :: a7 :: a8 :: a9 :: a10 :: a11 :: x :: l) := ⟨rfl⟩
instance {a0 a1 a2 a3 a4 a5 a6 a7 a8 a9 a10 a11 a12 a13 : Sl} {l : List Sl} : Nth (a0 :: a1 :: a2 :: a3 :: a4 :: a5 :: a6 :: a7 :: a8 :: a9 :: a10 :: a11 :: a12 :: a13 :: l) 13 a13 := ⟨rfl⟩
instance {a0 a1 a2 a3 a4 a5 a6 a7 a8 a9 a10 a11 a12 a13 x : Sl} {l : List Sl} : SetAt (a0 :: a1 :: a2 :: a3 :: a4 :: a5 :: a6 :: a7 :: a8 :: a9 :: a10 :: a11 :: a12 :: a13 :: l) 13 x (a0 :: a1 :: a2 :: a3 :: a4 :: a5 :: a6 :: a7 :: a8 :: a9 :: a10 :: a11 :: a12 :: x :: l) := ⟨rfl⟩
instance {a0 a1 a2 a3 a4 a5 a6 a7 a8 a9 a10 a11 a12 a13 a14 : Sl} {l : List Sl} : Nth (a0 :: a1 :: a2 :: a3 :: a4 :: a5 :: a6 :: a7 :: a8 :: a9 :: a10 :: a11 :: a12 :: a13 :: a14 :: l) 14 a14 := ⟨rfl⟩
instance {a0 a1 a2 a3 a4 a5 a6 a7 a8 a9 a10 a11 a12 a13 a14 x : Sl} {l : List Sl} : SetAt (a0 :: a1 :: a2 :: a3 :: a4 :: a5 :: a6 :: a7 :: a8 :: a9 :: a10 :: a11 :: a12 :: a13 :: a14 :: l) 14 x (a0 :: a1 :: a2 :: a3 :: a4 :: a5 :: a6 :: a7 :: a8 :: a9 :: a10 :: a11 :: a12 :: a13 :: x :: l) := ⟨rfl⟩
instance {a0 a1 a2 a3 a4 a5 a6 a7 a8 a9 a10 a11 a12 a13 a14 a15 : Sl} {l : List Sl} : Nth (a0 :: a1 :: a2 :: a3 :: a4 :: a5 :: a6 :: a7 :: a8 :: a9 :: a10 :: a11 :: a12 :: a13 :: a14 :: a15 :: l) 15 a15 := ⟨rfl⟩
instance {a0 a1 a2 a3 a4 a5 a6 a7 a8 a9 a10 a11 a12 a13 a14 a15 x : Sl} {l : List Sl} : SetAt (a0 :: a1 :: a2 :: a3 :: a4 :: a5 :: a6 :: a7 :: a8 :: a9 :: a10 :: a11 :: a12 :: a13 :: a14 :: a15 :: l) 15 x (a0 :: a1 :: a2 :: a3 :: a4 :: a5 :: a6 :: a7 :: a8 :: a9 :: a10 :: a11 :: a12 :: a13 :: a14 :: x :: l) := ⟨rfl⟩
instance {a0 a1 a2 a3 a4 a5 a6 a7 a8 a9 a10 a11 a12 a13 a14 a15 a16 : Sl} {l : List Sl} : Nth (a0 :: a1 :: a2 :: a3 :: a4 :: a5 :: a6 :: a7 :: a8 :: a9 :: a10 :: a11 :: a12 :: a13 :: a14 :: a15 :: a16 :: l) 16 a16 := ⟨rfl⟩
instance {a0 a1 a2 a3 a4 a5 a6 a7 a8 a9 a10 a11 a12 a13 a14 a15 a16 x : Sl} {l : List Sl} : SetAt (a0 :: a1 :: a2 :: a3 :: a4 :: a5 :: a6 :: a7 :: a8 :: a9 :: a10 :: a11 :: a12 :: a13 :: a14 :: a15 :: a16 :: l) 16 x (a0 :: a1 :: a2 :: a3 :: a4 :: a5 :: a6 :: a7 :: a8 :: a9 :: a10 :: a11 :: a12 :: a13 :: a14 :: a15 :: x :: l) := ⟨rfl⟩
instance {a0 a1 a2 a3 a4 a5 a6 a7 a8 a9 a10 a11 a12 a13 a14 a15 a16 a17 : Sl} {l : List Sl} : Nth (a0 :: a1 :: a2 :: a3 :: a4 :: a5 :: a6 :: a7 :: a8 :: a9 :: a10 :: a11 :: a12 :: a13 :: a14 :: a15 :: a16 :: a17 :: l) 17 a17 := ⟨rfl⟩
instance {a0 a1 a2 a3 a4 a5 a6 a7 a8 a9 a10 a11 a12 a13 a14 a15 a16 a17 x : Sl} {l : List Sl} : SetAt (a0 :: a1 :: a2 :: a3 :: a4 :: a5 :: a6 :: a7 :: a8 :: a9 :: a10 :: a11 :: a12 :: a13 :: a14 :: a15 :: a16 :: a17 :: l) 17 x (a0 :: a1 :: a2 :: a3 :: a4 :: a5 :: a6 :: a7 :: a8 :: a9 :: a10 :: a11 :: a12 :: a13 :: a14 :: a15 :: a16 :: x :: l) := ⟨rfl⟩
instance {a0 a1 a2 a3 a4 a5 a6 a7 a8 a9 a10 a11 a12 a13 a14 a15 a16 a17 a18 : Sl} {l : List Sl} : Nth (a0 :: a1 :: a2 :: a3 :: a4 :: a5 :: a6 :: a7 :: a8 :: a9 :: a10 :: a11 :: a12 :: a13 :: a14 :: a15 :: a16 :: a17 :: a18 :: l) 18 a18 := ⟨rfl⟩
instance {a0 a1 a2 a3 a4 a5 a6 a7 a8 a9 a10 a11 a12 a13 a14 a15 a16 a17 a18 x : Sl} {l : List Sl} : SetAt (a0 :: a1 :: a2 :: a3 :: a4 :: a5 :: a6 :: a7 :: a8 :: a9 :: a10 :: a11 :: a12 :: a13 :: a14 :: a15 :: a16 :: a17 :: a18 :: l) 18 x (a0 :: a1 :: a2 :: a3 :: a4 :: a5 :: a6 :: a7 :: a8 :: a9 :: a10 :: a11 :: a12 :: a13 :: a14 :: a15 :: a16 :: a17 :: x :: l) := ⟨rfl⟩
instance {a0 a1 a2 a3 a4 a5 a6 a7 a8 a9 a10 a11 a12 a13 a14 a15 a16 a17 a18 a19 : Sl} {l : List Sl} : Nth (a0 :: a1 :: a2 :: a3 :: a4 :: a5 :: a6 :: a7 :: a8 :: a9 :: a10 :: a11 :: a12 :: a13 :: a14 :: a15 :: a16 :: a17 :: a18 :: a19 :: l) 19 a19 := ⟨rfl⟩
instance {a0 a1 a2 a3 a4 a5 a6 a7 a8 a9 a10 a11 a12 a13 a14 a15 a16 a17 a18 a19 x : Sl} {l : List Sl} : SetAt (a0 :: a1 :: a2 :: a3 :: a4 :: a5 :: a6 :: a7 :: a8 :: a9 :: a10 :: a11 :: a12 :: a13 :: a14 :: a15 :: a16 :: a17 :: a18 :: a19 :: l) 19 x (a0 :: a1 :: a2 :: a3 :: a4 :: a5 :: a6 :: a7 :: a8 :: a9 :: a10 :: a11 :: a12 :: a13 :: a14 :: a15 :: a16 :: a17 :: a18 :: x :: l) := ⟨rfl⟩
instance {a0 a1 a2 a3 a4 a5 a6 a7 a8 a9 a10 a11 a12 a13 a14 a15 a16 a17 a18 a19 a20 : Sl} {l : List Sl} : Nth (a0 :: a1 :: a2 :: a3 :: a4 :: a5 :: a6 :: a7 :: a8 :: a9 :: a10 :: a11 :: a12 :: a13 :: a14 :: a15 :: a16 :: a17 :: a18 :: a19 :: a20 :: l) 20 a20 := ⟨rfl⟩
instance {a0 a1 a2 a3 a4 a5 a6 a7 a8 a9 a10 a11 a12 a13 a14 a15 a16 a17 a18 a19 a20 x : Sl} {l : List Sl} : SetAt (a0 :: a1 :: a2 :: a3 :: a4 :: a5 :: a6 :: a7 :: a8 :: a9 :: a10 :: a11 :: a12 :: a13 :: a14 :: a15 :: a16 :: a17 :: a18 :: a19 :: a20 :: l) 20 x (a0 :: a1 :: a2 :: a3 :: a4 :: a5 :: a6 :: a7 :: a8 :: a9 :: a10 :: a11 :: a12 :: a13 :: a14 :: a15 :: a16 :: a17 :: a18 :: a19 :: x :: l) := ⟨rfl⟩
instance {a0 a1 a2 a3 a4 a5 a6 a7 a8 a9 a10 a11 a12 a13 a14 a15 a16 a17 a18 a19 a20 a21 : Sl} {l : List Sl} : Nth (a0 :: a1 :: a2 :: a3 :: a4 :: a5 :: a6 :: a7 :: a8 :: a9 :: a10 :: a11 :: a12 :: a13 :: a14 :: a15 :: a16 :: a17 :: a18 :: a19 :: a20 :: a21 :: l) 21 a21 := ⟨rfl⟩
instance {a0 a1 a2 a3 a4 a5 a6 a7 a8 a9 a10 a11 a12 a13 a14 a15 a16 a17 a18 a19 a20 a21 x : Sl} {l : List Sl} : SetAt (a0 :: a1 :: a2 :: a3 :: a4 :: a5 :: a6 :: a7 :: a8 :: a9 :: a10 :: a11 :: a12 :: a13 :: a14 :: a15 :: a16 :: a17 :: a18 :: a19 :: a20 :: a21 :: l) 21 x (a0 :: a1 :: a2 :: a3 :: a4 :: a5 :: a6 :: a7 :: a8 :: a9 :: a10 :: a11 :: a12 :: a13 :: a14 :: a15 :: a16 :: a17 :: a18 :: a19 :: a20 :: x :: l) := ⟨rfl⟩
instance {a0 a1 a2 a3 a4 a5 a6 a7 a8 a9 a10 a11 a12 a13 a14 a15 a16 a17 a18 a19 a20 a21 a22 : Sl} {l : List Sl} : Nth (a0 :: a1 :: a2 :: a3 :: a4 :: a5 :: a6 :: a7 :: a8 :: a9 :: a10 :: a11 :: a12 :: a13 :: a14 :: a15 :: a16 :: a17 :: a18 :: a19 :: a20 :: a21 :: a22 :: l) 22 a22 := ⟨rfl⟩
instance {a0 a1 a2 a3 a4 a5 a6 a7 a8 a9 a10 a11 a12 a13 a14 a15 a16 a17 a18 a19 a20 a21 a22 x : Sl} {l : List Sl} : SetAt (a0 :: a1 :: a2 :: a3 :: a4 :: a5 :: a6 :: a7 :: a8 :: a9 :: a10 :: a11 :: a12 :: a13 :: a14 :: a15 :: a16 :: a17 :: a18 :: a19 :: a20 :: a21 :: a22 :: l) 22 x (a0 :: a1 :: a2 :: a3 :: a4 :: a5 :: a6 :: a7 :: a8 :: a9 :: a10 :: a11 :: a12 :: a13 :: a14 :: a15 :: a16 :: a17 :: a18 :: a19 :: a20 :: a21 :: x :: l) := ⟨rfl⟩
instance {a0 a1 a2 a3 a4 a5 a6 a7 a8 a9 a10 a11 a12 a13 a14 a15 a16 a17 a18 a19 a20 a21 a22 a23 : Sl} {l : List Sl} : Nth (a0 :: a1 :: a2 :: a3 :: a4 :: a5 :: a6 :: a7 :: a8 :: a9 :: a10 :: a11 :: a12 :: a13 :: a14 :: a15 :: a16 :: a17 :: a18 :: a19 :: a20 :: a21 :: a22 :: a23 :: l) 23 a23 := ⟨rfl⟩
instance {a0 a1 a2 a3 a4 a5 a6 a7 a8 a9 a10 a11 a12 a13 a14 a15 a16 a17 a18 a19 a20 a21 a22 a23 x : Sl} {l : List Sl} : SetAt (a0 :: a1 :: a2 :: a3 :: a4 :: a5 :: a6 :: a7 :: a8 :: a9 :: a10 :: a11 :: a12 :: a13 :: a14 :: a15 :: a16 :: a17 :: a18 :: a19 :: a20 :: a21 :: a22 :: a23 :: l) 23 x (a0 :: a1 :: a2 :: a3 :: a4 :: a5 :: a6 :: a7 :: a8 :: a9 :: a10 :: a11 :: a12 :: a13 :: a14 :: a15 :: a16 :: a17 :: a18 :: a19 :: a20 :: a21 :: a22 :: x :: l) := ⟨rfl⟩
instance {a0 a1 a2 a3 a4 a5 a6 a7 a8 a9 a10 a11 a12 a13 a14 a15 a16 a17 a18 a19 a20 a21 a22 a23 a24 : Sl} {l : List Sl} : Nth (a0 :: a1 :: a2 :: a3 :: a4 :: a5 :: a6 :: a7 :: a8 :: a9 :: a10 :: a11 :: a12 :: a13 :: a14 :: a15 :: a16 :: a17 :: a18 :: a19 :: a20 :: a21 :: a22 :: a23 :: a24 :: l) 24 a24 := ⟨rfl⟩
instance {a0 a1 a2 a3 a4 a5 a6 a7 a8 a9 a10 a11 a12 a13 a14 a15 a16 a17 a18 a19 a20 a21 a22 a23 a24 x : Sl} {l : List Sl} : SetAt (a0 :: a1 :: a2 :: a3 :: a4 :: a5 :: a6 :: a7 :: a8 :: a9 :: a10 :: a11 :: a12 :: a13 :: a14 :: a15 :: a16 :: a17 :: a18 :: a19 :: a20 :: a21 :: a22 :: a23 :: a24 :: l) 24 x (a0 :: a1 :: a2 :: a3 :: a4 :: a5 :: a6 :: a7 :: a8 :: a9 :: a10 :: a11 :: a12 :: a13 :: a14 :: a15 :: a16 :: a17 :: a18 :: a19 :: a20 :: a21 :: a22 :: a23 :: x :: l) := ⟨rfl⟩
instance {a0 a1 a2 a3 a4 a5 a6 a7 a8 a9 a10 a11 a12 a13 a14 a15 a16 a17 a18 a19 a20 a21 a22 a23 a24 a25 : Sl} {l : List Sl} : Nth (a0 :: a1 :: a2 :: a3 :: a4 :: a5 :: a6 :: a7 :: a8 :: a9 :: a10 :: a11 :: a12 :: a13 :: a14 :: a15 :: a16 :: a17 :: a18 :: a19 :: a20 :: a21 :: a22 :: a23 :: a24 :: a25 :: l) 25 a25 := ⟨rfl⟩
instance {a0 a1 a2 a3 a4 a5 a6 a7 a8 a9 a10 a11 a12 a13 a14 a15 a16 a17 a18 a19 a20 a21 a22 a23 a24 a25 x : Sl} {l : List Sl} : SetAt (a0 :: a1 :: a2 :: a3 :: a4 :: a5 :: a6 :: a7 :: a8 :: a9 :: a10 :: a11 :: a12 :: a13 :: a14 :: a15 :: a16 :: a17 :: a18 :: a19 :: a20 :: a21 :: a22 :: a23 :: a24 :: a25 :: l) 25 x (a0 :: a1 :: a2 :: a3 :: a4 :: a5 :: a6 :: a7 :: a8 :: a9 :: a10 :: a11 :: a12 :: a13 :: a14 :: a15 :: a16 :: a17 :: a18 :: a19 :: a20 :: a21 :: a22 :: a23 :: a24 :: x :: l) := ⟨rfl⟩
section
variable {α β : Type} {s : S} {sl sl' : List Sl} {rs rs' : Option Rs} {me : Option Me} {i : Nat} {d e x : D} {K : α → S → Prop} {KA : A → S → Prop} {KB : Bool → S → Prop} {KL : List D → S → Prop} {KLA : List A → S → Prop} {KD : D → S → Prop} {KF : Fl → S → Prop} {KO : Option Int → S → Prop} {KI : List Iq → S → Prop}
variable {a b : M Fl} {g : M α} {ga gb gc : M A} {gs gk : M (List A)} {gd : M D} {t c c2 : M Bool} {q : List D}
variable {KS : List Sl → S → Prop}
instance i_r_seq : StE (Ok (sSeq a b) s KF) (Ok a s (SeqK b KF)) := ⟨r_seq⟩
instance i_r_nx : StE (SeqK b KF .nx s) (Ok b s KF) := ⟨r_nx⟩
instance i_r_rt : StE (SeqK b KF (.rt d) s) (KF (.rt d) s) := ⟨r_rt⟩
instance i_r_pur {v : α} : StE (Ok (pur v) s K) (K v s) := ⟨r_pur⟩
instance i_r_bnd {g : M β} {f : β → M α} : StE (Ok (bnd g f) s K) (Ok g s fun a s' => Ok (f a) s' K) := ⟨r_bnd⟩
instance i_r_pkL0 : StE (Ok (pkL []) s KL) (KL [] s) := ⟨r_pkL0⟩
instance i_r_pkL {a : A} {r : List A} : StE (Ok (pkL (a :: r)) s KL) (Ok (pk a) s fun d s1 => Ok (pkL r) s1 fun ds s2 => KL (d :: ds) s2) := ⟨r_pkL⟩
instance i_r_foL0 : StE (Ok (forceL []) s KL) (KL [] s) := ⟨r_foL0⟩
instance i_r_foL {a : A} {r : List A} : StE (Ok (forceL (a :: r)) s KL) (Ok (force a) s fun d s1 => Ok (forceL r) s1 fun ds s2 => KL (d :: ds) s2) := ⟨r_foL⟩
instance i_r_op2 {F : D → D → Rv} : StE (Ok (gOp2 F ga gb) s KA) (Ok ga s fun a s1 => Ok gb s1 fun b s2 => Ok (pk a) s2 fun d s3 => Ok (pk b) s3 fun e s4 => Ok (rvM (F d e)) s4 KA) := ⟨r_op2⟩
instance i_r_op1 {F : D → Rv} : StE (Ok (gOp1 F ga) s KA) (Ok ga s fun a s1 => Ok (pk a) s1 fun d s2 => Ok (rvM (F d)) s2 KA) := ⟨r_op1⟩
instance i_r_cons : StE (Ok (gCons ga gs) s KLA) (Ok ga s fun a s1 => Ok gs s1 fun as s2 => KLA (a :: as) s2) := ⟨r_cons⟩
instance i_r_fn {F : List D → Rv} : StE (Ok (gFn F gs) s KA) (Ok gs s fun as s1 => Ok (pkL as) s1 fun ds s2 => Ok (rvM (F ds)) s2 KA) := ⟨r_fn⟩
instance i_r_fnF {F : List D → Rv} : StE (Ok (gFnF F gs) s KD) (Ok gs s fun as s1 => Ok (pkL as) s1 fun ds s2 => Ok (rvF (F ds)) s2 KD) := ⟨r_fnF⟩
instance i_r_sq {mk : List D → D} : StE (Ok (gSeq mk gs) s KA) (Ok gs s fun as s1 => Ok (forceL as) s1 fun ds s2 => KA (.d (mk ds)) s2) := ⟨r_sq⟩
instance i_r_fLst : StE (Ok (fLst gs) s KD) (Ok gs s fun as s1 => Ok (forceL as) s1 fun ds s2 => KD (.lst ds) s2) := ⟨r_fLst⟩
instance i_r_test : StE (Ok (gTest ga) s KB) (Ok ga s fun a s1 => Ok (pk a) s1 fun d s2 => Ok (tstD d) s2 KB) := ⟨r_test⟩
instance i_r_tst {b : Bool} : StE (Ok (tstD (.bl b)) s KB) (KB b s) := ⟨r_tst⟩
instance i_r_and : StE (Ok (gAnd t c) s KB) (Ok t s fun b s1 => Ok (if b = true then c else pur false) s1 KB) := ⟨r_and⟩
instance i_r_or : StE (Ok (gOr t c) s KB) (Ok t s fun b s1 => Ok (if b = true then pur true else c) s1 KB) := ⟨r_or⟩
instance i_r_not : StE (Ok (gNot t) s KB) (Ok t s fun b s1 => KB (!b) s1) := ⟨r_not⟩
instance i_r_if {a b : M α} : StE (Ok (gIf c a b) s K) (Ok c s fun x s1 => Ok (if x = true then a else b) s1 K) := ⟨r_if⟩
instance i_r_gBl : StE (Ok (gBl t) s KA) (Ok t s fun b s1 => KA (.d (.bl b)) s1) := ⟨r_gBl⟩
instance i_r_andV : StE (Ok (gAndV ga gb) s KA) (Ok ga s fun a s1 => Ok (pk a) s1 fun d s2 => Ok (andD gb d) s2 KA) := ⟨r_andV⟩
instance i_r_andD {b : Bool} : StE (Ok (andD gb (.bl b)) s KA) (Ok (if b = true then gb else pur (.d (.bl false))) s KA) := ⟨r_andD⟩
instance i_r_orV : StE (Ok (gOrV ga gb) s KA) (Ok ga s fun a s1 => Ok (pk a) s1 fun d s2 => Ok (orD gb d) s2 KA) := ⟨r_orV⟩
instance i_r_orD {b : Bool} : StE (Ok (orD gb (.bl b)) s KA) (Ok (if b = true then pur (.d (.bl true)) else gb) s KA) := ⟨r_orD⟩
instance i_r_notV : StE (Ok (gNotV ga) s KA) (Ok ga s fun a s1 => Ok (pk a) s1 fun d s2 => Ok (notD d) s2 KA) := ⟨r_notV⟩
instance i_r_notD {b : Bool} : StE (Ok (notD (.bl b)) s KA) (KA (.d (.bl !b)) s) := ⟨r_notD⟩
instance i_r_iT {a b : M α} : StE (Ok (if true = true then a else b) s K) (Ok a s K) := ⟨r_iT⟩
instance i_r_iF {a b : M α} : StE (Ok (if false = true then a else b) s K) (Ok b s K) := ⟨r_iF⟩
instance i_r_inT {a b : M α} : StE (Ok (if (!true) = true then a else b) s K) (Ok b s K) := ⟨r_inT⟩
instance i_r_inF {a b : M α} : StE (Ok (if (!false) = true then a else b) s K) (Ok a s K) := ⟨r_inF⟩
instance i_r_sNx : StE (Ok sNx s KF) (KF .nx s) := ⟨r_sNx⟩
instance i_r_sExpr : StE (Ok (sExpr ga) s KF) (Ok ga s fun _ s1 => KF .nx s1) := ⟨r_sExpr⟩
instance i_r_sRet : StE (Ok (sRet ga) s KF) (Ok ga s fun a s1 => Ok (force a) s1 fun d s2 => KF (.rt d) s2) := ⟨r_sRet⟩
instance i_r_sSet : StE (Ok (sSet i ga) s KF) (Ok ga s fun a s1 => Ok (force a) s1 fun d s2 => Ok (put i (.fr d)) s2 KF) := ⟨r_sSet⟩
instance i_r_sSetF : StE (Ok (sSetF i gd) s KF) (Ok gd s fun d s1 => Ok (put i (.ow d)) s1 KF) := ⟨r_sSetF⟩
instance i_r_fz : StE (Ok (gFz gd) s KA) (Ok gd s fun d s1 => KA (.d d) s1) := ⟨r_fz⟩
instance i_r_asg {tg : Tg} : StE (Ok (sAsg tg ga) s KF) (Ok ga s fun a s1 => Ok (force a) s1 fun d s2 => Tgt (tg d s2) (KF .nx)) := ⟨r_asg⟩
instance i_r_par {is : List Nat} {g : M (List Iq)} : StE (Ok (sPar is g) s KF) (Ok g s fun qs s1 => Ok (forceQ qs) s1 fun ss s2 => Ok (parP is ss) s2 KF) := ⟨r_par⟩
instance i_r_qNil : StE (Ok qNil s KI) (KI [] s) := ⟨r_qNil⟩
instance i_r_qA {gq : M (List Iq)} : StE (Ok (qA ga gq) s KI) (Ok ga s fun a s1 => Ok gq s1 fun is s2 => KI (.a a :: is) s2) := ⟨r_qA⟩
instance i_r_qF {gq : M (List Iq)} : StE (Ok (qF gd gq) s KI) (Ok gd s fun d s1 => Ok gq s1 fun is s2 => KI (.f d :: is) s2) := ⟨r_qF⟩
instance i_r_fq0 : StE (Ok (forceQ []) s KS) (KS [] s) := ⟨r_fq0⟩
instance i_r_fqA {a : A} {r : List Iq} : StE (Ok (forceQ (.a a :: r)) s KS) (Ok (force a) s fun d s1 => Ok (forceQ r) s1 fun ss s2 => KS (.fr d :: ss) s2) := ⟨r_fqA⟩
instance i_r_fqF {r : List Iq} : StE (Ok (forceQ (.f d :: r)) s KS) (Ok (forceQ r) s fun ss s2 => KS (.ow d :: ss) s2) := ⟨r_fqF⟩
instance i_r_itAny : StE (Ok (gItAny ga) s KL) (Ok ga s fun a s1 => Ok (force a) s1 fun d s2 => Ok (itAny d) s2 KL) := ⟨r_itAny⟩
instance i_r_itL : StE (Ok (itAny (.lst q)) s KL) (KL q s) := ⟨r_itL⟩
instance i_r_itT : StE (Ok (itAny (.tup q)) s KL) (KL q s) := ⟨r_itT⟩
instance i_r_itS {z : Str} : StE (Ok (itAny (.str z)) s KL) (KL (signs z) s) := ⟨r_itS⟩
instance i_r_keys : StE (Ok (gKeys ga) s KL) (Ok ga s fun a s1 => Ok (force a) s1 fun d s2 => Ok (itKeys d) s2 KL) := ⟨r_keys⟩
instance i_r_vals : StE (Ok (gVals ga) s KL) (Ok ga s fun a s1 => Ok (force a) s1 fun d s2 => Ok (itVals d) s2 KL) := ⟨r_vals⟩
instance i_r_items : StE (Ok (gItems ga) s KL) (Ok ga s fun a s1 => Ok (force a) s1 fun d s2 => Ok (itItems d) s2 KL) := ⟨r_items⟩
instance i_r_itK {ks : List (Key × D)} : StE (Ok (itKeys (.dic ks)) s KL) (KL (ks.map fun p => kD p.1) s) := ⟨r_itK⟩
instance i_r_itV {ks : List (Key × D)} : StE (Ok (itVals (.dic ks)) s KL) (KL (ks.map fun p => p.2) s) := ⟨r_itV⟩
instance i_r_itI {ks : List (Key × D)} : StE (Ok (itItems (.dic ks)) s KL) (KL (ks.map fun p => .tup [kD p.1, p.2]) s) := ⟨r_itI⟩
instance i_r_zip : StE (Ok (gZip ga gb) s KL) (Ok ga s fun a s1 => Ok gb s1 fun b s2 => Ok (force a) s2 fun d s3 => Ok (force b) s3 fun e s4 => Ok (itZip d e) s4 KL) := ⟨r_zip⟩
instance i_r_zipT {xs ys : List D} : StE (Ok (itZip (.tup xs) (.tup ys)) s KL) (KL (zipD xs ys) s) := ⟨r_zipT⟩
instance i_r_zipL {xs ys : List D} : StE (Ok (itZip (.lst xs) (.lst ys)) s KL) (KL (zipD xs ys) s) := ⟨r_zipL⟩
instance i_r_call0 {m : Mir} : StE (Ok (gCall m [] gs) s KA) (Ok gs s fun as s1 => Ok (forceL as) s1 fun ds s2 => Ok (doCall m ds) s2 KA) := ⟨r_call0⟩
instance i_r_callK {m : Mir} {sp : List Src} {md : List D} : StE (Ok (gCallK m sp md gs gk) s KA) (Ok gs s fun as s1 => Ok gk s1 fun bs s2 => Ok (forceL as) s2 fun ds s3 => Ok (forceL bs) s3 fun es s4 => Ok (doCall m (place sp ds md es)) s4 KA) := ⟨r_callK⟩
instance i_r_meth {cl mn : Str} {m : Mir} : StE (Ok (gMeth cl mn m [] ga gs) s KA) (Ok ga s fun a s1 => Ok (force a) s1 fun d0 s2 => Chk (okM cl mn d0 = true) (Ok gs s2 fun as s3 => Ok (forceL as) s3 fun ds s4 => Ok (doCall m (d0 :: ds)) s4 KA)) := ⟨r_meth⟩
instance i_r_prop {cl : Str} {m : Mir} : StE (Ok (gProp cl m ga) s KA) (Ok ga s fun a s1 => Ok (force a) s1 fun d0 s2 => Chk (isIns cl d0 = true) (Ok (doCall m [d0]) s2 KA)) := ⟨r_prop⟩
instance i_r_fld {cl f : Str} : StE (Ok (gFld cl f ga) s KA) (Ok ga s fun a s1 => Ok (pk a) s1 fun d s2 => Ok (optA (getF cl f d)) s2 KA) := ⟨r_fld⟩
instance i_r_isD {tab : List (TyN × Bool)} : StE (Ok (gIsD tab ga) s KA) (Ok ga s fun a s1 => Ok (pk a) s1 fun d s2 => Ok (optA ((isT tab d).map D.bl)) s2 KA) := ⟨r_isD⟩
instance i_r_chain {F F' : D → D → Rv} : StE (Ok (gChain2 F F' ga gb gc) s KA) (Ok ga s fun a s1 => Ok gb s1 fun b s2 => Ok (pk a) s2 fun d s3 => Ok (pk b) s3 fun e s4 => Ok (chainM (F d e) (bnd gc fun c => bnd (pk b) fun e' => bnd (pk c) fun z => rvM (F' e' z))) s4 KA) := ⟨r_chain⟩
instance i_r_gSl {F : D → Option Int → Option Int → Rv} {gl gh : M (Option Int)} : StE (Ok (gSl F ga gl gh) s KA) (Ok ga s fun a s1 => Ok gl s1 fun l s2 => Ok gh s2 fun hi s3 => Ok (pk a) s3 fun d s4 => Ok (rvM (F d l hi)) s4 KA) := ⟨r_gSl⟩
instance i_r_part : StE (Ok (gPart ga) s KO) (Ok ga s fun a s1 => Ok (pk a) s1 fun d s2 => Ok (partD d) s2 KO) := ⟨r_part⟩
instance i_r_partI {j : Int} : StE (Ok (partD (.int j)) s KO) (KO (some j) s) := ⟨r_partI⟩
instance i_r_getD : StE (Ok (gGetD ga gb gc) s KA) (Ok ga s fun a s1 => DicP a s1 (Ok gb s1 fun b s2 => Ok gc s2 fun c s3 => Ok (pk a) s3 fun d s4 => Ok (pk b) s4 fun e s5 => Ok (force c) s5 fun z s6 => Ok (getDef z d (dK e)) s6 KA)) := ⟨r_getD⟩
instance i_r_getI {ks : List (Key × D)} {j : Int} {z : D} : StE (Ok (getDef z (.dic ks) (dK (.int j))) s KA) (KA (.d ((lookD ks (.inl j)).getD z)) s) := ⟨r_getI⟩
instance i_r_getS {ks : List (Key × D)} {j : Str} {z : D} : StE (Ok (getDef z (.dic ks) (dK (.str j))) s KA) (KA (.d ((lookD ks (.inr j)).getD z)) s) := ⟨r_getS⟩
instance i_r_getDef {ks : List (Key × D)} {k : Key} {z : D} : StE (Ok (getDef z (.dic ks) (some k)) s KA) (KA (.d ((lookD ks k).getD z)) s) := ⟨r_getDef⟩
instance i_r_listRange : StE (Ok (gListRange1 ga) s KA) (Ok ga s fun a s1 => Ok (pk a) s1 fun d s2 => Ok (rgM .lst d) s2 KA) := ⟨r_listRange⟩
instance i_r_tupleRange : StE (Ok (gTupleRange1 ga) s KA) (Ok ga s fun a s1 => Ok (pk a) s1 fun d s2 => Ok (rgM .tup d) s2 KA) := ⟨r_tupleRange⟩
instance i_r_range1 : StE (Ok (gRange1 ga) s KL) (Ok ga s fun a s1 => Ok (pk a) s1 fun d s2 => Ok (rangeM d) s2 KL) := ⟨r_range1⟩
end
section
variable {α κ : Type} {s : S} {vs : List Nat} {t : Tg} {c : M Bool} {e ek ev : M A} {it : M (List D)} {tg : Tg} {bd : M Fl}
instance i_l_nx {I : S → Prop} {Q : Fl → S → Prop} : StE (LoopK I Q .nx s) (I s) := ⟨l_nx⟩
instance i_l_ct {I : S → Prop} {Q : Fl → S → Prop} : StE (LoopK I Q .ct s) (I s) := ⟨l_ct⟩
instance i_l_bk {I : S → Prop} {Q : Fl → S → Prop} : StE (LoopK I Q .bk s) (Q .nx s) := ⟨l_bk⟩
instance i_l_rt {I : S → Prop} {Q : Fl → S → Prop} {d : D} : StE (LoopK I Q (.rt d) s) (Q (.rt d) s) := ⟨l_rt⟩
end
section
variable {s : S} {sl : List Sl} {rs : Option Rs} {x0 dx0 : Addr} {cl f : Str} {fs fs' : List (Str × D)} {d : D} {KF : Fl → S → Prop} {KA : A → S → Prop} {ga : M A}
variable {gs gk : M (List A)} {c : Str} {m : MirI} {ds md es xs : List D} {sp : List Src}
instance i_r_sSelf : StE (Ok (sSelf cl f ga) s KF) (Ok ga s fun a s1 => Ok (force a) s1 fun d s2 => Ok (selfP cl f d) s2 KF) := ⟨r_sSelf⟩
instance i_r_makeK : StE (Ok (gMakeK c m sp md gs gk) s KA) (Ok gs s fun as s1 => Ok gk s1 fun bs s2 => Ok (forceL as) s2 fun ds s3 => Ok (forceL bs) s3 fun es s4 => Ok (doMake c m (place sp ds md es)) s4 KA) := ⟨r_makeK⟩
end
section
variable {α β : Type} {sl sl' : List Sl} {rs rs' : Option Rs} {me : Option Me} {i : Nat} {d e x : D} {K : α → S → Prop} {KA : A → S → Prop} {KB : Bool → S → Prop} {KD : D → S → Prop} {KF : Fl → S → Prop} {P : S → Prop} {s : S}
instance i_pkD : StE (Ok (pk (.d d)) s KD) (KD d s) := ⟨e_pkD⟩
instance i_foD : StE (Ok (force (.d d)) s KD) (KD d s) := ⟨e_foD⟩
class VarS (x : Sl) (d : outParam D) : Prop where
  e : x = .fr d ∨ x = .ow d
instance : VarS (.fr d) d := ⟨.inl rfl⟩
instance : VarS (.ow d) d := ⟨.inr rfl⟩
theorem s_var {x : Sl} (h : sl[i]? = some x) (v : x = .fr d ∨ x = .ow d) (k : KA (.sl i) ⟨sl, rs, me⟩) : Ok (gVar i) ⟨sl, rs, me⟩ KA := by
  rcases v with rfl | rfl
  · exact e_varF h k
  · exact e_varO h k
instance i_var {x : Sl} [h : Nth sl i x] [v : VarS x d] : StE (Ok (gVar i) ⟨sl, rs, me⟩ KA) (KA (.sl i) ⟨sl, rs, me⟩) := ⟨s_var h.e v.e⟩
class PkS (x : Sl) (d : outParam D) : Prop where
  e : x = .fr d ∨ (x = .ow d ∧ pairO d = none)
instance : PkS (.fr d) d := ⟨.inl rfl⟩
instance {ds : List D} : PkS (.ow (.lst ds)) (.lst ds) := ⟨.inr ⟨rfl, rfl⟩⟩
instance {ds : List (Key × D)} : PkS (.ow (.dic ds)) (.dic ds) := ⟨.inr ⟨rfl, rfl⟩⟩
instance {ds : List (List Key × D)} : PkS (.ow (.dit ds)) (.dit ds) := ⟨.inr ⟨rfl, rfl⟩⟩
theorem s_pk {x : Sl} (h : sl[i]? = some x) (v : x = .fr d ∨ (x = .ow d ∧ pairO d = none)) (k : KD d ⟨sl, rs, me⟩) : Ok (pk (.sl i)) ⟨sl, rs, me⟩ KD := by
  rcases v with rfl | ⟨rfl, hn⟩
  · exact e_pkF h k
  · exact e_pkO h hn k
instance i_pk {x : Sl} [h : Nth sl i x] [v : PkS x d] : StE (Ok (pk (.sl i)) ⟨sl, rs, me⟩ KD) (KD d ⟨sl, rs, me⟩) := ⟨s_pk h.e v.e⟩
theorem s_fo {x : Sl} (h : sl[i]? = some x) (v : x = .fr d ∨ x = .ow d) (e : sl.set i (.fr d) = sl') (k : KD d ⟨sl', rs, me⟩) : Ok (force (.sl i)) ⟨sl, rs, me⟩ KD := by
  subst e
  rcases v with rfl | rfl
  · have e2 : sl.set i (.fr d) = sl := by
      refine List.ext_getElem? fun j => ?_
      by_cases ej : i = j
      · subst ej
        have lt := (List.getElem?_eq_some_iff.mp h).1
        rw [List.getElem?_set_self lt, h]
      · rw [List.getElem?_set_ne ej]
    rw [e2] at k
    exact e_foF h k
  · exact e_foO h k
instance i_fo {x : Sl} [h : Nth sl i x] [v : VarS x d] [w : SetAt sl i (.fr d) sl'] : StE (Ok (force (.sl i)) ⟨sl, rs, me⟩ KD) (KD d ⟨sl', rs, me⟩) := ⟨s_fo h.e v.e w.e⟩
instance i_put {x : Sl} [w : SetAt sl i x sl'] : StE (Ok (put i x) ⟨sl, rs, me⟩ KF) (KF .nx ⟨sl', rs, me⟩) := ⟨r_put w.e⟩
instance i_set {g : M α} {x : Sl} [w : SetAt sl i x sl'] : StE (Ok g (setSl i x ⟨sl, rs, me⟩) K) (Ok g ⟨sl', rs, me⟩ K) := ⟨fun h => by rw [show setSl i x ⟨sl, rs, me⟩ = ⟨sl', rs, me⟩ by unfold setSl; dsimp only; rw [w.e]]; exact h⟩
instance i_isStr {z : Str} {KU : Unit → S → Prop} : StE (Ok (isStr (.d (.str z))) s KU) (KU () s) := ⟨e_isStr rfl⟩
theorem r_m1 {F : D → D → Rv} {ga gb : M A} (h : Ok ga s fun a s1 => Ok (isStr a) s1 fun _ s2 => Ok gb s2 fun b s3 => Ok (pk a) s3 fun d s4 => Ok (pk b) s4 fun e s5 => Ok (rvM (F d e)) s5 KA) : Ok (gM1 F ga gb) s KA := by
  unfold gM1
  simp only [ok_bnd]
  exact h
instance i_m1 {F : D → D → Rv} {ga gb : M A} : StE (Ok (gM1 F ga gb) s KA) (Ok ga s fun a s1 => Ok (isStr a) s1 fun _ s2 => Ok gb s2 fun b s3 => Ok (pk a) s3 fun d s4 => Ok (pk b) s4 fun e s5 => Ok (rvM (F d e)) s5 KA) := ⟨r_m1⟩
instance i_tgN [w : SetAt sl i (.fr d) sl'] : StE (Tgt (tgN i d ⟨sl, rs, me⟩) P) (P ⟨sl', rs, me⟩) := ⟨r_tgN w.e⟩
instance i_rvO {r : Rv} [h : RvO r d] : StE (Ok (rvM r) s KA) (KA (.d d) s) := ⟨e_rv h.e⟩
instance i_rvN {r : Rv} [h : RvN r d] : StE (Ok (rvM r) s KA) (KA (.d d) s) := ⟨e_rvN h.e⟩
instance i_rvF {r : Rv} [h : RvN r d] : StE (Ok (rvF r) s KD) (KD d s) := ⟨r_rvF h.e⟩
instance i_opA {o : Option D} [h : OpA o d] : StE (Ok (optA o) s KA) (KA (.d d) s) := ⟨r_optA h.e⟩
instance i_isB {o : Option Bool} {b : Bool} [h : IsB o b] : StE (Ok (optA (o.map D.bl)) s KA) (KA (.d (.bl b)) s) := ⟨r_isT h.e⟩
instance i_chk {p q : Prop} [h : Hd p] : StE (Chk p q) q := ⟨chk h.h⟩
instance i_chainV {r : Rv} {y : Bool} {g : M A} [h : RvO r (.bl y)] : StE (Ok (chainM r g) s KA) (Ok (if y = true then g else pur (.d (.bl false))) s KA) := ⟨r_chainV h.e⟩
class PutLs (is : List Nat) (ss sl : List Sl) (sl' : outParam (List Sl)) : Prop where
  e : putLs is ss sl = sl'
  l : ss.length = is.length
instance : PutLs [] [] sl sl := ⟨rfl, rfl⟩
instance {j : Nat} {is : List Nat} {x : Sl} {ss sl1 : List Sl} [w : SetAt sl j x sl1] [h : PutLs is ss sl1 sl'] : PutLs (j :: is) (x :: ss) sl sl' := ⟨by unfold putLs; rw [w.e, h.e], by simp [h.l]⟩
instance i_parP {is : List Nat} {ss : List Sl} [h : PutLs is ss sl sl'] : StE (Ok (parP is ss) ⟨sl, rs, me⟩ KF) (KF .nx ⟨sl', rs, me⟩) := ⟨r_parP h.l h.e⟩
class OwD (l : List Sl) (i : Nat) (ks : outParam (List (Key × D))) : Prop where
  e : ∃ x, l[i]? = some x ∧ (x = .fr (.dic ks) ∨ x = .ow (.dic ks))
instance {ks : List (Key × D)} {x : Sl} [h : Nth sl i x] [v : VarS x (.dic ks)] : OwD sl i ks := ⟨⟨x, h.e, v.e⟩⟩
instance i_dicP {ks : List (Key × D)} {k : Prop} [h : OwD sl i ks] : StE (DicP (.sl i) ⟨sl, rs, me⟩ k) k := ⟨fun q => r_dicP (by
  obtain ⟨x, e, h⟩ := h.e
  rw [peek_sl, show (⟨sl, rs, me⟩ : S).sl[i]? = _ from e]
  rcases h with rfl | rfl <;> rfl) q⟩
instance i_dicPd {ks : List (Key × D)} {k : Prop} {s : S} : StE (DicP (.d (.dic ks)) s k) k := ⟨fun q => r_dicP rfl q⟩
class Pl (sp : List Src) (ds md es : List D) (xs : outParam (List D)) : Prop where
  e : place sp ds md es = xs
end
end DL
end
section
namespace DL
open PySem PySem.Spec PyProof.Rows L2
section
variable {sd : Addr} {tb : List (Addr × Str)} {t : Nat} {r : Rs}
section
variable {sl : List Sl} {me : Option Me}
theorem rsOf_mk (h : r.sd = sd) : rsOf 0 ⟨.fr (.adr sd) :: sl, some r, me⟩ = some r := by
  unfold rsOf
  subst h
  simp
theorem e_rsI {f : Rs → Int} {K : A → S → Prop} (h : r.sd = sd) (k : K (.d (.int (f r))) ⟨.fr (.adr sd) :: sl, some r, me⟩) : Ok (gRsI 0 f) ⟨.fr (.adr sd) :: sl, some r, me⟩ K := by
  unfold Ok gRsI; rw [rsOf_mk h]; exact k
theorem e_rsT {f : Rs → Bool} {K : Bool → S → Prop} (h : r.sd = sd) (k : K (f r) ⟨.fr (.adr sd) :: sl, some r, me⟩) : Ok (gRsT 0 f) ⟨.fr (.adr sd) :: sl, some r, me⟩ K := by
  unfold Ok gRsT; rw [rsOf_mk h]; exact k
theorem e_rsPop {g : Int} {gs : List Int} {K : A → S → Prop} (h : r.sd = sd) (e : r.gr = g :: gs) (k : K (.d (.int g)) ⟨.fr (.adr sd) :: sl, some { r with gr := gs }, me⟩) : Ok (gRsPop 0) ⟨.fr (.adr sd) :: sl, some r, me⟩ K := by
  unfold Ok gRsPop; rw [rsOf_mk h]; dsimp only; rw [e]; exact k
theorem e_rsPut {f : Rs → Int → Rs} {ga : M A} {s : S} {K : Fl → S → Prop} (ha : Ok ga s fun a s1 => Ok (pk a) s1 fun d s2 => ∃ v sl r', d = .int v ∧ s2 = ⟨.fr (.adr sd) :: sl, some r', me⟩ ∧ r'.sd = sd ∧ K .nx ⟨.fr (.adr sd) :: sl, some (f r' v), me⟩) : Ok (sRsPut 0 f ga) s K := by
  unfold sRsPut
  rw [ok_bnd]
  refine ok_imp ha fun a s1 h1 => ?_
  rw [ok_bnd]
  refine ok_imp h1 fun d s2 ⟨v, sl, r', e1, e2, e3, k⟩ => ?_
  subst e1 e2
  unfold Ok
  dsimp only
  rw [rsOf_mk e3]
  exact k
theorem e_rsInc {K : Fl → S → Prop} (h : r.sd = sd) (k : K .nx ⟨.fr (.adr sd) :: sl, some { r with tn := r.tn + 1 }, me⟩) : Ok (sRsInc 0) ⟨.fr (.adr sd) :: sl, some r, me⟩ K := by
  unfold Ok sRsInc; rw [rsOf_mk h]; exact k
theorem e_rsLen {K : A → S → Prop} (h : r.sd = sd) (hl : r.ce.length ≤ 63) (k : K (.d (.int r.ce.length)) ⟨.fr (.adr sd) :: sl, some r, me⟩) : Ok (gRsLen 0) ⟨.fr (.adr sd) :: sl, some r, me⟩ K := by
  unfold Ok gRsLen; rw [rsOf_mk h]; dsimp only; rw [if_pos (show r.ce.length ≤ sizeLine by rw [sizeLine_eq]; omega)]; exact k
theorem e_rsCel {ga : M A} {j z : Int} {K : A → S → Prop} (h : r.sd = sd) (ha : Ok ga ⟨.fr (.adr sd) :: sl, some r, me⟩ fun a s1 => a = .d (.int j) ∧ s1 = ⟨.fr (.adr sd) :: sl, some r, me⟩) (e : atI r.ce j = some z) (k : K (.d (.int z)) ⟨.fr (.adr sd) :: sl, some r, me⟩) :
    Ok (gRsCel 0 ga) ⟨.fr (.adr sd) :: sl, some r, me⟩ K := by
  obtain ⟨a, s1, e0, rfl, rfl⟩ := ok_get ha
  unfold Ok gRsCel
  rw [rsOf_mk h]
  simp only [bnd, e0, pk, peek_d, rsOf_mk h, if_true, e]
  exact k
end
end
end DL
local macro_rules | `(tactic| walk_at "EV1") => `(tactic| first
  | refine DL.StE.go ?_
  | (with_reducible first
    | refine DL.e_rv (by assumption) ?_
    | refine DL.r_call (by assumption) ?_
    | refine DL.e_rvN (by assumption) ?_
    | refine DL.r_rvF (by assumption) ?_
    | refine DL.r_optA (by assumption) ?_
    | refine DL.r_iP (by assumption) ?_
    | refine DL.r_iN (by assumption) ?_
    | refine DL.r_inP (by assumption) ?_
    | refine DL.r_inN (by assumption) ?_
    | refine DL.r_innP (by assumption) ?_
    | refine DL.r_innN (by assumption) ?_
    | refine DL.r_iB (by assumption) ?_
    | refine DL.r_iC (by assumption) ?_
    | refine DL.r_inB (by assumption) ?_
    | refine DL.r_inC (by assumption) ?_
    | refine DL.r_isT (by assumption) ?_
    | refine DL.e_rsI (by assumption) ?_
    | refine DL.e_rsT (by assumption) ?_
    | refine DL.e_rsInc (by assumption) ?_)
  | ((with_reducible refine' DL.r_tgt ?h ?e ?_); (case h => exact rfl); (case e => first | (simp only [List.set_cons_zero, List.set_cons_succ, List.not_mem_nil, if_false, List.getElem?_cons_zero, List.getElem?_cons_succ, reduceIte, DL.setSl, DL.wipeL, DL.backL]; rfl) | rfl))
  | ((with_reducible refine DL.r_rangeM (by omega) ?_))
  | ((with_reducible refine DL.r_rangeL (by omega) ?_))
  | ((with_reducible refine DL.r_rgM (by omega) ?_))
  | ((with_reducible refine' DL.r_place ?e ?_); (case e => (simp only [DL.place, DL.srcOf, List.filterMap, List.getElem?_cons_zero, List.getElem?_cons_succ]; rfl)))
  | ((with_reducible refine' DL.r_placeM ?e ?_); (case e => (simp only [DL.place, DL.srcOf, List.filterMap, List.getElem?_cons_zero, List.getElem?_cons_succ]; rfl)))
  | ((with_reducible refine DL.e_rv (DL.fmod_int (by omega)) ?_))
  | ((with_reducible refine DL.e_rv (DL.fdiv_int (by omega) (by omega)) ?_))
  | ((with_reducible refine DL.e_rv (DL.fmul_l (by omega) (by omega)) ?_))
  | ((with_reducible refine' DL.r_selfP ?hl ?ek ?hf ?e ?_); (case hl => simp); (case ek => (simp only [List.map_cons, List.map_nil]; rfl)); (case hf => decide +kernel); (case e => (simp only [List.nil_append, List.cons_append]; rfl)))
  | ((with_reducible refine' DL.r_gSelf ?h ?_); (case h => ((repeat (rw [DL.lookN (by decide +kernel)])); exact DL.look1)))
  | ((with_reducible refine' DL.r_norm ?e ?_); (case e => (simp only [List.set_cons_zero, List.set_cons_succ, List.not_mem_nil, if_false, List.getElem?_cons_zero, List.getElem?_cons_succ, reduceIte, DL.setSl, DL.wipeL, DL.backL]; rfl)))
  | ((with_reducible refine' DL.r_back ?e ?_); (case e => (simp only [List.set_cons_zero, List.set_cons_succ, List.not_mem_nil, if_false, List.getElem?_cons_zero, List.getElem?_cons_succ, reduceIte, DL.setSl, DL.wipeL, DL.backL]; rfl))))
local macro_rules | `(tactic| walk_at "EV") => `(tactic| repeat walk_at "EV1")
namespace Lw
open PySem PySem.Spec PyProof.Rows L2 DL
section
variable {sd : Addr} {tb : List (Addr × Str)} {t : Nat} {r : Rs}
theorem mix_ok {r2 : Rs} (d : Dw sd tb (t + 1) r2) (ht : t < 2 ^ 40) {n : Int} (h1 : 1 ≤ n) (h2 : n < 1073741824) {K : Fl → S → Prop} (k : ∀ (k : Nat) s, (k : Int) < n → s.rs = some r2 → K (.rt (.int k)) s) :
    Ok (sSeq (sSet 3 (gRsI 0 (fun r => r.tn)))
    (sSeq (sSet 4 (pur (.d (.int 0))))
    (sSeq (gIf (gRsT 0 (fun r => decide (r.ce ≠ []))) (sSet 4 (gRsCel 0 (gOp2 FMod (gVar 3) (gRsLen 0)))) sNx)
    (sSeq (sSet 5 (gOp2 FMod (gOp2 FPow (gOp2 FAdd (gOp2 FMod (gVar 4) (pur (.d (.int 2147483629)))) (gOp2 FMulX (pur (.d (.int 40009))) (gVar 3))) (pur (.d (.int 3)))) (pur (.d (.int 2147483647)))))
    (sRet (gOp2 FMod (gOp2 FDiv (gOp2 FMod (gOp2 FPow (gOp2 FAdd (gVar 5) (gOp2 FMulX (pur (.d (.int 104729))) (gVar 3))) (pur (.d (.int 5)))) (pur (.d (.int 2147483629)))) (pur (.d (.int 11)))) (gVar 1))))))) ⟨[.fr (.adr sd), .fr (.int n), .no, .no, .no, .no], some r2, none⟩ K := by
  have hsd := d.sd
  have t0 := d.tn0
  have tn := d.tn
  have tail : ∀ c : Int, 0 ≤ c → c < 10 ^ 18 → Ok (sSeq (sSet 5 (gOp2 FMod (gOp2 FPow (gOp2 FAdd (gOp2 FMod (gVar 4) (pur (.d (.int 2147483629)))) (gOp2 FMulX (pur (.d (.int 40009))) (gVar 3))) (pur (.d (.int 3)))) (pur (.d (.int 2147483647)))))
      (sRet (gOp2 FMod (gOp2 FDiv (gOp2 FMod (gOp2 FPow (gOp2 FAdd (gVar 5) (gOp2 FMulX (pur (.d (.int 104729))) (gVar 3))) (pur (.d (.int 5)))) (pur (.d (.int 2147483629)))) (pur (.d (.int 11)))) (gVar 1)))) ⟨[.fr (.adr sd), .fr (.int n), .no, .fr (.int r2.tn), .fr (.int c), .no], some r2, none⟩ K := by
    intro c c0 c1
    walk_at "EV"
    have m0 : 0 ≤ c % 2147483629 ∧ c % 2147483629 < 2147483629 := ⟨Int.emod_nonneg _ (by decide), Int.emod_lt_of_pos _ (by decide)⟩
    first | (refine e_rv (fpow_int (by omega) (by omega) (by omega)) ?_) | skip
    walk_at "EV"
    generalize ex : (c % 2147483629 + 40009 * r2.tn) ^ (3 : Int).toNat % 2147483647 = x
    have mx : 0 ≤ x ∧ x < 2147483647 := by rw [← ex]; exact ⟨Int.emod_nonneg _ (by decide), Int.emod_lt_of_pos _ (by decide)⟩
    first | (refine e_rv (fpow_int (by omega) (by omega) (by omega)) ?_) | skip
    walk_at "EV"
    generalize (x + 104729 * r2.tn) ^ (5 : Int).toNat % 2147483629 / 11 = y
    have my : 0 ≤ y % n := Int.emod_nonneg _ (by omega)
    have e := k (y % n).toNat
    rw [Int.toNat_of_nonneg my] at e
    exact e _ (Int.emod_lt_of_pos _ (by omega)) rfl
  refine e_seqS ⟨[.fr (.adr sd), .fr (.int n), .no, .fr (.int r2.tn), .no, .no], some r2, none⟩ (by walk_at "EV"; exact ⟨rfl, rfl⟩) ?_
  refine e_seqS ⟨[.fr (.adr sd), .fr (.int n), .no, .fr (.int r2.tn), .fr (.int 0), .no], some r2, none⟩ (by walk_at "EV"; exact ⟨rfl, rfl⟩) ?_
  refine e_seqE (fun s' => ∃ c : Int, 0 ≤ c ∧ c < 10 ^ 18 ∧ s' = ⟨[.fr (.adr sd), .fr (.int n), .no, .fr (.int r2.tn), .fr (.int c), .no], some r2, none⟩) ?_ fun s' ⟨c, c0, c1, e⟩ => by subst e; exact tail c c0 c1
  by_cases hc : r2.ce = []
  · walk_at "EV"
    first | (refine e_F (by simp [hc]) ?_) | skip
    walk_at "EV"
    exact ⟨rfl, 0, by decide, by decide, rfl⟩
  · walk_at "EV"
    have lp : 0 < r2.ce.length := List.length_pos_iff.mpr hc
    have lc := d.lc
    have mj : 0 ≤ r2.tn % (r2.ce.length : Int) ∧ r2.tn % (r2.ce.length : Int) < r2.ce.length := ⟨Int.emod_nonneg _ (by omega), Int.emod_lt_of_pos _ (by omega)⟩
    have lj : (r2.tn % (r2.ce.length : Int)).toNat < r2.ce.length := by omega
    have ej : ((r2.tn % (r2.ce.length : Int)).toNat : Int) = r2.tn % (r2.ce.length : Int) := Int.toNat_of_nonneg mj.1
    have eat := at_nat (xs := r2.ce) (List.getElem?_eq_getElem lj)
    rw [ej] at eat
    have mem := d.ce _ (List.getElem_mem lj)
    refine e_rsCel (j := r2.tn % (r2.ce.length : Int)) hsd ?_ eat ?_
    · walk_at "EV"
      refine e_rsLen hsd lc ?_
      walk_at "EV"
      exact ⟨rfl, rfl⟩
    · walk_at "EV"
      exact ⟨rfl, _, mem.1, mem.2, rfl⟩
theorem next_ok (h : Dw sd tb t r) (ht : t < 2 ^ 40) {n : Int} (h1 : 1 ≤ n) (h2 : n < 1073741824) : ∃ (k : Nat) (r' : Rs), m_law_next [.adr sd, .int n] (some r) = .ok (.int k) (some r') ∧ (k : Int) < n ∧ Dw sd tb (t + 1) r' := by
  have key : ∃ d rs', m_law_next [.adr sd, .int n] (some r) = .ok d rs' ∧ ∃ (k : Nat) (r' : Rs), d = .int k ∧ rs' = some r' ∧ (k : Int) < n ∧ Dw sd tb (t + 1) r' := by
    refine mk_run ?_
    show Ok b_law_next ⟨[.fr (.adr sd), .fr (.int n), .no, .no, .no, .no], some r, none⟩ _
    unfold b_law_next
    refine e_seq ?_
    refine ok_while (fun k s => ∃ r', s = ⟨[.fr (.adr sd), .fr (.int n), .no, .no, .no, .no], some r', none⟩ ∧ Dw sd tb t r' ∧ k = r'.gr.length) (fun k s ⟨r', es, d, ek⟩ => ?_) 100000 r.gr.length _ (by have := h.lg; omega) ⟨r, rfl, h, rfl⟩
    subst es ek
    have hsd := d.sd
    by_cases hz : r'.dg = 0 ∧ r'.gr ≠ []
    · obtain ⟨hz, hg⟩ := hz
      obtain ⟨g, gs, eg⟩ := List.exists_cons_of_ne_nil hg
      walk_at "EV"
      rw [if_pos (decide_eq_true hg)]
      refine ⟨gs.length, by rw [eg]; simp, ?_⟩
      walk_at "EV"
      refine e_rsPut (sd := sd) (me := none) ?_
      refine e_rsPop hsd eg ?_
      walk_at "EV"
      refine ⟨_, _, _, rfl, rfl, hsd, ?_⟩
      have mg := d.gr
      have lg := d.lg
      rw [eg] at mg lg
      refine ⟨rfl, { r' with gr := gs, dg := g }, rfl, ⟨d.sd, d.tb, ?_, fun z hz => mg z (List.mem_cons_of_mem _ hz), d.ce, ?_, d.lc, d.tn0, d.tn⟩, rfl⟩
      · have := mg g (List.mem_cons_self ..); show 0 ≤ g; omega
      · simp at lg ⊢; omega
    · have hc : ∀ K : Bool → S → Prop, K false ⟨[.fr (.adr sd), .fr (.int n), .no, .no, .no, .no], some r', none⟩ → Ok (gAnd (gTest (gOp2 FEq (gRsI 0 fun r => r.dg) (pur (.d (.int 0))))) (gRsT 0 fun r => decide (r.gr ≠ []))) ⟨[.fr (.adr sd), .fr (.int n), .no, .no, .no, .no], some r', none⟩ K := by
        intro K k
        by_cases h0 : r'.dg = 0
        · walk_at "EV"
          rw [show decide (r'.gr ≠ []) = false from decide_eq_false fun z => hz ⟨h0, z⟩]
          exact k
        · walk_at "EV"
          exact k
      refine hc _ ?_
      rw [if_neg (by simp)]
      have dg := d.dg
      by_cases hp : 0 < r'.dg
      · walk_at "EV"
        refine e_rsPut (sd := sd) (me := none) ?_
        walk_at "EV"
        refine ⟨_, _, _, rfl, rfl, hsd, ?_⟩
        walk_at "EV"
        refine ⟨(r'.dg % n).toNat, _, by rw [Int.toNat_of_nonneg (Int.emod_nonneg _ (by omega))], rfl, by rw [Int.toNat_of_nonneg (Int.emod_nonneg _ (by omega))]; exact Int.emod_lt_of_pos _ (by omega), d.sd, d.tb, Int.ediv_nonneg dg (by omega), d.gr, d.ce, d.lg, d.lc, d.tn0, by have := d.tn; show r'.tn ≤ _; omega⟩
      · refine e_seqS ⟨[.fr (.adr sd), .fr (.int n), .no, .no, .no, .no], some r', none⟩ (by walk_at "EV"; exact ⟨rfl, rfl⟩) ?_
        refine e_seqS ⟨[.fr (.adr sd), .fr (.int n), .no, .no, .no, .no], some { r' with tn := r'.tn + 1 }, none⟩ (by walk_at "EV"; exact ⟨rfl, rfl⟩) ?_
        refine mix_ok (t := t) (r2 := { r' with tn := r'.tn + 1 }) ⟨d.sd, d.tb, d.dg, d.gr, d.ce, d.lg, d.lc, by have := d.tn0; show 0 ≤ r'.tn + 1; omega, by have := d.tn; show r'.tn + 1 ≤ _; omega⟩ ht h1 h2 fun k s hk hs => ?_
        exact ⟨k, _, rfl, hs, hk, ⟨d.sd, d.tb, d.dg, d.gr, d.ce, d.lg, d.lc, by have := d.tn0; show 0 ≤ r'.tn + 1; omega, by have := d.tn; show r'.tn + 1 ≤ _; omega⟩⟩
  obtain ⟨d, rs', e, k, r', rfl, rfl, e3, e4⟩ := key
  exact ⟨k, r', e, e3, e4⟩
theorem pick_ok (h : Dw sd tb t r) (ht : t < 2 ^ 40) {xs : List D} (h1 : xs ≠ []) (h2 : xs.length < 1000000) : ∃ (k : Nat) (x : D) (r' : Rs), m_law_pick [.adr sd, .lst xs] (some r) = .ok x (some r') ∧ xs[k]? = some x ∧ Dw sd tb (t + 1) r' := by
  have lp : 0 < xs.length := List.length_pos_iff.mpr h1
  obtain ⟨k, r', e, hk, d⟩ := next_ok h ht (n := xs.length) (by omega) (by omega)
  have lk : k < xs.length := by omega
  refine ⟨k, xs[k], r', mk_eq ?_, List.getElem?_eq_getElem lk, d⟩
  show Ok b_law_pick ⟨[.fr (.adr sd), .fr (.lst xs)], some r, none⟩ _
  unfold b_law_pick
  walk_at "EV"
  first | (refine e_rv (fget_lst rfl (List.getElem?_eq_getElem lk)) ?_) | skip
  walk_at "EV"
  exact ⟨rfl, rfl⟩
theorem pickS_ok (h : Dw sd tb t r) (ht : t < 2 ^ 40) {z : Str} (h1 : 0 < z.length) (h2 : z.length < 1000000) : ∃ (k c : Nat) (r' : Rs), m_law_pick [.adr sd, .str z] (some r) = .ok (.str ⟨#[c]⟩) (some r') ∧ z.cps.toList[k]? = some c ∧ Dw sd tb (t + 1) r' := by
  obtain ⟨k, r', e, hk, d⟩ := next_ok h ht (n := z.length) (by omega) (by omega)
  have lk : k < z.cps.toList.length := by have e : z.cps.toList.length = z.length := by simp [Str.length]
                                          omega
  refine ⟨k, z.cps.toList[k], r', mk_eq ?_, List.getElem?_eq_getElem lk, d⟩
  show Ok b_law_pick ⟨[.fr (.adr sd), .fr (.str z)], some r, none⟩ _
  unfold b_law_pick
  walk_at "EV"
  first | (refine e_rv (flen_str (by omega)) ?_) | skip
  walk_at "EV"
  first | (refine e_rv (fget_str (by omega) rfl (List.getElem?_eq_getElem lk)) ?_) | skip
  walk_at "EV"
  exact ⟨rfl, rfl⟩
end
end Lw
end
section
namespace DL
open PySem PySem.Spec PyProof.Rows L2
theorem depthAll_le {n : Nat} : ∀ {xs : List D}, (∀ x ∈ xs, (py x).depth ≤ n) → PyData.depthAll (pyL xs) ≤ n
  | [], _ => by unfold pyL PyData.depthAll; omega
  | x :: xs, h => by
    unfold pyL PyData.depthAll
    have h1 := h x (List.mem_cons_self ..)
    have h2 := depthAll_le (n := n) (xs := xs) fun y hy => h y (List.mem_cons_of_mem _ hy)
    omega
theorem plAll_of {xs : List D} (h : ∀ x ∈ xs, plD x = true) : plAll xs = true := by
  rw [plAll_all]
  exact List.all_eq_true.mpr h
theorem okD_flat {xs : List D} (h : ∀ x ∈ xs, plD x = true ∧ (py x).depth ≤ 30) : okD (.lst xs) = true ∧ okD (.tup xs) = true := by
  have h1 := plAll_of fun x hx => (h x hx).1
  have h2 := depthAll_le fun x hx => (h x hx).2
  unfold okD
  constructor
  · rw [Bool.and_eq_true]
    refine ⟨by unfold plD; exact h1, decide_eq_true ?_⟩
    show (PyData.list (pyL xs)).depth ≤ 40
    unfold PyData.depth
    omega
  · rw [Bool.and_eq_true]
    refine ⟨by unfold plD; exact h1, decide_eq_true ?_⟩
    show (PyData.tuple (pyL xs)).depth ≤ 40
    unfold PyData.depth
    omega
theorem okD_ints (xs : List Int) : okD (.lst (xs.map D.int)) = true ∧ okD (.tup (xs.map D.int)) = true := okD_flat fun x hx => by
  obtain ⟨i, _, rfl⟩ := List.mem_map.mp hx
  exact ⟨by unfold plD; rfl, by simp [py, PyData.depth]⟩
theorem okD_strs (xs : List Str) : okD (.lst (xs.map D.str)) = true ∧ okD (.tup (xs.map D.str)) = true := okD_flat fun x hx => by
  obtain ⟨i, _, rfl⟩ := List.mem_map.mp hx
  exact ⟨by unfold plD; rfl, by simp [py, PyData.depth]⟩
theorem fne_nil {xs : List D} (h : okD (.lst xs) = true) : FNe (.lst xs) (.lst []) = .old (.bl (!decide (xs = []))) := by
  unfold FNe
  rw [if_pos ⟨h, (okD_ints []).1⟩]
  congr 2
  show (!PyData.eqv (.list (pyL xs)) (.list (pyL []))) = _
  cases xs with
  | nil => unfold pyL; rw [PyData.eqv]; rfl
  | cons x r => unfold pyL; rw [PyData.eqv]; rfl
theorem fneL_dec {xs : List D} : FNeL (.lst xs) (.lst []) = .old (.bl (!decide (xs = []))) := by cases xs <;> rfl
instance i_fneL_dec {xs : List D} : DL.RvO (FNeL (.lst xs) (.lst [])) (.bl (!decide (xs = []))) := ⟨fneL_dec⟩
def leI (a b : Int) : Bool := decide (a ≤ b)
theorem leD_int (a b : Int) : leD (.int a) (.int b) = leI a b := by
  rw [leD_eq]
  show (!PySem.W.dataLt (.int b) (.int a)) = _
  rw [PySem.W.dataLt_int]
  unfold leI
  by_cases h : a ≤ b
  · rw [decide_eq_true h, decide_eq_false (by omega)]; rfl
  · rw [decide_eq_false h, decide_eq_true (by omega)]; rfl
def sortI (xs : List Int) : List Int := xs.mergeSort leI
theorem map_sort {α : Type} {le : α → α → Bool} {le' : D → D → Bool} {en : α → D} (h : ∀ a b, le' (en a) (en b) = le a b) (xs : List α) : (xs.map en).mergeSort le' = (xs.mergeSort le).map en :=
  (List.map_mergeSort fun a _ b _ => (h a b).symm).symm
theorem sortI_map (xs : List Int) : (xs.map D.int).mergeSort leD = (sortI xs).map D.int := map_sort leD_int xs
theorem fsorted_ints {xs : List Int} : FSorted [.lst (xs.map D.int)] = .nw (.lst ((sortI xs).map D.int)) := by
  unfold FSorted itemsD
  dsimp only
  rw [if_pos (sortable_ints xs), sortI_map]
instance i_fsorted_ints {xs : List Int} : DL.RvN (FSorted [.lst (xs.map D.int)]) (.lst ((sortI xs).map D.int)) := ⟨fsorted_ints⟩
theorem sortI_perm (xs : List Int) : (sortI xs).Perm xs := List.mergeSort_perm xs leI
theorem sortI_sorted (xs : List Int) : (sortI xs).Pairwise (fun a b => a ≤ b) := by
  have h := List.pairwise_mergeSort (le := leI) (fun a b c h1 h2 => by unfold leI at *; simp at *; omega) (fun a b => by unfold leI; simp; omega) xs
  exact h.imp fun h => by unfold leI at h; simpa using h
theorem nodup_map {α β : Type} {f : α → β} : ∀ {l : List α}, (∀ a ∈ l, ∀ b ∈ l, f a = f b → a = b) → l.Nodup → (l.map f).Nodup
  | [], _, _ => List.nodup_nil
  | x :: l, h, n => by
    rw [List.map_cons, List.nodup_cons]
    rw [List.nodup_cons] at n
    refine ⟨fun q => ?_, nodup_map (fun a ha b hb => h a (List.mem_cons_of_mem _ ha) b (List.mem_cons_of_mem _ hb)) n.2⟩
    obtain ⟨y, hy, e⟩ := List.mem_map.mp q
    have := h y (List.mem_cons_of_mem _ hy) x (List.mem_cons_self ..) e
    subst this
    exact n.1 hy
theorem filt_true {α : Type} (l : List α) : (l.filter fun _ => true) = l := List.filter_eq_self.mpr fun _ _ => rfl
theorem map_eraseIdx {α β : Type} (f : α → β) : ∀ (l : List α) (k : Nat), (l.map f).eraseIdx k = (l.eraseIdx k).map f
  | [], k => by simp
  | x :: l, 0 => rfl
  | x :: l, k + 1 => by
    rw [List.map_cons, List.eraseIdx_cons_succ, List.eraseIdx_cons_succ, List.map_cons, DL.map_eraseIdx f l k]
theorem perm_erase {α : Type} : ∀ {l : List α} {k : Nat} (h : k < l.length), ([l[k]] ++ l.eraseIdx k).Perm l
  | [], k, h => by simp at h
  | x :: l, 0, h => by simp
  | x :: l, k + 1, h => by
    have ih := perm_erase (l := l) (k := k) (by simpa using h)
    simp only [List.getElem_cons_succ, List.eraseIdx_cons_succ]
    exact (List.Perm.swap x _ _).trans (ih.cons x)
end DL
local macro_rules | `(tactic| walk_at "EV1") => `(tactic| first
  | refine DL.StE.go ?_
  | (with_reducible first
    | refine DL.e_rv (by assumption) ?_
    | refine DL.r_call (by assumption) ?_
    | refine DL.e_rvN (by assumption) ?_
    | refine DL.r_rvF (by assumption) ?_
    | refine DL.r_optA (by assumption) ?_
    | refine DL.r_iP (by assumption) ?_
    | refine DL.r_iN (by assumption) ?_
    | refine DL.r_inP (by assumption) ?_
    | refine DL.r_inN (by assumption) ?_
    | refine DL.r_innP (by assumption) ?_
    | refine DL.r_innN (by assumption) ?_
    | refine DL.r_iB (by assumption) ?_
    | refine DL.r_iC (by assumption) ?_
    | refine DL.r_inB (by assumption) ?_
    | refine DL.r_inC (by assumption) ?_
    | refine DL.r_isT (by assumption) ?_)
  | ((with_reducible refine' DL.r_tgt ?h ?e ?_); (case h => exact rfl); (case e => first | (simp only [List.set_cons_zero, List.set_cons_succ, List.not_mem_nil, if_false, List.getElem?_cons_zero, List.getElem?_cons_succ, reduceIte, DL.setSl, DL.wipeL, DL.backL]; rfl) | rfl))
  | ((with_reducible refine DL.r_rangeM (by omega) ?_))
  | ((with_reducible refine DL.r_rangeL (by omega) ?_))
  | ((with_reducible refine DL.r_rgM (by omega) ?_))
  | ((with_reducible refine' DL.r_place ?e ?_); (case e => (simp only [DL.place, DL.srcOf, List.filterMap, List.getElem?_cons_zero, List.getElem?_cons_succ]; rfl)))
  | ((with_reducible refine' DL.r_placeM ?e ?_); (case e => (simp only [DL.place, DL.srcOf, List.filterMap, List.getElem?_cons_zero, List.getElem?_cons_succ]; rfl)))
  | ((with_reducible refine DL.e_rv (DL.fmod_int (by omega)) ?_))
  | ((with_reducible refine DL.e_rv (DL.fdiv_int (by omega) (by omega)) ?_))
  | ((with_reducible refine DL.e_rv (DL.fmul_l (by omega) (by omega)) ?_))
  | ((with_reducible refine' DL.r_selfP ?hl ?ek ?hf ?e ?_); (case hl => simp); (case ek => (simp only [List.map_cons, List.map_nil]; rfl)); (case hf => decide +kernel); (case e => (simp only [List.nil_append, List.cons_append]; rfl)))
  | ((with_reducible refine' DL.r_gSelf ?h ?_); (case h => ((repeat (rw [DL.lookN (by decide +kernel)])); exact DL.look1)))
  | ((with_reducible refine' DL.r_norm ?e ?_); (case e => (simp only [List.set_cons_zero, List.set_cons_succ, List.not_mem_nil, if_false, List.getElem?_cons_zero, List.getElem?_cons_succ, reduceIte, DL.setSl, DL.wipeL, DL.backL]; rfl)))
  | ((with_reducible refine' DL.r_back ?e ?_); (case e => (simp only [List.set_cons_zero, List.set_cons_succ, List.not_mem_nil, if_false, List.getElem?_cons_zero, List.getElem?_cons_succ, reduceIte, DL.setSl, DL.wipeL, DL.backL]; rfl))))
local macro_rules | `(tactic| walk_at "EV") => `(tactic| repeat walk_at "EV1")
namespace Lw
open PySem PySem.Spec PyProof.Rows L2 DL
section
variable {sd : Addr} {tb : List (Addr × Str)} {t : Nat} {r : Rs}
theorem shuffled_ok {α : Type} (en : α → D) (hen : ∀ ys : List α, okD (.lst (ys.map en)) = true) (xs : List α) (hl : xs.length ≤ 1000) (h : Dw sd tb t r) (ht : t + 1000 < 2 ^ 40) :
    ∃ (ys : List α) (r' : Rs), m_law_shuffled [.adr sd, .lst (xs.map en)] (some r) = .ok (.lst (ys.map en)) (some r') ∧ ys.Perm xs ∧ Dw sd tb (t + xs.length) r' := by
  have key : ∃ d rs', m_law_shuffled [.adr sd, .lst (xs.map en)] (some r) = .ok d rs' ∧ ∃ (ys : List α) (r' : Rs), d = .lst (ys.map en) ∧ rs' = some r' ∧ ys.Perm xs ∧ Dw sd tb (t + xs.length) r' := by
    refine mk_run ?_
    show Ok b_law_shuffled ⟨[.fr (.adr sd), .fr (.lst (xs.map en)), .no, .no], some r, none⟩ _
    unfold b_law_shuffled
    refine e_seqS ⟨[.fr (.adr sd), .fr (.lst (xs.map en)), .ow (.lst (xs.map en)), .ow (.lst [])], some r, none⟩ ?_ ?_
    · walk_at "EV"
      exact ⟨rfl, rfl⟩
    refine e_seq ?_
    refine ok_while (fun k s => ∃ left found r', s = ⟨[.fr (.adr sd), .fr (.lst (xs.map en)), .ow (.lst (left.map en)), .ow (.lst (found.map en))], some r', none⟩ ∧ Dw sd tb (t + found.length) r' ∧ k = left.length ∧ (found ++ left).Perm xs) (fun k s ⟨left, found, r', es, d, ek, pm⟩ => ?_) 100000 xs.length _ (by omega) ⟨xs, [], r, rfl, by simpa using h, rfl, by simp⟩
    subst es ek
    have lp := pm.length_eq
    rw [List.length_append] at lp
    walk_at "EV"
    first | (refine e_rv (fne_nil (hen left)) ?_) | skip
    first | (refine e_rv fneL_dec ?_) | skip
    walk_at "EV"
    cases left with
    | nil =>
      rw [if_neg (by simp)]
      walk_at "EV"
      refine ⟨found, r', rfl, rfl, by simpa using pm, d.mono (by omega)⟩
    | cons y left =>
      rw [if_pos (by simp)]
      refine ⟨left.length, by simp, ?_⟩
      walk_at "EV"
      refine e_app rfl ?_
      refine e_pop rfl ?_
      walk_at "EV"
      obtain ⟨k, r2, e2, hk, d2⟩ := next_ok d (by simp at lp; omega) (n := (((y :: left).map en).length : Nat)) (by simp; omega) (by simp at lp ⊢; omega)
      walk_at "EV"
      have lk : k < (y :: left).length := by simp at hk; simp; omega
      have gk : ((y :: left).map en)[k]? = some (en ((y :: left)[k])) := by rw [List.getElem?_map, List.getElem?_eq_getElem lk]; rfl
      refine ⟨_, _, _, k, rfl, rfl, rfl, by simp at lp ⊢; omega, gk, ?_⟩
      walk_at "EV"
      refine ⟨_, _, rfl, rfl, by simp at lp ⊢; omega, ?_⟩
      walk_at "EV"
      refine ⟨rfl, (y :: left).eraseIdx k, found ++ [(y :: left)[k]], r2, ?_, d2.mono (by simp; omega), by rw [List.length_eraseIdx_of_lt lk]; simp, ?_⟩
      · rw [← DL.map_eraseIdx, List.map_append]
        rfl
      · refine (List.Perm.trans ?_ pm)
        rw [List.append_assoc]
        exact List.Perm.append_left _ (perm_erase lk)
  obtain ⟨d, rs', e, ys, r', rfl, rfl, e3, e4⟩ := key
  exact ⟨ys, r', e, e3, e4⟩
theorem mod_inj {s f : Int} {k j : Nat} (hs : s ∈ ([1, 3, 5, 7, 9, 11, 13, 15] : List Int)) (hk : k < 16) (hj : j < 16) (e : (f + s * k) % 16 = (f + s * j) % 16) : k = j := by
  simp only [List.mem_cons, List.not_mem_nil, or_false] at hs
  rcases hs with rfl | rfl | rfl | rfl | rfl | rfl | rfl | rfl <;> omega
structure Spots (n : Nat) (zs : List Int) : Prop where
  len : zs.length = n
  nd : zs.Nodup
  so : zs.Pairwise (fun a b => a ≤ b)
  cell : ∀ z ∈ zs, 0 ≤ z ∧ z < 16
theorem spots_ok (h : Dw sd tb t r) (ht : t + 1000 < 2 ^ 40) {n : Nat} (hn : n ≤ 16) : ∃ (zs : List Int) (r' : Rs), m_law_spots [.adr sd, .int n] (some r) = .ok (.lst (zs.map .int)) (some r') ∧ Spots n zs ∧ Dw sd tb (t + 2) r' := by
  obtain ⟨f, r1, e1, hf, d1⟩ := next_ok h (by omega) (n := 16) (by decide) (by decide)
  obtain ⟨i, x, r2, e2, hi, d2⟩ := pick_ok d1 (by omega) (xs := [.int 1, .int 3, .int 5, .int 7, .int 9, .int 11, .int 13, .int 15]) (by simp) (by simp)
  obtain ⟨st, rfl, hst⟩ : ∃ st : Int, x = .int st ∧ st ∈ ([1, 3, 5, 7, 9, 11, 13, 15] : List Int) := by
    have hm := List.mem_of_getElem? hi
    simp only [List.mem_cons, List.not_mem_nil, or_false] at hm
    rcases hm with rfl | rfl | rfl | rfl | rfl | rfl | rfl | rfl <;> exact ⟨_, rfl, by simp⟩
  have hst2 : 0 ≤ st ∧ st ≤ 15 := by
    simp only [List.mem_cons, List.not_mem_nil, or_false] at hst
    omega
  refine ⟨sortI ((List.range n).map fun k : Nat => ((f : Int) + st * k) % 16), r2, mk_eq ?_, ?_, d2⟩
  · show Ok b_law_spots ⟨[.fr (.adr sd), .fr (.int n), .no, .no, .no], some r, none⟩ _
    unfold b_law_spots
    refine e_seqS ⟨[.fr (.adr sd), .fr (.int n), .fr (.int f), .fr (.int st), .no], some r2, none⟩ ?_ ?_
    · walk_at "EV"
      exact ⟨rfl, rfl⟩
    walk_at "EV"
    refine ok_lcP (fun k : Nat => D.int k) (List.range n) [.fr (.adr sd), .fr (.int n), .fr (.int f), .fr (.int st), .no] none (fun _ => true) (fun k => .int (((f : Int) + st * k) % 16)) ?_
    refine e_range ?_
    walk_at "EV"
    refine ⟨n, rfl, by omega, ?_⟩
    refine ⟨rfl, by simp; omega, rfl, fun k hk => ⟨_, rfl, ?_⟩, ?_⟩
    · walk_at "EV"
      refine ⟨rfl, ?_⟩
      rw [if_pos rfl]
      walk_at "EV"
      exact ⟨rfl, rfl⟩
    · walk_at "EV"
      rw [filt_true, show (List.range n).map (fun k : Nat => D.int (((f : Int) + st * k) % 16)) = ((List.range n).map fun k : Nat => ((f : Int) + st * k) % 16).map D.int by rw [List.map_map]; rfl]
      first | (refine e_rvN fsorted_ints ?_) | skip
      walk_at "EV"
      exact ⟨rfl, rfl⟩
  · have pm := sortI_perm ((List.range n).map fun k : Nat => ((f : Int) + st * k) % 16)
    refine ⟨by rw [pm.length_eq]; simp, pm.nodup_iff.mpr ?_, sortI_sorted _, fun z hz => ?_⟩
    · refine nodup_map (fun a ha b hb e => mod_inj hst (by have := List.mem_range.mp ha; omega) (by have := List.mem_range.mp hb; omega) e) List.nodup_range
    · obtain ⟨k, _, rfl⟩ := List.mem_map.mp (pm.mem_iff.mp hz)
      exact ⟨Int.emod_nonneg _ (by decide), Int.emod_lt_of_pos _ (by decide)⟩
end
end Lw
end
local macro_rules | `(tactic| walk_at "EV1") => `(tactic| first
  | refine DL.StE.go ?_
  | (with_reducible first
    | refine DL.e_rv (by assumption) ?_
    | refine DL.r_call (by assumption) ?_
    | refine DL.e_rvN (by assumption) ?_
    | refine DL.r_rvF (by assumption) ?_
    | refine DL.r_optA (by assumption) ?_
    | refine DL.r_iP (by assumption) ?_
    | refine DL.r_iN (by assumption) ?_
    | refine DL.r_inP (by assumption) ?_
    | refine DL.r_inN (by assumption) ?_
    | refine DL.r_innP (by assumption) ?_
    | refine DL.r_innN (by assumption) ?_
    | refine DL.r_iB (by assumption) ?_
    | refine DL.r_iC (by assumption) ?_
    | refine DL.r_inB (by assumption) ?_
    | refine DL.r_inC (by assumption) ?_
    | refine DL.r_isT (by assumption) ?_)
  | ((with_reducible refine' DL.r_tgt ?h ?e ?_); (case h => exact rfl); (case e => first | (simp only [List.set_cons_zero, List.set_cons_succ, List.not_mem_nil, if_false, List.getElem?_cons_zero, List.getElem?_cons_succ, reduceIte, DL.setSl, DL.wipeL, DL.backL]; rfl) | rfl))
  | ((with_reducible refine DL.r_rangeM (by omega) ?_))
  | ((with_reducible refine DL.r_rangeL (by omega) ?_))
  | ((with_reducible refine DL.r_rgM (by omega) ?_))
  | ((with_reducible refine' DL.r_place ?e ?_); (case e => (simp only [DL.place, DL.srcOf, List.filterMap, List.getElem?_cons_zero, List.getElem?_cons_succ]; rfl)))
  | ((with_reducible refine' DL.r_placeM ?e ?_); (case e => (simp only [DL.place, DL.srcOf, List.filterMap, List.getElem?_cons_zero, List.getElem?_cons_succ]; rfl)))
  | ((with_reducible refine DL.e_rv (DL.fmod_int (by omega)) ?_))
  | ((with_reducible refine DL.e_rv (DL.fdiv_int (by omega) (by omega)) ?_))
  | ((with_reducible refine DL.e_rv (DL.fmul_l (by omega) (by omega)) ?_))
  | ((with_reducible refine' DL.r_selfP ?hl ?ek ?hf ?e ?_); (case hl => simp); (case ek => (simp only [List.map_cons, List.map_nil]; rfl)); (case hf => decide +kernel); (case e => (simp only [List.nil_append, List.cons_append]; rfl)))
  | ((with_reducible refine' DL.r_gSelf ?h ?_); (case h => ((repeat (rw [DL.lookN (by decide +kernel)])); exact DL.look1)))
  | ((with_reducible refine' DL.r_norm ?e ?_); (case e => (simp only [List.set_cons_zero, List.set_cons_succ, List.not_mem_nil, if_false, List.getElem?_cons_zero, List.getElem?_cons_succ, reduceIte, DL.setSl, DL.wipeL, DL.backL]; rfl)))
  | ((with_reducible refine' DL.r_back ?e ?_); (case e => (simp only [List.set_cons_zero, List.set_cons_succ, List.not_mem_nil, if_false, List.getElem?_cons_zero, List.getElem?_cons_succ, reduceIte, DL.setSl, DL.wipeL, DL.backL]; rfl))))
local macro_rules | `(tactic| walk_at "EV") => `(tactic| repeat walk_at "EV1")
section
namespace DL
open PySem PySem.Spec PyProof.Rows L2
def one (c : Nat) : Str := ⟨#[c]⟩
theorem joinL_nil : ∀ l : List (List Nat), TL.joinL [] l = l.flatten
  | [] => rfl
  | [p] => by simp [TL.joinL]
  | p :: q :: r => by
    unfold TL.joinL
    rw [joinL_nil (q :: r)]
    simp
theorem strsD_of : ∀ xs : List Str, strsD (xs.map D.str) = some xs
  | [] => rfl
  | x :: r => by
    show (strsD (r.map D.str)).map _ = _
    rw [strsD_of r]; rfl
theorem sum_ones : ∀ cs : List Nat, ((cs.map one).map (·.length)).sum = cs.length
  | [] => rfl
  | c :: r => by
    have ih := sum_ones r
    simp only [List.map_cons, List.sum_cons, List.length_cons]
    rw [ih]
    show 1 + r.length = r.length + 1
    omega
theorem join_cs (cs : List Nat) : Txt.join (Str.ofString "") (cs.map one) = ⟨cs.toArray⟩ := by
  have e : TL.tl (Txt.join (Str.ofString "") (cs.map one)) = cs := by
    show TL.tl (Builtin.Str.glued (Str.ofString "") (cs.map one)) = cs
    rw [StrLaws.glued_eq_join]
    rw [TL.tl_join]
    have e0 : TL.tl (Str.ofString "") = [] := by decide +kernel
    rw [e0, joinL_nil, List.map_map]
    have : ∀ cs : List Nat, (cs.map (TL.tl ∘ one)).flatten = cs := fun cs => by
      induction cs with
      | nil => rfl
      | cons c r ih => rw [List.map_cons, List.flatten_cons, ih]; rfl
    exact this cs
  exact TL.ext_tl (e.trans (by simp [TL.tl]))
theorem fjoin_cs {cs : List Nat} (h : cs.length ≤ 1000) : FJoin (.str (Str.ofString "")) (.lst (cs.map fun c => .str (one c))) = .old (.str ⟨cs.toArray⟩) := by
  have e : joinD (.str (Str.ofString "")) (.lst (cs.map fun c => .str (one c))) = some ⟨cs.toArray⟩ := by
    show joinT (Str.ofString "") (cs.map fun c => D.str (one c)) = _
    unfold joinT
    have e2 : (cs.map fun c => D.str (one c)) = (cs.map one).map D.str := by rw [List.map_map]; rfl
    rw [e2, strsD_of]
    have e3 : (Str.ofString "").length = 0 := by decide +kernel
    rw [Option.bind_some, if_pos (by rw [sum_ones, e3]; omega), join_cs]
  unfold FJoin
  rw [e]
def z26 : Str := "abcdefghijklmnopqrstuvwxyz"
theorem z26_len : z26.length = 26 := by decide +kernel
theorem z26_at : z26.cps.toList = (List.range 26).map fun k => 97 + k := by decide +kernel
def Low (cs : List Nat) : Prop := ∀ c ∈ cs, 97 ≤ c ∧ c ≤ 122
theorem z26_low : Low z26.cps.toList := fun c hc => by
  rw [z26_at] at hc
  obtain ⟨k, hk, rfl⟩ := List.mem_map.mp hc
  have := List.mem_range.mp hk
  omega
structure Nm (z : Str) : Prop where
  lo : 1 ≤ z.length
  hi : z.length ≤ 8
  low : Low z.cps.toList
end DL
namespace Lw
open PySem PySem.Spec PyProof.Rows L2 DL
section
variable {sd : Addr} {tb : List (Addr × Str)} {t : Nat} {r : Rs}
theorem pickL_ok (h : Dw sd tb t r) (ht : t < 2 ^ 40) : ∃ (c : Nat) (r' : Rs), m_law_pick [.adr sd, .str z26] (some r) = .ok (.str (one c)) (some r') ∧ (97 ≤ c ∧ c ≤ 122) ∧ Dw sd tb (t + 1) r' := by
  obtain ⟨k, c, r', e, hk, d⟩ := pickS_ok h ht (z := z26) (by rw [z26_len]; omega) (by rw [z26_len]; omega)
  exact ⟨c, r', e, z26_low c (List.mem_of_getElem? hk), d⟩
theorem base6 (h : Dw sd tb t r) (ht : t + 1000 < 2 ^ 40) {a1 a3 a4 a5 a7 a8 a9 : Sl} {K : D → S → Prop} (k : ∀ (cs : List Nat) r', cs.length ≤ 7 → Low cs → Dw sd tb (t + 8) r' → K (.lst (cs.map fun c => .str (one c))) ⟨[.fr (.adr sd), a1, .fr (.str z26), a3, a4, a5, .no, a7, a8, a9], some r', none⟩) :
    Ok (gLc (gRange1 (gCall m_law_next [] (DL.gCons (gVar 0) (DL.gCons (pur (.d (.int 8))) (pur []))))) [6] (tgN 6) (pur true) (gCall m_law_pick [] (DL.gCons (gVar 0) (DL.gCons (gVar 2) (pur [])))))
      ⟨[.fr (.adr sd), a1, .fr (.str z26), a3, a4, a5, .no, a7, a8, a9], some r, none⟩ K := by
  obtain ⟨n, r1, e1, hn, d1⟩ := next_ok h (by omega) (n := 8) (by decide) (by decide)
  refine lc_draw (sd := sd) (tb := tb) (t := t + 1) (fun k : Nat => D.int k) (List.range n) [.fr (.adr sd), a1, .fr (.str z26), a3, a4, a5, .no, a7, a8, a9] none (fun _ y => ∃ c : Nat, y = .str (one c) ∧ (97 ≤ c ∧ c ≤ 122)) 1 ?_
  walk_at "EV"
  refine ⟨r1, rfl, by simp; omega, rfl, d1, fun x hx r2 t2 h2 d2 => ⟨_, rfl, ?_⟩, fun ys r2 al d2 => ?_⟩
  · simp at h2
    obtain ⟨c, r3, e3, hc, d3⟩ := pickL_ok d2 (by omega)
    walk_at "EV"
    exact ⟨⟨c, rfl, hc⟩, r3, rfl, d3⟩
  · obtain ⟨cs, rfl, al2⟩ := al.typed (en := fun c => D.str (one c))
    have len := al2.len
    simp at len d2
    exact k cs r2 (by omega) (al2.right fun _ _ h => h) (d2.mono (by omega))
theorem base9 (h : Dw sd tb t r) (ht : t + 1000 < 2 ^ 40) {a1 a3 a4 a5 a6 a7 a8 : Sl} {K : D → S → Prop} (k : ∀ (cs : List Nat) r', cs.length ≤ 7 → Low cs → Dw sd tb (t + 8) r' → K (.lst (cs.map fun c => .str (one c))) ⟨[.fr (.adr sd), a1, .fr (.str z26), a3, a4, a5, a6, a7, a8, .no], some r', none⟩) :
    Ok (gLc (gRange1 (gCall m_law_next [] (DL.gCons (gVar 0) (DL.gCons (pur (.d (.int 8))) (pur []))))) [9] (tgN 9) (pur true) (gCall m_law_pick [] (DL.gCons (gVar 0) (DL.gCons (gVar 2) (pur [])))))
      ⟨[.fr (.adr sd), a1, .fr (.str z26), a3, a4, a5, a6, a7, a8, .no], some r, none⟩ K := by
  obtain ⟨n, r1, e1, hn, d1⟩ := next_ok h (by omega) (n := 8) (by decide) (by decide)
  refine lc_draw (sd := sd) (tb := tb) (t := t + 1) (fun k : Nat => D.int k) (List.range n) [.fr (.adr sd), a1, .fr (.str z26), a3, a4, a5, a6, a7, a8, .no] none (fun _ y => ∃ c : Nat, y = .str (one c) ∧ (97 ≤ c ∧ c ≤ 122)) 1 ?_
  walk_at "EV"
  refine ⟨r1, rfl, by simp; omega, rfl, d1, fun x hx r2 t2 h2 d2 => ⟨_, rfl, ?_⟩, fun ys r2 al d2 => ?_⟩
  · simp at h2
    obtain ⟨c, r3, e3, hc, d3⟩ := pickL_ok d2 (by omega)
    walk_at "EV"
    exact ⟨⟨c, rfl, hc⟩, r3, rfl, d3⟩
  · obtain ⟨cs, rfl, al2⟩ := al.typed (en := fun c => D.str (one c))
    have len := al2.len
    simp at len d2
    exact k cs r2 (by omega) (al2.right fun _ _ h => h) (d2.mono (by omega))
def NmAt (sh st : Int) (k : Nat) (z : Str) : Prop := ∃ cs : List Nat, z.cps.toList = cs ++ [97 + ((sh + st * k) % 26).toNat] ∧ cs.length ≤ 7 ∧ Low cs
theorem NmAt.nm {sh st : Int} {k : Nat} {z : Str} (h : NmAt sh st k z) : Nm z := by
  obtain ⟨cs, e, hl, lo⟩ := h
  have len : z.length = cs.length + 1 := by
    show z.cps.size = _
    rw [← Array.length_toList, e]
    simp
  have m : 0 ≤ (sh + st * k) % 26 ∧ (sh + st * k) % 26 < 26 := ⟨Int.emod_nonneg _ (by decide), Int.emod_lt_of_pos _ (by decide)⟩
  refine ⟨by omega, by omega, fun c hc => ?_⟩
  rw [e] at hc
  rcases List.mem_append.mp hc with h | h
  · exact lo c h
  · rw [List.mem_singleton] at h
    omega
theorem mod26_inj {s f : Int} {k j : Nat} (hs : s ∈ ([1, 3, 5, 7, 9, 11] : List Int)) (hk : k < 26) (hj : j < 26) (e : (f + s * k) % 26 = (f + s * j) % 26) : k = j := by
  simp only [List.mem_cons, List.not_mem_nil, or_false] at hs
  rcases hs with rfl | rfl | rfl | rfl | rfl | rfl <;> omega
theorem NmAt.inj {sh st : Int} {k j : Nat} {z : Str} (hs : st ∈ ([1, 3, 5, 7, 9, 11] : List Int)) (hk : k < 26) (hj : j < 26) (h : NmAt sh st k z) (h' : NmAt sh st j z) : k = j := by
  obtain ⟨cs, e, _⟩ := h
  obtain ⟨cs', e', _⟩ := h'
  have e2 := e.symm.trans e'
  have e3 := congrArg List.getLast? e2
  simp only [List.getLast?_append, List.getLast?_singleton, Option.some_or, Option.some.injEq] at e3
  have m : ∀ a : Int, 0 ≤ a % 26 := fun a => Int.emod_nonneg _ (by decide)
  have m1 := m (sh + st * k)
  have m2 := m (sh + st * j)
  exact mod26_inj (f := sh) hs hk hj (by omega)
theorem nodup_of_all2 {α β : Type} {P : α → β → Prop} {as : List α} {bs : List β} (h : All2 P as bs) (nd : as.Nodup) (inj : ∀ a ∈ as, ∀ a' ∈ as, ∀ b, P a b → P a' b → a = a') : bs.Nodup := by
  induction h with
  | nil => exact List.nodup_nil
  | cons p q ih =>
    rename_i a b as bs
    rw [List.nodup_cons] at nd ⊢
    refine ⟨fun hb => ?_, ih nd.2 fun x hx y hy => inj x (List.mem_cons_of_mem _ hx) y (List.mem_cons_of_mem _ hy)⟩
    have : ∃ a' ∈ as, P a' b := by
      clear ih nd inj p
      induction q with
      | nil => cases hb
      | cons p' q' ih' =>
        rcases List.mem_cons.mp hb with rfl | hb
        · exact ⟨_, List.mem_cons_self .., p'⟩
        · obtain ⟨x, hx, px⟩ := ih' hb
          exact ⟨x, List.mem_cons_of_mem _ hx, px⟩
    obtain ⟨a', ha', pa⟩ := this
    have e := inj a (List.mem_cons_self ..) a' (List.mem_cons_of_mem _ ha') b p pa
    subst e
    exact nd.1 ha'
structure Names (n : Nat) (zs : List Str) : Prop where
  len : zs.length = n
  nd : zs.Nodup
  nm : ∀ z ∈ zs, Nm z
theorem fadd_str {a b : Str} (h : a.length + b.length ≤ 16777216) : FAdd (.str a) (.str b) = .old (.str (a ++ b)) := if_pos h
theorem names_ok (h : Dw sd tb t r) (ht : t + 2000 < 2 ^ 40) {n : Nat} (hn : n ≤ 26) : ∃ (zs : List Str) (r' : Rs), m_law_names [.adr sd, .int n] (some r) = .ok (.lst (zs.map .str)) (some r') ∧ Names n zs ∧ Dw sd tb (t + 11 + 8 * n) r' := by
  obtain ⟨f, r1, e1, hf, d1⟩ := next_ok h (by omega) (n := 26) (by decide) (by decide)
  obtain ⟨i, x, r2, e2, hi, d2⟩ := pick_ok d1 (by omega) (xs := [.int 1, .int 3, .int 5, .int 7, .int 9, .int 11]) (by simp) (by simp)
  obtain ⟨al, r3, e3, hal, d3⟩ := next_ok d2 (by omega) (n := 2) (by decide) (by decide)
  obtain ⟨st, rfl, hst⟩ : ∃ st : Int, x = .int st ∧ st ∈ ([1, 3, 5, 7, 9, 11] : List Int) := by
    have hm := List.mem_of_getElem? hi
    simp only [List.mem_cons, List.not_mem_nil, or_false] at hm
    rcases hm with rfl | rfl | rfl | rfl | rfl | rfl <;> exact ⟨_, rfl, by simp⟩
  have hst2 : 0 ≤ st ∧ st ≤ 15 := by
    simp only [List.mem_cons, List.not_mem_nil, or_false] at hst
    omega
  have key : ∃ d rs', m_law_names [.adr sd, .int n] (some r) = .ok d rs' ∧ ∃ (zs : List Str) (r' : Rs), d = .lst (zs.map .str) ∧ rs' = some r' ∧ Names n zs ∧ Dw sd tb (t + 11 + 8 * n) r' := by
    refine mk_run ?_
    show Ok b_law_names ⟨[.fr (.adr sd), .fr (.int n), .no, .no, .no, .no, .no, .no, .no, .no], some r, none⟩ _
    unfold b_law_names
    refine e_seqS ⟨[.fr (.adr sd), .fr (.int n), .fr (.str z26), .no, .no, .no, .no, .no, .no, .no], some r, none⟩ ?_ ?_
    · walk_at "EV"
      exact ⟨rfl, rfl⟩
    refine e_seqS ⟨[.fr (.adr sd), .fr (.int n), .fr (.str z26), .fr (.int f), .fr (.int st), .fr (.int al), .no, .no, .no, .no], some r3, none⟩ ?_ ?_
    · walk_at "EV"
      exact ⟨rfl, rfl⟩
    refine e_seqE (fun s' => ∃ cs r4, s' = ⟨[.fr (.adr sd), .fr (.int n), .fr (.str z26), .fr (.int f), .fr (.int st), .fr (.int al), .no, .fr (.str ⟨List.toArray cs⟩), .ow (.lst []), .no], some r4, none⟩ ∧ cs.length ≤ 7 ∧ Low cs ∧ Dw sd tb (t + 11) r4) ?_ ?_
    · walk_at "EV"
      walk_at "EV"
      refine base6 d3 (by omega) fun cs r4 hcs low d4 => ?_
      walk_at "EV"
      first | (refine e_rv (fjoin_cs (by omega)) ?_) | skip
      walk_at "EV"
      exact ⟨rfl, cs, r4, rfl, hcs, low, d4.mono (by omega)⟩
    intro s' ⟨cs, r4, es, hcs, low, d4⟩
    subst es
    refine e_seqE (fun s' => ∃ (zs : List Str) (r' : Rs) (x6 x7 : Sl), s' = ⟨[.fr (.adr sd), .fr (.int n), .fr (.str z26), .fr (.int f), .fr (.int st), .fr (.int al), x6, x7, .ow (.lst (zs.map .str)), .no], some r', none⟩ ∧ All2 (NmAt f st) (List.range n) zs ∧ Dw sd tb (t + 11 + 8 * n) r') ?_ ?_
    · refine ok_forJ (fun k : Nat => D.int k) (List.range n) (fun pre s => ∃ (zs : List Str) (r' : Rs) (x6 : Sl) (cs : List Nat), s = ⟨[.fr (.adr sd), .fr (.int n), .fr (.str z26), .fr (.int f), .fr (.int st), .fr (.int al), x6, .fr (.str ⟨List.toArray cs⟩), .ow (.lst (zs.map .str)), .no], some r', none⟩ ∧ cs.length ≤ 7 ∧ Low cs ∧ All2 (NmAt f st) pre zs ∧ Dw sd tb (t + 11 + 8 * pre.length) r') ?_ (fun pre k suf s hx ⟨zs, r', x6, cs, es, hcs, low, al2, d5⟩ => ?_) fun s' ⟨zs, r', x6, cs, es, hcs, low, al2, d5⟩ => ?_
      · refine e_range ?_
        walk_at "EV"
        exact ⟨n, rfl, by omega, rfl, [], r4, .no, cs, rfl, hcs, low, .nil, by simpa using d4⟩
      · subst es
        refine ⟨_, rfl, ?_⟩
        have lx := congrArg List.length hx
        simp at lx
        have hkn : k < n := by
          have : k ∈ List.range n := by rw [hx]; simp
          exact List.mem_range.mp this
        refine e_seqE (fun s' => ∃ cs r', s' = ⟨[.fr (.adr sd), .fr (.int n), .fr (.str z26), .fr (.int f), .fr (.int st), .fr (.int al), .fr (.int k), .fr (.str ⟨List.toArray cs⟩), .ow (.lst (zs.map .str)), .no], some r', none⟩ ∧ cs.length ≤ 7 ∧ Low cs ∧ Dw sd tb (t + 11 + 8 * pre.length + 8) r') ?_ ?_
        · by_cases ha : (al : Int) = 0
          · refine e_bnd ?_
            walk_at "EV"
            walk_at "EV"
            refine base9 d5 (by omega) fun cs r6 hcs low d6 => ?_
            walk_at "EV"
            first | (refine e_rv (fjoin_cs (by omega)) ?_) | skip
            walk_at "EV"
            exact ⟨rfl, cs, r6, rfl, hcs, low, d6⟩
          · refine e_bnd ?_
            walk_at "EV"
            walk_at "EV"
            exact ⟨rfl, cs, r', rfl, hcs, low, d5.mono (by omega)⟩
        · intro s' ⟨cs, r6, es, hcs, low, d6⟩
          subst es
          have m : 0 ≤ ((f : Int) + st * k) % 26 ∧ ((f : Int) + st * k) % 26 < 26 := ⟨Int.emod_nonneg _ (by decide), Int.emod_lt_of_pos _ (by decide)⟩
          have lj : (((f : Int) + st * k) % 26).toNat < z26.cps.toList.length := by
            rw [z26_at]; simp; omega
          have ej : z26.cps.toList[(((f : Int) + st * k) % 26).toNat]? = some (97 + (((f : Int) + st * k) % 26).toNat) := by
            rw [z26_at, List.getElem?_map, List.getElem?_range (by omega)]; rfl
          walk_at "EV"
          refine e_app rfl ?_
          walk_at "EV"
          first | (refine e_rv (fget_str (by rw [z26_len]; omega) (Int.toNat_of_nonneg m.1).symm ej) ?_) | skip
          walk_at "EV"
          refine e_rv (fadd_str (by
            show (List.toArray cs).size + 1 ≤ 16777216
            simp; omega)) ?_
          walk_at "EV"
          refine ⟨_, _, rfl, rfl, by have := al2.len; simp; omega, ?_⟩
          walk_at "EV"
          refine ⟨zs ++ [⟨cs.toArray⟩ ++ one (97 + (((f : Int) + st * k) % 26).toNat)], r6, .fr (.int k), cs, ?_, hcs, low, al2.snoc ⟨cs, ?_, hcs, low⟩, d6.mono (by simp; omega)⟩
          · rw [List.map_append]
            rfl
          · show (cs.toArray ++ #[97 + (((f : Int) + st * k) % 26).toNat]).toList = _
            simp
      · exact ⟨rfl, zs, r', x6, _, es, al2, by simpa using d5⟩
    · intro s' ⟨zs, r', x6, x7, es, al2, d5⟩
      subst es
      walk_at "EV"
      exact ⟨zs, r', rfl, rfl, ⟨by simpa using al2.len, nodup_of_all2 al2 List.nodup_range fun a ha b hb z h1 h2 => NmAt.inj hst (by have := List.mem_range.mp ha; omega) (by have := List.mem_range.mp hb; omega) h1 h2, al2.right fun _ _ h => h.nm⟩, d5⟩
  obtain ⟨d, rs', e, zs, r', rfl, rfl, e3, e4⟩ := key
  exact ⟨zs, r', e, e3, e4⟩
end
end Lw
end
section
namespace Lw
open PySem PySem.Spec PyProof.Rows L2 DL
theorem it_Write_NoneType : isT tab_Write .non = some false := (by decide +kernel : tab_Write.lookup (.b "NoneType") = some false)
instance i_it_Write_NoneType : DL.IsB (isT tab_Write .non) false := ⟨it_Write_NoneType⟩
theorem it_Write_bool {x : Bool} : isT tab_Write (.bl x) = some false := (by decide +kernel : tab_Write.lookup (.b "bool") = some false)
instance i_it_Write_bool {x : Bool} : DL.IsB (isT tab_Write (.bl x)) false := ⟨it_Write_bool⟩
theorem it_Write_int {x : Int} : isT tab_Write (.int x) = some false := (by decide +kernel : tab_Write.lookup (.b "int") = some false)
instance i_it_Write_int {x : Int} : DL.IsB (isT tab_Write (.int x)) false := ⟨it_Write_int⟩
theorem it_Write_str {x : Str} : isT tab_Write (.str x) = some false := (by decide +kernel : tab_Write.lookup (.b "str") = some false)
instance i_it_Write_str {x : Str} : DL.IsB (isT tab_Write (.str x)) false := ⟨it_Write_str⟩
theorem it_Write_list {x : List D} : isT tab_Write (.lst x) = some false := (by decide +kernel : tab_Write.lookup (.b "list") = some false)
instance i_it_Write_list {x : List D} : DL.IsB (isT tab_Write (.lst x)) false := ⟨it_Write_list⟩
theorem it_Write_tuple {x : List D} : isT tab_Write (.tup x) = some false := (by decide +kernel : tab_Write.lookup (.b "tuple") = some false)
instance i_it_Write_tuple {x : List D} : DL.IsB (isT tab_Write (.tup x)) false := ⟨it_Write_tuple⟩
theorem it_Write_dict {x : List (Key × D)} : isT tab_Write (.dic x) = some false := (by decide +kernel : tab_Write.lookup (.b "dict") = some false)
instance i_it_Write_dict {x : List (Key × D)} : DL.IsB (isT tab_Write (.dic x)) false := ⟨it_Write_dict⟩
theorem it_Write_Write {x : List (Str × D)} : isT tab_Write (.ins "Write" x) = some true := (by decide +kernel : tab_Write.lookup (.own "Write") = some true)
instance i_it_Write_Write {x : List (Str × D)} : DL.IsB (isT tab_Write (.ins "Write" x)) true := ⟨it_Write_Write⟩
theorem it_bool_NoneType : isT tab_bool .non = some false := (by decide +kernel : tab_bool.lookup (.b "NoneType") = some false)
instance i_it_bool_NoneType : DL.IsB (isT tab_bool .non) false := ⟨it_bool_NoneType⟩
theorem it_bool_bool {x : Bool} : isT tab_bool (.bl x) = some true := (by decide +kernel : tab_bool.lookup (.b "bool") = some true)
instance i_it_bool_bool {x : Bool} : DL.IsB (isT tab_bool (.bl x)) true := ⟨it_bool_bool⟩
theorem it_bool_int {x : Int} : isT tab_bool (.int x) = some false := (by decide +kernel : tab_bool.lookup (.b "int") = some false)
instance i_it_bool_int {x : Int} : DL.IsB (isT tab_bool (.int x)) false := ⟨it_bool_int⟩
theorem it_bool_str {x : Str} : isT tab_bool (.str x) = some false := (by decide +kernel : tab_bool.lookup (.b "str") = some false)
instance i_it_bool_str {x : Str} : DL.IsB (isT tab_bool (.str x)) false := ⟨it_bool_str⟩
theorem it_bool_list {x : List D} : isT tab_bool (.lst x) = some false := (by decide +kernel : tab_bool.lookup (.b "list") = some false)
instance i_it_bool_list {x : List D} : DL.IsB (isT tab_bool (.lst x)) false := ⟨it_bool_list⟩
theorem it_bool_tuple {x : List D} : isT tab_bool (.tup x) = some false := (by decide +kernel : tab_bool.lookup (.b "tuple") = some false)
instance i_it_bool_tuple {x : List D} : DL.IsB (isT tab_bool (.tup x)) false := ⟨it_bool_tuple⟩
theorem it_bool_dict {x : List (Key × D)} : isT tab_bool (.dic x) = some false := (by decide +kernel : tab_bool.lookup (.b "dict") = some false)
instance i_it_bool_dict {x : List (Key × D)} : DL.IsB (isT tab_bool (.dic x)) false := ⟨it_bool_dict⟩
theorem it_bool_Write {x : List (Str × D)} : isT tab_bool (.ins "Write" x) = some false := (by decide +kernel : tab_bool.lookup (.own "Write") = some false)
instance i_it_bool_Write {x : List (Str × D)} : DL.IsB (isT tab_bool (.ins "Write" x)) false := ⟨it_bool_Write⟩
theorem it_dict_NoneType : isT tab_dict .non = some false := (by decide +kernel : tab_dict.lookup (.b "NoneType") = some false)
instance i_it_dict_NoneType : DL.IsB (isT tab_dict .non) false := ⟨it_dict_NoneType⟩
theorem it_dict_bool {x : Bool} : isT tab_dict (.bl x) = some false := (by decide +kernel : tab_dict.lookup (.b "bool") = some false)
instance i_it_dict_bool {x : Bool} : DL.IsB (isT tab_dict (.bl x)) false := ⟨it_dict_bool⟩
theorem it_dict_int {x : Int} : isT tab_dict (.int x) = some false := (by decide +kernel : tab_dict.lookup (.b "int") = some false)
instance i_it_dict_int {x : Int} : DL.IsB (isT tab_dict (.int x)) false := ⟨it_dict_int⟩
theorem it_dict_str {x : Str} : isT tab_dict (.str x) = some false := (by decide +kernel : tab_dict.lookup (.b "str") = some false)
instance i_it_dict_str {x : Str} : DL.IsB (isT tab_dict (.str x)) false := ⟨it_dict_str⟩
theorem it_dict_list {x : List D} : isT tab_dict (.lst x) = some false := (by decide +kernel : tab_dict.lookup (.b "list") = some false)
instance i_it_dict_list {x : List D} : DL.IsB (isT tab_dict (.lst x)) false := ⟨it_dict_list⟩
theorem it_dict_tuple {x : List D} : isT tab_dict (.tup x) = some false := (by decide +kernel : tab_dict.lookup (.b "tuple") = some false)
instance i_it_dict_tuple {x : List D} : DL.IsB (isT tab_dict (.tup x)) false := ⟨it_dict_tuple⟩
theorem it_dict_dict {x : List (Key × D)} : isT tab_dict (.dic x) = some true := (by decide +kernel : tab_dict.lookup (.b "dict") = some true)
instance i_it_dict_dict {x : List (Key × D)} : DL.IsB (isT tab_dict (.dic x)) true := ⟨it_dict_dict⟩
theorem it_dict_Write {x : List (Str × D)} : isT tab_dict (.ins "Write" x) = some false := (by decide +kernel : tab_dict.lookup (.own "Write") = some false)
instance i_it_dict_Write {x : List (Str × D)} : DL.IsB (isT tab_dict (.ins "Write" x)) false := ⟨it_dict_Write⟩
theorem it_int_NoneType : isT tab_int .non = some false := (by decide +kernel : tab_int.lookup (.b "NoneType") = some false)
instance i_it_int_NoneType : DL.IsB (isT tab_int .non) false := ⟨it_int_NoneType⟩
theorem it_int_bool {x : Bool} : isT tab_int (.bl x) = some true := (by decide +kernel : tab_int.lookup (.b "bool") = some true)
instance i_it_int_bool {x : Bool} : DL.IsB (isT tab_int (.bl x)) true := ⟨it_int_bool⟩
theorem it_int_int {x : Int} : isT tab_int (.int x) = some true := (by decide +kernel : tab_int.lookup (.b "int") = some true)
instance i_it_int_int {x : Int} : DL.IsB (isT tab_int (.int x)) true := ⟨it_int_int⟩
theorem it_int_str {x : Str} : isT tab_int (.str x) = some false := (by decide +kernel : tab_int.lookup (.b "str") = some false)
instance i_it_int_str {x : Str} : DL.IsB (isT tab_int (.str x)) false := ⟨it_int_str⟩
theorem it_int_list {x : List D} : isT tab_int (.lst x) = some false := (by decide +kernel : tab_int.lookup (.b "list") = some false)
instance i_it_int_list {x : List D} : DL.IsB (isT tab_int (.lst x)) false := ⟨it_int_list⟩
theorem it_int_tuple {x : List D} : isT tab_int (.tup x) = some false := (by decide +kernel : tab_int.lookup (.b "tuple") = some false)
instance i_it_int_tuple {x : List D} : DL.IsB (isT tab_int (.tup x)) false := ⟨it_int_tuple⟩
theorem it_int_dict {x : List (Key × D)} : isT tab_int (.dic x) = some false := (by decide +kernel : tab_int.lookup (.b "dict") = some false)
instance i_it_int_dict {x : List (Key × D)} : DL.IsB (isT tab_int (.dic x)) false := ⟨it_int_dict⟩
theorem it_int_Write {x : List (Str × D)} : isT tab_int (.ins "Write" x) = some false := (by decide +kernel : tab_int.lookup (.own "Write") = some false)
instance i_it_int_Write {x : List (Str × D)} : DL.IsB (isT tab_int (.ins "Write" x)) false := ⟨it_int_Write⟩
theorem it_str_NoneType : isT tab_str .non = some false := (by decide +kernel : tab_str.lookup (.b "NoneType") = some false)
instance i_it_str_NoneType : DL.IsB (isT tab_str .non) false := ⟨it_str_NoneType⟩
theorem it_str_bool {x : Bool} : isT tab_str (.bl x) = some false := (by decide +kernel : tab_str.lookup (.b "bool") = some false)
instance i_it_str_bool {x : Bool} : DL.IsB (isT tab_str (.bl x)) false := ⟨it_str_bool⟩
theorem it_str_int {x : Int} : isT tab_str (.int x) = some false := (by decide +kernel : tab_str.lookup (.b "int") = some false)
instance i_it_str_int {x : Int} : DL.IsB (isT tab_str (.int x)) false := ⟨it_str_int⟩
theorem it_str_str {x : Str} : isT tab_str (.str x) = some true := (by decide +kernel : tab_str.lookup (.b "str") = some true)
instance i_it_str_str {x : Str} : DL.IsB (isT tab_str (.str x)) true := ⟨it_str_str⟩
theorem it_str_list {x : List D} : isT tab_str (.lst x) = some false := (by decide +kernel : tab_str.lookup (.b "list") = some false)
instance i_it_str_list {x : List D} : DL.IsB (isT tab_str (.lst x)) false := ⟨it_str_list⟩
theorem it_str_tuple {x : List D} : isT tab_str (.tup x) = some false := (by decide +kernel : tab_str.lookup (.b "tuple") = some false)
instance i_it_str_tuple {x : List D} : DL.IsB (isT tab_str (.tup x)) false := ⟨it_str_tuple⟩
theorem it_str_dict {x : List (Key × D)} : isT tab_str (.dic x) = some false := (by decide +kernel : tab_str.lookup (.b "dict") = some false)
instance i_it_str_dict {x : List (Key × D)} : DL.IsB (isT tab_str (.dic x)) false := ⟨it_str_dict⟩
theorem it_str_Write {x : List (Str × D)} : isT tab_str (.ins "Write" x) = some false := (by decide +kernel : tab_str.lookup (.own "Write") = some false)
instance i_it_str_Write {x : List (Str × D)} : DL.IsB (isT tab_str (.ins "Write" x)) false := ⟨it_str_Write⟩
end Lw
end
section
set_option maxHeartbeats 8000000
namespace DL
open PySem PySem.Spec PyProof.Rows L2
theorem fdict_pairs {ks : List (Key × D)} (nd : (ks.map (·.1)).Nodup) : FDict [.lst (ks.map fun p => D.tup [kD p.1, p.2])] = .nw (.dic ks) := by
  unfold FDict fn1
  dsimp only
  unfold FDict1
  dsimp only
  rw [pairsD_of]
  dsimp only
  rw [mergeD_new ks [] (by simpa using nd)]
  rfl
theorem cutD_take {xs : List D} {k : Nat} : DL.cutD xs none (some (k : Int)) = xs.take k := by
  unfold DL.cutD
  rw [HT.sIx_nat, HT.sIx_none]
  simp only [List.drop_zero, Nat.sub_zero]
  rw [Nat.min_def]
  split
  · rfl
  · rw [List.take_of_length_le (Nat.le_refl _), List.take_of_length_le (by omega)]
theorem fsl_takeI {xs : List Int} {k : Nat} : FSl (.lst (xs.map D.int)) none (some (k : Int)) = .nw (.lst ((xs.take k).map D.int)) := by
  show Rv.nw (.lst (DL.cutD _ _ _)) = _
  rw [cutD_take, List.map_take]
instance i_fsl_takeI {xs : List Int} {k : Nat} : DL.RvN (FSl (.lst (xs.map D.int)) none (some (k : Int))) (.lst ((xs.take k).map D.int)) := ⟨fsl_takeI⟩
theorem fsl_takeS {xs : List Str} {k : Nat} : FSl (.lst (xs.map D.str)) none (some (k : Int)) = .nw (.lst ((xs.take k).map D.str)) := by
  show Rv.nw (.lst (DL.cutD _ _ _)) = _
  rw [cutD_take, List.map_take]
instance i_fsl_takeS {xs : List Str} {k : Nat} : DL.RvN (FSl (.lst (xs.map D.str)) none (some (k : Int))) (.lst ((xs.take k).map D.str)) := ⟨fsl_takeS⟩
def dII (cs : List (Int × Int)) : List (Key × D) := cs.map fun p => (.inl p.1, .int p.2)
theorem dII_keys (cs : List (Int × Int)) : (dII cs).map (·.1) = (cs.map (·.1)).map Sum.inl := by unfold dII; rw [List.map_map, List.map_map]; rfl
theorem dII_nd {cs : List (Int × Int)} (h : (cs.map (·.1)).Nodup) : ((dII cs).map (·.1)).Nodup := by
  rw [dII_keys]
  exact nodup_map (fun a _ b _ e => Sum.inl.inj e) h
theorem dII_pairs (cs : List (Int × Int)) : (dII cs).map (fun p => D.tup [kD p.1, p.2]) = cs.map fun p => D.tup [.int p.1, .int p.2] := by unfold dII; rw [List.map_map]; rfl
structure Wt where
  nm : Str
  cs : List (Int × Int)
  rq : Bool
def eW (w : Wt) : D := .tup [.str w.nm, .dic (dII w.cs), .bl w.rq]
theorem eW_0 {w : Wt} : FGet (eW w) (.int 0) = .old (.str w.nm) := fget_t0
instance i_eW_0 {w : Wt} : DL.RvO (FGet (eW w) (.int 0)) (.str w.nm) := ⟨eW_0⟩
theorem eW_1 {w : Wt} : FGet (eW w) (.int 1) = .old (.dic (dII w.cs)) := fget_t1
instance i_eW_1 {w : Wt} : DL.RvO (FGet (eW w) (.int 1)) (.dic (dII w.cs)) := ⟨eW_1⟩
theorem eW_2 {w : Wt} : FGet (eW w) (.int 2) = .old (.bl w.rq) := fget_t2
instance i_eW_2 {w : Wt} : DL.RvO (FGet (eW w) (.int 2)) (.bl w.rq) := ⟨eW_2⟩
theorem lookI {cs : List (Int × Int)} (nd : (cs.map (·.1)).Nodup) {p : Int × Int} (h : p ∈ cs) : lookD (dII cs) (.inl p.1) = some (.int p.2) := lookD_mem (dII_nd nd) (List.mem_map.mpr ⟨p, h, rfl⟩)
theorem kD_dII (cs : List (Int × Int)) : (dII cs).map (fun p => kD p.1) = (cs.map (·.1)).map D.int := by unfold dII; rw [List.map_map, List.map_map]; rfl
def eF (f : Str × Str) : D := .tup [.str f.1, .str f.2]
def dIL (bs : List (Int × List Int)) : List (Key × D) := bs.map fun p => (.inl p.1, .lst (p.2.map .int))
structure Rw where
  zs : List Int
  ws : List Wt
  fs : List (Str × Str)
  bs : List (Int × List Int)
  es : List (Int × List Int)
def eR (R : Rw) : D := .tup [.lst (R.ws.map eW), .lst (R.fs.map eF), .dic (dIL R.bs), .dic (dIL R.es)]
def wD (w : Wt) : D := .ins "Write" [("name", .str w.nm), ("own_cells", .dic (dII w.cs)), ("own_need", .bl w.rq)]
def dTL (bs : List (Int × List Int)) : List (Key × D) := bs.map fun p => (.inl p.1, .tup (p.2.map .int))
structure Cs where
  ws : List Wt
  fs : List (Str × Str)
  bs : List (Int × List Int)
  es : List (Int × List Int)
def Cs.names (C : Cs) : List Str := C.ws.map (·.nm)
def Cs.need (C : Cs) : List Str := (C.ws.filter fun w => w.rq || decide (w.nm ∈ C.fs.map (·.2))).map (·.nm)
def dWs (ws : List Wt) : List (Key × D) := ws.map fun w => (.inr w.nm, wD w)
def cD (C : Cs) : D := .ins "Case" [("table", .dic (dWs C.ws)), ("pairs", .tup (C.fs.map eF)), ("first_allowed", .dic (dTL C.bs)), ("last_allowed", .dic (dTL C.es)), ("needed", .tup (C.need.map .str)), ("own_sets", .lst (C.ws.map fun w => .tup [.str w.nm, .dic (dII w.cs)]))]
section
variable {w : Wt} {C : Cs}
theorem gw_name : getF "Write" "name" (wD w) = some (.str w.nm) := by
  unfold getF wD
  dsimp only
  rw [if_pos rfl, look1]
instance i_gw_name : DL.OpA (getF "Write" "name" (wD w)) (.str w.nm) := ⟨gw_name⟩
theorem gw_cells : getF "Write" "own_cells" (wD w) = some (.dic (dII w.cs)) := by
  unfold getF wD
  dsimp only
  rw [if_pos rfl, lookN (by decide +kernel), look1]
instance i_gw_cells : DL.OpA (getF "Write" "own_cells" (wD w)) (.dic (dII w.cs)) := ⟨gw_cells⟩
theorem gw_need : getF "Write" "own_need" (wD w) = some (.bl w.rq) := by
  unfold getF wD
  dsimp only
  rw [if_pos rfl, lookN (by decide +kernel), lookN (by decide +kernel), look1]
instance i_gw_need : DL.OpA (getF "Write" "own_need" (wD w)) (.bl w.rq) := ⟨gw_need⟩
theorem gc_table : getF "Case" "table" (cD C) = some (.dic (dWs C.ws)) := by
  unfold getF cD
  dsimp only
  rw [if_pos rfl, look1]
instance i_gc_table : DL.OpA (getF "Case" "table" (cD C)) (.dic (dWs C.ws)) := ⟨gc_table⟩
theorem gc_pairs : getF "Case" "pairs" (cD C) = some (.tup (C.fs.map eF)) := by
  unfold getF cD
  dsimp only
  rw [if_pos rfl, lookN (by decide +kernel), look1]
instance i_gc_pairs : DL.OpA (getF "Case" "pairs" (cD C)) (.tup (C.fs.map eF)) := ⟨gc_pairs⟩
theorem gc_first : getF "Case" "first_allowed" (cD C) = some (.dic (dTL C.bs)) := by
  unfold getF cD
  dsimp only
  rw [if_pos rfl, lookN (by decide +kernel), lookN (by decide +kernel), look1]
instance i_gc_first : DL.OpA (getF "Case" "first_allowed" (cD C)) (.dic (dTL C.bs)) := ⟨gc_first⟩
theorem gc_last : getF "Case" "last_allowed" (cD C) = some (.dic (dTL C.es)) := by
  unfold getF cD
  dsimp only
  rw [if_pos rfl, lookN (by decide +kernel), lookN (by decide +kernel), lookN (by decide +kernel), look1]
instance i_gc_last : DL.OpA (getF "Case" "last_allowed" (cD C)) (.dic (dTL C.es)) := ⟨gc_last⟩
theorem gc_needed : getF "Case" "needed" (cD C) = some (.tup (C.need.map .str)) := by
  unfold getF cD
  dsimp only
  rw [if_pos rfl, lookN (by decide +kernel), lookN (by decide +kernel), lookN (by decide +kernel), lookN (by decide +kernel), look1]
instance i_gc_needed : DL.OpA (getF "Case" "needed" (cD C)) (.tup (C.need.map .str)) := ⟨gc_needed⟩
theorem iw_Write : isIns "Write" (wD w) = true := by unfold isIns wD; exact decide_eq_true rfl
instance i_iw_Write : DL.Hd (isIns "Write" (wD w) = true) := ⟨iw_Write⟩
theorem ic_Case : isIns "Case" (cD C) = true := by unfold isIns cD; exact decide_eq_true rfl
instance i_ic_Case : DL.Hd (isIns "Case" (cD C) = true) := ⟨ic_Case⟩
theorem okM_case {mn : Str} (h : mn ∉ (["table", "pairs", "first_allowed", "last_allowed", "needed", "own_sets"] : List Str)) : okM "Case" mn (cD C) = true := by
  unfold okM cD
  simp only [List.mem_cons, not_or, List.not_mem_nil, not_false_eq_true, and_true] at h
  obtain ⟨h1, h2, h3, h4, h5, h6⟩ := h
  dsimp only
  rw [lookN h1, lookN h2, lookN h3, lookN h4, lookN h5, lookN h6]
  rfl
theorem om_write : okM "Case" "write" (cD C) = true := okM_case (by decide +kernel)
instance i_om_write : DL.Hd (okM "Case" "write" (cD C) = true) := ⟨om_write⟩
theorem om_initial : okM "Case" "initial" (cD C) = true := okM_case (by decide +kernel)
instance i_om_initial : DL.Hd (okM "Case" "initial" (cD C) = true) := ⟨om_initial⟩
theorem om_final : okM "Case" "final" (cD C) = true := okM_case (by decide +kernel)
instance i_om_final : DL.Hd (okM "Case" "final" (cD C) = true) := ⟨om_final⟩
theorem om_allowed : okM "Case" "allowed" (cD C) = true := okM_case (by decide +kernel)
instance i_om_allowed : DL.Hd (okM "Case" "allowed" (cD C) = true) := ⟨om_allowed⟩
theorem om_setting : okM "Case" "setting" (cD C) = true := okM_case (by decide +kernel)
instance i_om_setting : DL.Hd (okM "Case" "setting" (cD C) = true) := ⟨om_setting⟩
theorem om_later_of : okM "Case" "later_of" (cD C) = true := okM_case (by decide +kernel)
instance i_om_later_of : DL.Hd (okM "Case" "later_of" (cD C) = true) := ⟨om_later_of⟩
end
theorem lookD_map {α : Type} {kf : α → Key} {f : α → D} {k : Key} : ∀ {xs : List α}, lookD (xs.map fun x => (kf x, f x)) k = (xs.find? fun x => decide (kf x = k)).map f
  | [] => rfl
  | x :: r => by
    unfold lookD
    rw [List.map_cons, List.find?_cons, List.find?_cons]
    by_cases h : kf x = k
    · simp [h]
    · simp only [h, decide_false]
      exact lookD_map (xs := r)
theorem dII_some {cs : List (Int × Int)} {c : Int} : (lookD (dII cs) (.inl c)).isSome = decide (c ∈ cs.map (·.1)) := by
  unfold dII
  rw [lookD_map, Option.isSome_map]
  rw [Bool.eq_iff_iff, List.find?_isSome, decide_eq_true_iff, List.mem_map]
  constructor
  · rintro ⟨p, hp, e⟩
    exact ⟨p, hp, Sum.inl.inj (of_decide_eq_true e)⟩
  · rintro ⟨p, hp, e⟩
    exact ⟨p, hp, decide_eq_true (by rw [e])⟩
theorem dWs_some {ws : List Wt} {z : Str} : (lookD (dWs ws) (.inr z)).isSome = decide (z ∈ ws.map (·.nm)) := by
  unfold dWs
  rw [lookD_map, Option.isSome_map]
  rw [Bool.eq_iff_iff, List.find?_isSome, decide_eq_true_iff, List.mem_map]
  constructor
  · rintro ⟨p, hp, e⟩
    exact ⟨p, hp, Sum.inr.inj (of_decide_eq_true e)⟩
  · rintro ⟨p, hp, e⟩
    exact ⟨p, hp, decide_eq_true (by rw [e])⟩
theorem fin_dII {cs : List (Int × Int)} {c : Int} : FIn (.int c) (.dic (dII cs)) = .old (.bl (decide (c ∈ cs.map (·.1)))) := by rw [← dII_some]; rfl
instance i_fin_dII {cs : List (Int × Int)} {c : Int} : DL.RvO (FIn (.int c) (.dic (dII cs))) (.bl (decide (c ∈ cs.map (·.1)))) := ⟨fin_dII⟩
theorem fni_dII {cs : List (Int × Int)} {c : Int} : FNotIn (.int c) (.dic (dII cs)) = .old (.bl (!decide (c ∈ cs.map (·.1)))) := by rw [← dII_some]; rfl
instance i_fni_dII {cs : List (Int × Int)} {c : Int} : DL.RvO (FNotIn (.int c) (.dic (dII cs))) (.bl (!decide (c ∈ cs.map (·.1)))) := ⟨fni_dII⟩
theorem fin_dWs {ws : List Wt} {c : Str} : FIn (.str c) (.dic (dWs ws)) = .old (.bl (decide (c ∈ ws.map (·.nm)))) := by rw [← dWs_some]; rfl
instance i_fin_dWs {ws : List Wt} {c : Str} : DL.RvO (FIn (.str c) (.dic (dWs ws))) (.bl (decide (c ∈ ws.map (·.nm)))) := ⟨fin_dWs⟩
theorem fni_dWs {ws : List Wt} {c : Str} : FNotIn (.str c) (.dic (dWs ws)) = .old (.bl (!decide (c ∈ ws.map (·.nm)))) := by rw [← dWs_some]; rfl
instance i_fni_dWs {ws : List Wt} {c : Str} : DL.RvO (FNotIn (.str c) (.dic (dWs ws))) (.bl (!decide (c ∈ ws.map (·.nm)))) := ⟨fni_dWs⟩
theorem kD_dWs (ws : List Wt) : (dWs ws).map (fun p => kD p.1) = (ws.map (·.nm)).map D.str := by unfold dWs; rw [List.map_map, List.map_map]; rfl
theorem ftuple_dWs {ws : List Wt} : FTuple [.dic (dWs ws)] = .nw (.tup ((ws.map (·.nm)).map .str)) := by rw [← kD_dWs]; rfl
instance i_ftuple_dWs {ws : List Wt} : DL.RvN (FTuple [.dic (dWs ws)]) (.tup ((ws.map (·.nm)).map .str)) := ⟨ftuple_dWs⟩
theorem bls_map : ∀ bs : List Bool, blsD (bs.map D.bl) = some bs
  | [] => rfl
  | b :: r => by
    show (blsD (r.map D.bl)).map _ = _
    rw [bls_map r]; rfl
theorem fall_map {α : Type} {f : α → Bool} {xs : List α} : FAll [.lst (xs.map fun x => .bl (f x))] = .old (.bl (xs.all f)) := by
  have e : (xs.map fun x => D.bl (f x)) = (xs.map f).map D.bl := by rw [List.map_map]; rfl
  show (match blsD _ with | some bs => Rv.old (.bl (bs.all id)) | none => .no) = _
  rw [e, bls_map]
  dsimp only
  rw [List.all_map]
  rfl
instance i_fall_map {α : Type} {f : α → Bool} {xs : List α} : DL.RvO (FAll [.lst (xs.map fun x => .bl (f x))]) (.bl (xs.all f)) := ⟨fall_map⟩
theorem feq_lst_strs {xs : List Str} : FEq (.lst (xs.map D.str)) (.lst []) = .old (.bl (decide (xs = []))) := by
  rw [feq_nil]
  simp
instance i_feq_lst_strs {xs : List Str} : DL.RvO (FEq (.lst (xs.map D.str)) (.lst [])) (.bl (decide (xs = []))) := ⟨feq_lst_strs⟩
end DL
namespace Lw
open PySem PySem.Spec PyProof.Rows L2 DL
section
variable {rs : Option Rs}
theorem is_number_ok {x lo hi : Int} : m_is_number [.int x, .int lo, .int hi] rs = .ok (.bl (decide (lo ≤ x ∧ x ≤ hi))) rs := by
  refine mk_eq ?_
  show Ok b_is_number ⟨[.fr (.int x), .fr (.int lo), .fr (.int hi)], rs, none⟩ _
  unfold b_is_number
  by_cases h1 : lo ≤ x
  · walk_at "EV"
    refine ⟨?_, rfl⟩
    simp [h1]
  · walk_at "EV"
    refine ⟨?_, rfl⟩
    simp [h1]
theorem is_cell_ok {x : Int} : m_is_cell [.int x] rs = .ok (.bl (decide (0 ≤ x ∧ x ≤ 15))) rs := by
  refine mk_eq ?_
  show Ok b_is_cell ⟨[.fr (.int x)], rs, none⟩ _
  unfold b_is_cell
  walk_at "EV"
  first | (refine r_call is_number_ok ?_) | skip
  walk_at "EV"
  exact ⟨rfl, rfl⟩
theorem is_value_ok {x : Int} : m_is_value [.int x] rs = .ok (.bl (decide (0 ≤ x ∧ x ≤ 9))) rs := by
  refine mk_eq ?_
  show Ok b_is_value ⟨[.fr (.int x)], rs, none⟩ _
  unfold b_is_value
  walk_at "EV"
  first | (refine r_call is_number_ok ?_) | skip
  walk_at "EV"
  exact ⟨rfl, rfl⟩
theorem wneed_ok {w : Wt} : m_Write_required [wD w] rs = .ok (.bl w.rq) rs := by
  refine mk_eq ?_
  show Ok b_Write_required ⟨[.fr (wD w)], rs, none⟩ _
  unfold b_Write_required
  walk_at "EV"
  exact ⟨rfl, rfl⟩
theorem feF0 {f : Str × Str} : FGet (eF f) (.int 0) = .old (.str f.1) := fget_t0
instance i_feF0 {f : Str × Str} : DL.RvO (FGet (eF f) (.int 0)) (.str f.1) := ⟨feF0⟩
theorem feF1 {f : Str × Str} : FGet (eF f) (.int 1) = .old (.str f.2) := fget_t1
instance i_feF1 {f : Str × Str} : DL.RvO (FGet (eF f) (.int 1)) (.str f.2) := ⟨feF1⟩
end
end Lw
namespace DL
open PySem PySem.Spec PyProof.Rows L2
def leS (a b : Str) : Bool := leD (.str a) (.str b)
def ltS (a b : Str) : Bool := ltD (.str a) (.str b)
def sortS (xs : List Str) : List Str := xs.mergeSort leS
theorem sortS_map (xs : List Str) : (xs.map D.str).mergeSort leD = (sortS xs).map D.str := map_sort (fun _ _ => rfl) xs
theorem fsorted_strs {xs : List Str} : FSorted [.lst (xs.map D.str)] = .nw (.lst ((sortS xs).map D.str)) := by
  unfold FSorted itemsD
  dsimp only
  rw [if_pos (sortable_strs xs), sortS_map]
instance i_fsorted_strs {xs : List Str} : DL.RvN (FSorted [.lst (xs.map D.str)]) (.lst ((sortS xs).map D.str)) := ⟨fsorted_strs⟩
def addF (acc : List (Str × Str)) (f : Str × Str) : List (Str × Str) := if f ∈ acc then acc else acc ++ [f]
def dedF (fs : List (Str × Str)) : List (Str × Str) := fs.foldl addF []
def leF (f g : Str × Str) : Bool := leD (eF f) (eF g)
def sortF (fs : List (Str × Str)) : List (Str × Str) := (dedF fs).mergeSort leF
theorem fin_low {c : Nat} (h : 97 ≤ c ∧ c ≤ 122) : FIn (.str (one c)) (.str (Str.ofString "abcdefghijklmnopqrstuvwxyz")) = .old (.bl true) := by
  have key : ∀ k : Fin 26, inD (.str (one (97 + k.val))) (.str (Str.ofString "abcdefghijklmnopqrstuvwxyz")) = some true := by decide +kernel
  have e := key ⟨c - 97, by omega⟩
  have e2 : 97 + (c - 97) = c := by omega
  dsimp only at e
  rw [e2] at e
  unfold FIn
  rw [e]; rfl
theorem eqKv_nil (f : D → D → Option Bool) : ∀ {p : Key × D} {ks : List (Key × D)}, eqKvD f [] (p :: ks) = some false
  | (k, d), [] => rfl
  | (k, d), p :: ks => by
    unfold eqKvD
    rw [eqKv_nil f (p := p) (ks := ks)]
    rfl
theorem feq_dic_nil {ks : List (Key × D)} : FEq (.dic ks) (.dic []) = .old (.bl (decide (ks = []))) := by
  unfold FEq eqD
  rw [dEqN]
  cases ks with
  | nil => rfl
  | cons p r => rw [eqKv_nil]; simp [rvB]
instance i_feq_dic_nil {ks : List (Key × D)} : DL.RvO (FEq (.dic ks) (.dic [])) (.bl (decide (ks = []))) := ⟨feq_dic_nil⟩
def leW (a b : Wt) : Bool := leS a.nm b.nm
def sortW (ws : List Wt) : List Wt := ws.mergeSort leW
def normB (bs : List (Int × List Int)) : List (Int × List Int) := bs.map fun p => (p.1, sortI (dedI p.2))
end DL
namespace Lw
open PySem PySem.Spec PyProof.Rows L2 DL
section
variable {rs : Option Rs}
theorem is_name_ok {z : Str} (h : Nm z) : m_is_name [.str z] rs = .ok (.bl true) rs := by
  have hl := h.lo
  have hh := h.hi
  refine mk_eq ?_
  show Ok b_is_name ⟨[.fr (.str z), .no], rs, none⟩ _
  unfold b_is_name
  have e := flen_str (z := z) (by omega)
  have h1 : (1 : Int) ≤ (z.length : Int) := by omega
  have h2 : (z.length : Int) ≤ 8 := by omega
  walk_at "EV"
  refine r_lc (fun c : Nat => .str (one c)) z.cps.toList (fun _ => true) (fun _ => .bl true) ?_
  walk_at "EV"
  refine ⟨rfl, by have e : z.cps.toList.length = z.length := by simp [Str.length]
                  omega, _, _, _, _, _, rfl, rfl, rfl, fun c hc => ?_, ?_⟩
  · have g := fin_low (h.low c hc)
    walk_at "EV"
    refine ⟨rfl, ?_⟩
    rw [if_pos rfl]
    walk_at "EV"
    exact ⟨rfl, rfl⟩
  · walk_at "EV"
    first | (refine e_rv (fall_map (f := fun _ : Nat => true) (xs := z.cps.toList.filter fun _ => true)) ?_) | skip
    walk_at "EV"
    refine ⟨?_, rfl⟩
    simp
theorem are_cells_ok {cs : List (Int × Int)} (hne : cs ≠ []) (hl : cs.length ≤ 1000) (h : ∀ p ∈ cs, (0 ≤ p.1 ∧ p.1 ≤ 15) ∧ 0 ≤ p.2 ∧ p.2 ≤ 9) : m_are_cells [.dic (dII cs)] rs = .ok (.bl true) rs := by
  have hne' : ¬ dII cs = [] := fun e => hne (List.map_eq_nil_iff.mp e)
  refine mk_eq ?_
  show Ok b_are_cells ⟨[.fr (.dic (dII cs)), .no, .no], rs, none⟩ _
  unfold b_are_cells
  walk_at "EV"
  first | (refine e_rv feq_dic_nil ?_) | skip
  walk_at "EV"
  refine r_lc (fun p : Int × Int => .tup [.int p.1, .int p.2]) cs (fun _ => true) (fun _ => .bl true) ?_
  walk_at "EV"
  refine ⟨dII_pairs cs, by omega, _, _, _, _, _, rfl, rfl, rfl, fun p hp => ?_, ?_⟩
  · have e1 : m_is_cell [.int p.1] rs = .ok (.bl true) rs := by rw [is_cell_ok, decide_eq_true (h p hp).1]
    have e2 : m_is_value [.int p.2] rs = .ok (.bl true) rs := by rw [is_value_ok, decide_eq_true (h p hp).2]
    walk_at "EV"
    refine ⟨rfl, ?_⟩
    rw [if_pos rfl]
    walk_at "EV"
    exact ⟨rfl, rfl⟩
  · walk_at "EV"
    first | (refine e_rv (fall_map (f := fun _ : Int × Int => true) (xs := cs.filter fun _ => true)) ?_) | skip
    walk_at "EV"
    refine ⟨?_, rfl⟩
    simp
end
end Lw
namespace DL
open PySem PySem.Spec PyProof.Rows L2
theorem fis_nn : FIs .non .non = .old (.bl true) := rfl
instance i_fis_nn : DL.RvO (FIs .non .non) (.bl true) := ⟨fis_nn⟩
theorem fis_dn {ks : List (Key × D)} : FIs (.dic ks) .non = .old (.bl false) := rfl
instance i_fis_dn {ks : List (Key × D)} : DL.RvO (FIs (.dic ks) .non) (.bl false) := ⟨fis_dn⟩
theorem eR_0 {R : Rw} : FGet (eR R) (.int 0) = .old (.lst (R.ws.map eW)) := fget_t0
instance i_eR_0 {R : Rw} : DL.RvO (FGet (eR R) (.int 0)) (.lst (R.ws.map eW)) := ⟨eR_0⟩
theorem eR_1 {R : Rw} : FGet (eR R) (.int 1) = .old (.lst (R.fs.map eF)) := fget_t1
instance i_eR_1 {R : Rw} : DL.RvO (FGet (eR R) (.int 1)) (.lst (R.fs.map eF)) := ⟨eR_1⟩
theorem eR_2 {R : Rw} : FGet (eR R) (.int 2) = .old (.dic (dIL R.bs)) := fget_t2
instance i_eR_2 {R : Rw} : DL.RvO (FGet (eR R) (.int 2)) (.dic (dIL R.bs)) := ⟨eR_2⟩
theorem eR_3 {R : Rw} : FGet (eR R) (.int 3) = .old (.dic (dIL R.es)) := fget_t3
instance i_eR_3 {R : Rw} : DL.RvO (FGet (eR R) (.int 3)) (.dic (dIL R.es)) := ⟨eR_3⟩
theorem len_sub {α : Type} [DecidableEq α] : ∀ {l m : List α}, l.Nodup → (∀ x ∈ l, x ∈ m) → l.length ≤ m.length
  | [], m, _, _ => Nat.zero_le _
  | x :: r, m, nd, h => by
    rw [List.nodup_cons] at nd
    have ih := len_sub (l := r) (m := m.erase x) nd.2 fun y hy => (List.mem_erase_of_ne (fun e => nd.1 (by rw [← e]; exact hy))).mpr (h y (List.mem_cons_of_mem _ hy))
    have e := List.length_erase_of_mem (h x (List.mem_cons_self ..))
    have p : 0 < m.length := List.length_pos_of_mem (h x (List.mem_cons_self ..))
    rw [List.length_cons]
    omega
def Rw.cs (R : Rw) : Cs := ⟨sortW R.ws, sortF R.fs, normB R.bs, normB R.es⟩
def oI : Option Int → D
  | some i => .int i
  | none => .non
def oS : Option Str → D
  | some i => .str i
  | none => .non
theorem fis_oI {o : Option Int} : FIs (oI o) .non = .old (.bl o.isNone) := by cases o <;> rfl
instance i_fis_oI {o : Option Int} : DL.RvO (FIs (oI o) .non) (.bl o.isNone) := ⟨fis_oI⟩
theorem fis_oS {o : Option Str} : FIs (oS o) .non = .old (.bl o.isNone) := by cases o <;> rfl
instance i_fis_oS {o : Option Str} : DL.RvO (FIs (oS o) .non) (.bl o.isNone) := ⟨fis_oS⟩
theorem flt_str {a b : Str} : FLt (.str a) (.str b) = .old (.bl (ltS a b)) := by
  unfold FLt
  rw [if_pos ⟨okD_str, okD_str, rfl, rfl⟩]
  rfl
instance i_flt_str {a b : Str} : DL.RvO (FLt (.str a) (.str b)) (.bl (ltS a b)) := ⟨flt_str⟩
theorem fne_strs {xs : List Str} : FNe (.lst (xs.map D.str)) (.lst []) = .old (.bl (!decide (xs = []))) := by
  rw [fne_nil (okD_strs xs).1]
  simp
instance i_fne_strs {xs : List Str} : DL.RvO (FNe (.lst (xs.map D.str)) (.lst [])) (.bl (!decide (xs = []))) := ⟨fne_strs⟩
theorem feq_map_nil {α : Type} {f : α → D} {l : List α} : FEq (.lst (l.map f)) (.lst []) = .old (.bl (decide (l = []))) := by
  rw [feq_nil]
  simp
instance i_feq_map_nil {α : Type} {f : α → D} {l : List α} : DL.RvO (FEq (.lst (l.map f)) (.lst [])) (.bl (decide (l = []))) := ⟨feq_map_nil⟩
structure Rp (k n : Nat) (d : D) : Prop where
  pl : plF d = true
  sh : (pyF d).showable = true
  dp : (pyF d).depth ≤ k
  ln : (reprD d).length ≤ n
theorem Rp.mono {k n k' n' : Nat} {d : D} (h : Rp k n d) (hk : k ≤ k') (hn : n ≤ n') : Rp k' n' d := ⟨h.pl, h.sh, Nat.le_trans h.dp hk, Nat.le_trans h.ln hn⟩
theorem frepr {k n : Nat} {d : D} (h : Rp k n d) (hk : k ≤ 40) (hn : n ≤ 16777216) : FRepr [d] = .old (.str (reprD d)) := by
  show FRepr1 d = _
  unfold FRepr1
  exact if_pos ⟨h.pl, h.sh, Nat.le_trans h.dp hk, by rw [sizeLine_eq]; exact Nat.le_trans h.ln hn⟩
theorem rp_bl {b : Bool} : Rp 0 5 (.bl b) := ⟨by unfold plF; rfl, by unfold pyF PyData.showable; rfl, by unfold pyF PyData.depth; omega, by
  cases b <;> decide +kernel⟩
theorem rp_non : Rp 0 5 .non := ⟨by unfold plF; rfl, by unfold pyF PyData.showable; rfl, by unfold pyF PyData.depth; omega, by decide +kernel⟩
theorem rp_str {z : Str} {n : Nat} (h : ∀ c ∈ z.cps.toList, c < 16 ^ 8) (hn : 10 * z.length + 2 ≤ n) : Rp 0 n (.str z) := ⟨by unfold plF; rfl, by unfold pyF PyData.showable; rfl, by unfold pyF PyData.depth; omega, by
  have e : reprD (.str z) = reprText z := by unfold reprD pyF PyData.shown; rfl
  rw [e]
  exact Nat.le_trans (StrLaws.reprText_len z h) hn⟩
theorem rp_nm {z : Str} (h : Nm z) : Rp 0 100 (.str z) := rp_str (fun c hc => by have := h.low c hc; omega) (by have := h.hi; omega)
theorem depthL {k : Nat} : ∀ {xs : List D}, (∀ x ∈ xs, (pyF x).depth ≤ k) → PyData.depthAll (pyFL xs) ≤ k
  | [], _ => by unfold pyFL PyData.depthAll; omega
  | x :: xs, h => by
    unfold pyFL PyData.depthAll
    have h1 := h x (List.mem_cons_self ..)
    have h2 := depthL (k := k) (xs := xs) fun y hy => h y (List.mem_cons_of_mem _ hy)
    omega
theorem plFL_of : ∀ {xs : List D}, (∀ x ∈ xs, plF x = true) → plFL xs = true
  | [], _ => by unfold plFL; rfl
  | x :: xs, h => by
    unfold plFL
    rw [h x (List.mem_cons_self ..), plFL_of fun y hy => h y (List.mem_cons_of_mem _ hy)]
    rfl
theorem showL_of : ∀ {xs : List D}, (∀ x ∈ xs, (pyF x).showable = true) → PyData.showableAll (pyFL xs) = true
  | [], _ => by unfold pyFL PyData.showableAll; rfl
  | x :: xs, h => by
    unfold pyFL PyData.showableAll
    rw [h x (List.mem_cons_self ..), showL_of fun y hy => h y (List.mem_cons_of_mem _ hy)]
    rfl
theorem piledL {n : Nat} : ∀ {xs : List D}, (∀ x ∈ xs, (reprD x).length ≤ n) → piled (PyData.shownAll (pyFL xs)) ≤ xs.length * (n + 2)
  | [], _ => by unfold pyFL PyData.shownAll; rw [piled_nil]; omega
  | x :: xs, h => by
    unfold pyFL PyData.shownAll
    rw [piled_cons, List.length_cons, Nat.add_mul]
    have h1 : (pyF x).shown.length ≤ n := h x (List.mem_cons_self ..)
    have h2 := piledL (n := n) (xs := xs) fun y hy => h y (List.mem_cons_of_mem _ hy)
    omega
theorem joinL_len (ts : List Str) : (Str.join ", " ts).length ≤ piled ts := by
  by_cases h : ts = []
  · subst h; decide +kernel
  · have := join_length_add ts h; omega
theorem listF : ∀ (i : Nat) (ts : List Str), (∀ (a : Str), (textFrom i a ts).length ≤ a.length + piled ts) := by
  intro i ts
  induction ts generalizing i with
  | nil => intro a; simp [textFrom, piled_nil]
  | cons t r ih =>
    intro a
    unfold textFrom
    refine Nat.le_trans (ih _ _) ?_
    rw [piled_cons]
    have e2 : ((", " : String) : Str).length = 2 := rfl
    have e0 : (("" : String) : Str).length = 0 := rfl
    split
    · simp only [strLen_append]
      omega
    · simp only [strLen_append]
      omega
theorem rp_seq {k n m : Nat} {xs : List D} (h : ∀ x ∈ xs, Rp k n x) (hm : xs.length * (n + 2) + 5 ≤ m) : Rp (k + 1) m (.tup xs) ∧ Rp (k + 1) m (.lst xs) := by
  have h1 := plFL_of fun x hx => (h x hx).pl
  have h2 := showL_of fun x hx => (h x hx).sh
  have h3 := depthL fun x hx => (h x hx).dp
  have h4 := piledL fun x hx => (h x hx).ln
  constructor
  · refine ⟨by unfold plF; exact h1, by unfold pyF PyData.showable; exact h2, by unfold pyF PyData.depth; omega, ?_⟩
    unfold reprD pyF PyData.shown tupleText
    rw [strLen_append, strLen_append]
    have e1 : ((("(" : String) : Str)).length = 1 := rfl
    have e3 : (((if (PyData.shownAll (pyFL xs)).length == 1 then ",)" else ")" : String) : Str)).length ≤ 2 := by split <;> decide
    have e4 := joinL_len (PyData.shownAll (pyFL xs))
    omega
  · refine ⟨by unfold plF; exact h1, by unfold pyF PyData.showable; exact h2, by unfold pyF PyData.depth; omega, ?_⟩
    unfold reprD pyF PyData.shown listText
    rw [strLen_append]
    have e1 : ((("[" : String) : Str)).length = 1 := rfl
    have e2 : ((("]" : String) : Str)).length = 1 := rfl
    have e4 := listF 0 (PyData.shownAll (pyFL xs)) "["
    omega
theorem eqA_strs (n : Nat) : ∀ {xs ys : List Str}, xs.length = ys.length → eqAllD (dEqN n) (xs.map D.str) (ys.map D.str) = some (decide (xs = ys))
  | [], [], _ => rfl
  | x :: xs, y :: ys, h => by
    have ih := eqA_strs n (xs := xs) (ys := ys) (by simpa using h)
    have e : dEqN n (.str x) (.str y) = some (x == y) := by cases n <;> rfl
    rw [List.map_cons, List.map_cons]
    unfold eqAllD
    rw [e, ih]
    dsimp only
    congr 1
    by_cases h1 : x = y <;> by_cases h2 : xs = ys <;> simp [h1, h2]
theorem feq_strs {xs ys : List Str} : FEq (.lst (xs.map D.str)) (.lst (ys.map D.str)) = .old (.bl (decide (xs = ys))) := by
  have e : eqD (.lst (xs.map D.str)) (.lst (ys.map D.str)) = some (decide (xs = ys)) := by
    unfold eqD
    rw [dEqN]
    by_cases h : xs.length = ys.length
    · rw [if_pos (by simpa using h), eqA_strs _ h]
    · rw [if_neg (by simpa using h), decide_eq_false (fun z => h (by rw [z]))]
  unfold FEq
  rw [e]; rfl
instance i_feq_strs {xs ys : List Str} : DL.RvO (FEq (.lst (xs.map D.str)) (.lst (ys.map D.str))) (.bl (decide (xs = ys))) := ⟨feq_strs⟩
theorem fadd_ll {xs ys : List D} (h : xs.length + ys.length ≤ 16777216) : FAdd (.lst xs) (.lst ys) = .nw (.lst (xs ++ ys)) := by
  unfold FAdd
  dsimp only
  rw [if_pos (by rw [sizeLine_eq]; exact h)]
theorem fneg_int {i : Int} : FNeg (.int i) = .old (.int (-i)) := rfl
instance i_fneg_int {i : Int} : DL.RvO (FNeg (.int i)) (.int (-i)) := ⟨fneg_int⟩
theorem frev_tup {xs : List D} : FRev (.tup xs) = .nw (.tup xs.reverse) := rfl
instance i_frev_tup {xs : List D} : DL.RvN (FRev (.tup xs)) (.tup xs.reverse) := ⟨frev_tup⟩
theorem frev_lst {xs : List D} : FRev (.lst xs) = .nw (.lst xs.reverse) := rfl
instance i_frev_lst {xs : List D} : DL.RvN (FRev (.lst xs)) (.lst xs.reverse) := ⟨frev_lst⟩
def q9 : Str := Txt.mul (Str.ofString "q") 9
theorem fmul_q : FMulX (.str (Str.ofString "q")) (.int 9) = .old (.str q9) := by
  show (if 0 ≤ (9 : Int) ∧ (9 : Int) ≤ 1000 ∧ (Str.ofString "q").length ≤ 1000 then Rv.old (.str (Txt.mul (Str.ofString "q") 9)) else .no) = _
  rw [if_pos (by decide +kernel)]
  rfl
instance i_fmul_q : DL.RvO (FMulX (.str (Str.ofString "q")) (.int 9)) (.str q9) := ⟨fmul_q⟩
theorem fset_no : FSet "NoSet" (.exc "NoSet" none) = .old (.bl true) := by
  show (if ("NoSet" : Str) = "NoSet" then Rv.old (.bl true) else .no) = _
  rw [if_pos rfl]
instance i_fset_no : DL.RvO (FSet "NoSet" (.exc "NoSet" none)) (.bl true) := ⟨fset_no⟩
theorem rp_int15 {c : Int} (h : 0 ≤ c ∧ c ≤ 15) : Rp 0 5 (.int c) := by
  have key : ∀ k : Fin 16, (reprD (.int (k.val : Int))).length ≤ 5 := by decide +kernel
  have key2 : ∀ k : Fin 16, (pyF (.int (k.val : Int))).showable = true := by decide +kernel
  obtain ⟨n, rfl⟩ : ∃ n : Nat, c = n := ⟨c.toNat, by omega⟩
  exact ⟨by unfold plF; rfl, key2 ⟨n, by omega⟩, by unfold pyF PyData.depth; omega, key ⟨n, by omega⟩⟩
section
variable {s : S} {K : A → S → Prop} {KD : D → S → Prop} {ga gb : M A} {gs gk : M (List A)} {cl mn : Str} {m : Mir} {sp : List Src} {md : List D}
def doCallS (m : Mir) (sp : List Src) (md : List D) (d0 : D) (ds es : List D) : M A := doCall m (place sp [d0] md es ++ [.tup ds])
def doCallW (m : Mir) (sp : List Src) (md : List D) (d0 : D) (es : List D) : M A := doCall m (place sp [d0] md es)
theorem r_methS (h : Ok ga s fun a s1 => Ok (force a) s1 fun d0 s2 => Chk (okM cl mn d0 = true) (Ok gs s2 fun as s3 => Ok gk s3 fun bs s4 => Ok (forceL as) s4 fun ds s5 => Ok (forceL bs) s5 fun es s6 => Ok (doCallS m sp md d0 ds es) s6 K)) : Ok (gMethS cl mn m sp md ga gs gk) s K := by
  unfold gMethS
  simp only [ok_bnd]
  refine ok_imp h fun a s1 h1 => ok_imp h1 fun d s2 h2 => ?_
  rw [if_pos h2.1]
  simp only [ok_bnd]
  exact h2.2
theorem r_methK (h : Ok ga s fun a s1 => Ok (force a) s1 fun d0 s2 => Chk (okM cl mn d0 = true) (Ok gk s2 fun bs s4 => Ok (forceL bs) s4 fun es s6 => Ok (doCallW m sp md d0 es) s6 K)) : Ok (gMethK cl mn m sp md ga gk) s K := by
  unfold gMethK
  simp only [ok_bnd, ok_pur]
  refine ok_imp h fun a s1 h1 => ok_imp h1 fun d s2 h2 => ?_
  rw [if_pos h2.1]
  simp only [ok_bnd, ok_pur]
  refine ok_imp h2.2 fun bs s3 h3 => ?_
  show Ok (pur ([] : List D)) s3 _
  rw [ok_pur]
  exact h3
instance i_methS : StE (Ok (gMethS cl mn m sp md ga gs gk) s K) (Ok ga s fun a s1 => Ok (force a) s1 fun d0 s2 => Chk (okM cl mn d0 = true) (Ok gs s2 fun as s3 => Ok gk s3 fun bs s4 => Ok (forceL as) s4 fun ds s5 => Ok (forceL bs) s5 fun es s6 => Ok (doCallS m sp md d0 ds es) s6 K)) := ⟨r_methS⟩
instance i_methK : StE (Ok (gMethK cl mn m sp md ga gk) s K) (Ok ga s fun a s1 => Ok (force a) s1 fun d0 s2 => Chk (okM cl mn d0 = true) (Ok gk s2 fun bs s4 => Ok (forceL bs) s4 fun es s6 => Ok (doCallW m sp md d0 es) s6 K)) := ⟨r_methK⟩
instance i_cS1 {d0 x : D} {ds : List D} : StE (Ok (doCallS m [.u 0, .w 0] md d0 ds [x]) s K) (Ok (doCall m [d0, x, .tup ds]) s K) := ⟨fun h => h⟩
instance i_cS2 {d0 y : D} {ds : List D} : StE (Ok (doCallS m [.u 0, .m 0] [y] d0 ds []) s K) (Ok (doCall m [d0, y, .tup ds]) s K) := ⟨fun h => h⟩
instance i_cS3 {d0 : D} {ds : List D} : StE (Ok (doCallS m [.u 0] md d0 ds []) s K) (Ok (doCall m [d0, .tup ds]) s K) := ⟨fun h => h⟩
instance i_cW1 {d0 x y : D} : StE (Ok (doCallW m [.u 0, .m 0, .w 0] [y] d0 [x]) s K) (Ok (doCall m [d0, y, x]) s K) := ⟨fun h => h⟩
instance i_cW2 {d0 x y : D} : StE (Ok (doCallW m [.u 0, .w 0, .m 0] [y] d0 [x]) s K) (Ok (doCall m [d0, x, y]) s K) := ⟨fun h => h⟩
def lvM : D → M D
  | .dic ks => pur (.lst (valsLD ks))
  | _ => bad
theorem r_listVals (h : Ok ga s fun a s1 => Ok (pk a) s1 fun x s2 => Ok (lvM x) s2 KD) : Ok (gListVals ga) s KD := by
  unfold gListVals
  rw [ok_bnd]
  refine ok_imp h fun a s1 h1 => ?_
  rw [ok_bnd]
  refine ok_imp h1 fun x s2 h2 => ?_
  cases x <;> exact h2
instance i_listVals : StE (Ok (gListVals ga) s KD) (Ok ga s fun a s1 => Ok (pk a) s1 fun x s2 => Ok (lvM x) s2 KD) := ⟨r_listVals⟩
theorem vals_dWs (ws : List Wt) : valsLD (dWs ws) = ws.map wD := by unfold valsLD dWs; rw [List.map_map]; rfl
instance i_lvM {ws : List Wt} : StE (Ok (lvM (.dic (dWs ws))) s KD) (KD (.lst (ws.map wD)) s) := ⟨fun h => by
  unfold lvM
  rw [ok_pur, vals_dWs]
  exact h⟩
end
theorem om_requiring {C : Cs} : okM "Case" "requiring" (cD C) = true := okM_case (by decide +kernel)
instance i_om_requiring {C : Cs} : DL.Hd (okM "Case" "requiring" (cD C) = true) := ⟨om_requiring⟩
theorem om_narrowed {C : Cs} : okM "Case" "narrowed" (cD C) = true := okM_case (by decide +kernel)
instance i_om_narrowed {C : Cs} : DL.Hd (okM "Case" "narrowed" (cD C) = true) := ⟨om_narrowed⟩
theorem om_without {C : Cs} : okM "Case" "without" (cD C) = true := okM_case (by decide +kernel)
instance i_om_without {C : Cs} : DL.Hd (okM "Case" "without" (cD C) = true) := ⟨om_without⟩
theorem om_with {w : Wt} : okM "Write" "with_required" (wD w) = true := by
  unfold okM wD
  dsimp only
  rw [lookN (by decide +kernel), lookN (by decide +kernel), lookN (by decide +kernel)]
  rfl
instance i_om_with {w : Wt} : DL.Hd (okM "Write" "with_required" (wD w) = true) := ⟨om_with⟩
end DL
end
section
set_option maxHeartbeats 8000000
namespace DL
open PySem PySem.Spec PyProof.Rows L2
section
variable {s : S} {KA : A → S → Prop} {KB : Bool → S → Prop} {KD : D → S → Prop} {KF : Fl → S → Prop} {KL : List D → S → Prop} {ga gb go gk gv : M A} {r : Rs} {k : Nat} {d e : D}
theorem Rs.at_add : (r.add d).at r.nxt = some d := by
  unfold Rs.at Rs.add Rs.nxt
  show (if r.fz.length ≤ r.fz.length + r.rg.length then _ else _) = _
  rw [if_pos (Nat.le_add_right _ _)]
  show (r.rg ++ [d])[r.fz.length + r.rg.length - r.fz.length]? = _
  rw [Nat.add_sub_cancel_left, List.getElem?_append_right (Nat.le_refl _), Nat.sub_self]
  rfl
theorem Rs.at_put (h : r.at k = some d) : (r.put k e).at k = some e := by
  unfold Rs.at at h ⊢
  by_cases c : r.r0 ≤ k
  · rw [if_pos c] at h
    show (if r.fz.length ≤ k then (r.rg.set (k - r.fz.length) e)[k - r.fz.length]? else none) = _
    rw [if_pos c, List.getElem?_set_self (List.getElem?_eq_some_iff.mp h).1]
  · rw [if_neg c] at h; cases h
theorem r_lendT {g : M Bool} (h : Ok g (lendS s) fun b s1 => ∃ rs, lresR s.rs s1.rs = some rs ∧ KB b { s with rs := rs }) : Ok (gLendT g) s KB := by
  obtain ⟨b, s1, e, rs, er, k⟩ := ok_get h
  refine ok_of (a := b) (s' := { s with rs := rs }) ?_ k
  show lendT s (g (lendS s)) = _
  rw [e]
  unfold lendT
  dsimp only
  rw [er]
theorem r_lendF {g : M D} (h : Ok g (lendS s) fun d s1 => shallowC d = true ∧ ∃ rs, lresR s.rs s1.rs = some rs ∧ KD d { s with rs := rs }) : Ok (gLendF g) s KD := by
  obtain ⟨b, s1, e, sh, rs, er, k⟩ := ok_get h
  refine ok_of (a := b) (s' := { s with rs := rs }) ?_ k
  show lendF s (g (lendS s)) = _
  rw [e]
  unfold lendF
  dsimp only
  rw [if_pos sh, er]
theorem r_new {g : M D} (h : Ok g s fun d s1 => ∃ r, s1.rs = some r ∧ KA (.d (.rg r.nxt)) { s1 with rs := some (r.add d) }) : Ok (gNew g) s KA := by
  unfold gNew
  rw [ok_bnd]
  refine ok_imp h fun d s1 ⟨r, e, k⟩ => ?_
  rw [ok_bnd]
  refine ok_of (a := r.nxt) (s' := { s1 with rs := some (r.add d) }) ?_ (by rw [ok_pur]; exact k)
  unfold newR
  rw [e]
theorem rgK_of {a : A} {ks : List (Key × D)} (h1 : peek a s = some (.rg k)) (h2 : s.rs = some r) (h3 : r.at k = some (.dic ks)) : rgK a s = .ok ks s := by
  unfold rgK
  rw [h1]
  dsimp only
  have e : rgAt k s = some (.dic ks) := by unfold rgAt; rw [h2]; exact h3
  rw [e]
theorem rgSet_of {α : Type} {a : A} {x : α} (h1 : peek a s = some (.rg k)) (h2 : s.rs = some r) : rgSet a d x s = .ok x { s with rs := some (r.put k d) } := by
  rw [rgSet_eq h1]
  unfold putR
  rw [h2]
theorem r_rclr (h : Ok go s fun o s1 => ∃ k r ks, peek o s1 = some (.rg k) ∧ s1.rs = some r ∧ r.at k = some (.dic ks) ∧ KA (.d .non) { s1 with rs := some (r.put k (.dic [])) }) : Ok (gRClr go) s KA := by
  unfold gRClr
  rw [ok_bnd]
  refine ok_imp h fun o s1 ⟨k, r, ks, h1, h2, h3, h4⟩ => ?_
  rw [ok_bnd]
  exact ok_of (rgK_of h1 h2 h3) (ok_of (rgSet_of h1 h2) h4)
theorem r_rput (h : Ok gv s fun a s1 => Ok (force a) s1 fun d s2 => Ok go s2 fun o s3 => ∃ k r ks, peek o s3 = some (.rg k) ∧ s3.rs = some r ∧ r.at k = some (.dic ks) ∧ Ok gk s3 fun b s4 => Ok (pk b) s4 fun e s5 =>
    ∃ kk k2 r2 ks2, dK e = some kk ∧ peek o s5 = some (.rg k2) ∧ s5.rs = some r2 ∧ r2.at k2 = some (.dic ks2) ∧ ks2.length < 1000 ∧ KF .nx { s5 with rs := some (r2.put k2 (.dic (putD ks2 kk d))) }) : Ok (sRPut go gk gv) s KF := by
  unfold sRPut
  simp only [ok_bnd]
  refine ok_imp h fun a s1 h1 => ok_imp h1 fun d s2 h2 => ok_imp h2 fun o s3 ⟨k, r, ks, a1, a2, a3, h3⟩ => ?_
  refine ok_of (rgK_of a1 a2 a3) (ok_imp h3 fun b s4 h4 => ok_imp h4 fun e s5 ⟨kk, k2, r2, ks2, b0, b1, b2, b3, b4, h5⟩ => ?_)
  refine ok_of (rgK_of b1 b2 b3) ?_
  rw [b0]
  dsimp only
  rw [if_pos (by rw [sizeLine_eq]; omega)]
  exact ok_of (rgSet_of b1 b2) h5
theorem r_own2 {c : Str} {m : Mir} (h : Ok ga s fun a s1 => Ok gb s1 fun b s2 => Ok (force a) s2 fun d s3 => Ok (force b) s3 fun e s4 => ∃ z, eqOk c m d e = some z ∧ KA (.d (.bl z)) s4) : Ok (gOwn2 c m ga gb) s KA := by
  unfold gOwn2
  simp only [ok_bnd]
  refine ok_imp h fun a s1 h1 => ok_imp h1 fun b s2 h2 => ok_imp h2 fun d s3 h3 => ok_imp h3 fun e s4 ⟨z, h4, h5⟩ => ?_
  unfold ownM
  rw [h4]
  dsimp only
  rw [ok_pur]
  exact h5
theorem r_range2 (h : Ok ga s fun a s1 => Ok gb s1 fun b s2 => Ok (pk a) s2 fun d s3 => Ok (pk b) s3 fun e s4 => ∃ i j, d = .int i ∧ e = .int j ∧ (-1000 ≤ i ∧ i ≤ 1000) ∧ (-1000 ≤ j ∧ j ≤ 1000) ∧ KL (rgD2 i j) s4) : Ok (gRange2 ga gb) s KL := by
  unfold gRange2
  simp only [ok_bnd]
  refine ok_imp h fun a s1 h1 => ok_imp h1 fun b s2 h2 => ok_imp h2 fun d s3 h3 => ok_imp h3 fun e s4 ⟨i, j, e1, e2, b1, b2, k⟩ => ?_
  subst e1 e2
  dsimp only
  rw [if_pos ⟨⟨by omega, by omega⟩, by omega, by omega⟩, ok_pur]
  exact k
theorem r_listRange2 (h : Ok ga s fun a s1 => Ok gb s1 fun b s2 => Ok (pk a) s2 fun d s3 => Ok (pk b) s3 fun e s4 => ∃ i j, d = .int i ∧ e = .int j ∧ (-1000 ≤ i ∧ i ≤ 1000) ∧ (-1000 ≤ j ∧ j ≤ 1000) ∧ KA (.d (.lst (rgD2 i j))) s4) : Ok (gListRange2 ga gb) s KA := by
  unfold gListRange2
  simp only [ok_bnd]
  refine ok_imp h fun a s1 h1 => ok_imp h1 fun b s2 h2 => ok_imp h2 fun d s3 h3 => ok_imp h3 fun e s4 ⟨i, j, e1, e2, b1, b2, k⟩ => ?_
  subst e1 e2
  dsimp only
  rw [if_pos ⟨⟨by omega, by omega⟩, by omega, by omega⟩, ok_pur]
  exact k
end
theorem seeR_plain {s : S} {d : D} (h : noRg d = true) : seeR s d = some d := by
  unfold seeR
  split
  · unfold noRg at h; cases h
  · rw [if_pos h]
theorem seeR_rg {s : S} {k : Nat} {d : D} {r : Rs} (h1 : s.rs = some r) (h2 : r.at k = some d) (h3 : mutB d = true) (h4 : noRg d = true) : seeR s (.rg k) = some d := by
  unfold seeR
  have e : rgSee k s = some d := by unfold rgSee; rw [h1]; exact Rs.at_see h2
  dsimp only
  rw [e]
  dsimp only
  rw [if_pos ⟨h3, h4⟩]
theorem noRgK_dII : ∀ cs : List (Int × Int), noRgK (dII cs) = true
  | [] => by unfold dII; rw [List.map_nil]; unfold noRgK; rfl
  | p :: r => by
    have ih := noRgK_dII r
    unfold dII at ih ⊢
    rw [List.map_cons]
    unfold noRgK noRg
    rw [ih]; rfl
theorem noRg_dII (cs : List (Int × Int)) : noRg (.dic (dII cs)) = true := by unfold noRg; exact noRgK_dII cs
theorem shal_dII (cs : List (Int × Int)) : shallowC (.dic (dII cs)) = true := by
  show (dII cs).all _ = true
  unfold dII
  rw [List.all_map]
  exact List.all_eq_true.mpr fun _ _ => rfl
def eP (p : Int × Int) : D := .tup [.int p.1, .int p.2]
def leP (a b : Int × Int) : Bool := leI a.1 b.1
def sp (cs : List (Int × Int)) : List (Int × Int) := cs.mergeSort leP
theorem sp_perm (cs : List (Int × Int)) : (sp cs).Perm cs := List.mergeSort_perm cs leP
theorem sp_keys (cs : List (Int × Int)) : (sp cs).map (·.1) = sortI (cs.map (·.1)) := List.map_mergeSort fun _ _ _ _ => rfl
theorem sp_nd {cs : List (Int × Int)} (h : (cs.map (·.1)).Nodup) : ((sp cs).map (·.1)).Nodup := ((sp_perm cs).map _).nodup_iff.mpr h
theorem sp_len (cs : List (Int × Int)) : (sp cs).length = cs.length := (sp_perm cs).length_eq
theorem key_one {cs : List (Int × Int)} (nd : (cs.map (·.1)).Nodup) {p q : Int × Int} (hp : p ∈ cs) (hq : q ∈ cs) (e : p.1 = q.1) : p = q := by
  have h1 := lookI nd hp
  have h2 := lookI nd hq
  rw [e, h2] at h1
  cases p; cases q
  dsimp only at e
  cases e
  cases h1
  rfl
theorem same_keys {cs : List (Int × Int)} (nd : (cs.map (·.1)).Nodup) : ∀ {xs ys : List (Int × Int)}, (∀ p ∈ xs, p ∈ cs) → (∀ p ∈ ys, p ∈ cs) → xs.map (·.1) = ys.map (·.1) → xs = ys
  | [], [], _, _, _ => rfl
  | [], _ :: _, _, _, e => by cases e
  | _ :: _, [], _, _, e => by cases e
  | p :: xs, q :: ys, h1, h2, e => by
    rw [List.map_cons, List.map_cons] at e
    injection e with e1 e2
    rw [key_one nd (h1 p (List.mem_cons_self ..)) (h2 q (List.mem_cons_self ..)) e1, same_keys nd (fun z hz => h1 z (List.mem_cons_of_mem _ hz)) (fun z hz => h2 z (List.mem_cons_of_mem _ hz)) e2]
theorem leD_eP {a b : Int × Int} (h : leD (eP a) (eP b) = true) : a.1 ≤ b.1 := by
  by_cases c : b.1 < a.1
  · exfalso
    rw [leD_eq] at h
    have e : PyProof.Rows.lexLt PyProof.Rows.itemOrd (tkD (eP b)) (tkD (eP a)) = true := by
      show PyProof.Rows.lexLt PyProof.Rows.itemOrd (PySem.W.keyToks (.tuple [.int b.1, .int b.2])) (PySem.W.keyToks (.tuple [.int a.1, .int a.2])) = true
      simp only [PySem.W.keyToks, PySem.W.toks_all_cons, List.cons_append, List.nil_append]
      have e0 : PyProof.Rows.itemOrd.blt (Sum.inl 1) (Sum.inl 1) = false := by show decide ((1 : Int) < 1) = false; decide
      have e1 : PyProof.Rows.itemOrd.blt (Sum.inl b.fst) (Sum.inl a.fst) = true := decide_eq_true c
      rw [PyProof.Rows.lex_cons, PyProof.Rows.lex_cons, e0, e1]
      rfl
    rw [e] at h
    cases h
  · omega
theorem sortable_eP (cs : List (Int × Int)) : sortable (cs.map eP) := by
  refine ⟨List.all_eq_true.mpr fun d hd => ?_, List.all_eq_true.mpr fun d hd => List.all_eq_true.mpr fun e he => ?_, ?_⟩
  · obtain ⟨x, _, rfl⟩ := List.mem_map.mp hd
    exact (okD_ints [x.1, x.2]).2
  · obtain ⟨x, _, rfl⟩ := List.mem_map.mp hd
    obtain ⟨y, _, rfl⟩ := List.mem_map.mp he
    show PySem.W.alike (.tuple [.int x.1, .int x.2]) (.tuple [.int y.1, .int y.2]) = true
    simp [PySem.W.alike, PySem.W.alikeAll]
  · unfold sortB
    rw [Bool.or_eq_true]
    exact .inl (List.all_eq_true.mpr fun d hd => by
      obtain ⟨x, _, rfl⟩ := List.mem_map.mp hd
      rfl)
theorem pw_perm {xs ys : List Int} (p : xs.Perm ys) (h1 : xs.Pairwise fun a b => a ≤ b) (h2 : ys.Pairwise fun a b => a ≤ b) : xs = ys :=
  List.Perm.eq_of_pairwise (le := fun a b => a ≤ b) (fun a b _ _ l1 l2 => Int.le_antisymm l1 l2) h1 h2 p
theorem sp_uniq {cs xs : List (Int × Int)} (nd : (cs.map (·.1)).Nodup) (p : xs.Perm cs) (h : (xs.map (·.1)).Pairwise fun a b => a ≤ b) : xs = sp cs := by
  refine same_keys nd (fun z hz => p.mem_iff.mp hz) (fun z hz => (sp_perm cs).mem_iff.mp hz) ?_
  refine pw_perm ((p.map _).trans ((sp_perm cs).map _).symm) h ?_
  rw [sp_keys]
  exact sortI_sorted _
theorem fsorted_eP {cs : List (Int × Int)} (nd : (cs.map (·.1)).Nodup) : FSorted [.lst (cs.map eP)] = .nw (.lst ((sp cs).map eP)) := by
  unfold FSorted itemsD
  dsimp only
  rw [if_pos (sortable_eP cs), map_sort (le' := leD) (le := fun a b => leD (eP a) (eP b)) (en := eP) (fun _ _ => rfl) cs]
  congr 3
  refine sp_uniq nd (List.mergeSort_perm cs _) ?_
  have pw := List.pairwise_mergeSort (le := fun a b => leD (eP a) (eP b)) (fun a b c => leD_trans _ _ _) (fun a b => leD_total _ _) cs
  rw [List.pairwise_map]
  exact pw.imp fun h => leD_eP h
theorem fne_self {d : D} (h : okD d = true) : FNe d d = .old (.bl false) := by
  unfold FNe
  rw [if_pos ⟨h, h⟩, SeqAt.eqv_refl_plain _ (py_plain _ (okD.pl h))]
  rfl
theorem okD_eP (cs : List (Int × Int)) : okD (.lst (cs.map eP)) = true := (okD_flat fun x hx => by
  obtain ⟨p, _, rfl⟩ := List.mem_map.mp hx
  have h := (okD_ints [p.1, p.2]).2
  exact ⟨okD.pl h, by
    show (PyData.tuple [.int p.1, .int p.2]).depth ≤ 30
    simp [PyData.depth, PyData.depthAll]⟩).1
def hasP (b : List (Int × Int)) (p : Int × Int) : Bool := match lookD (dII b) (.inl p.1) with
  | some (.int v) => p.2 == v
  | _ => false
def inP (b a : List (Int × Int)) : Bool := a.all (hasP b)
theorem hasP_iff {b : List (Int × Int)} {p : Int × Int} : hasP b p = true ↔ lookD (dII b) (.inl p.1) = some (.int p.2) := by
  unfold hasP
  constructor
  · intro h
    split at h
    · rename_i v e
      rw [e, beq_iff_eq.mp h]
    · cases h
  · intro h
    rw [h]
    exact beq_self_eq_true _
theorem look_int {b : List (Int × Int)} {k : Key} {d : D} (h : lookD (dII b) k = some d) : ∃ v, d = .int v := by
  unfold dII at h
  rw [lookD_map] at h
  obtain ⟨p, _, e⟩ := Option.map_eq_some_iff.mp h
  exact ⟨_, e.symm⟩
theorem eqKv_dII {b : List (Int × Int)} {n : Nat} : ∀ a : List (Int × Int), eqKvD (dEqN n) (dII b) (dII a) = some (inP b a)
  | [] => rfl
  | p :: a => by
    have ih := eqKv_dII (b := b) (n := n) a
    show eqKvD (dEqN n) (dII b) ((.inl p.1, .int p.2) :: dII a) = _
    unfold eqKvD
    rw [ih]
    dsimp only
    unfold inP
    rw [List.all_cons]
    cases q : lookD (dII b) (.inl p.1) with
    | none =>
      have e : hasP b p = false := by unfold hasP; rw [q]
      rw [e]
      rfl
    | some d =>
      obtain ⟨v, rfl⟩ := look_int q
      have e : dEqN n (.int p.2) (.int v) = some (p.2 == v) := by cases n <;> rfl
      have e2 : hasP b p = (p.2 == v) := by unfold hasP; rw [q]
      dsimp only
      rw [e, e2]
      rfl
def eqP (a b : List (Int × Int)) : Bool := decide (a.length = b.length) && inP b a
theorem feq_dII {a b : List (Int × Int)} : FEq (.dic (dII a)) (.dic (dII b)) = .old (.bl (eqP a b)) := by
  unfold FEq eqD
  rw [dEqN, eqKv_dII]
  unfold eqP dII
  rw [List.length_map, List.length_map]
  rfl
instance i_feq_dII {a b : List (Int × Int)} : DL.RvO (FEq (.dic (dII a)) (.dic (dII b))) (.bl (eqP a b)) := ⟨feq_dII⟩
theorem eqP_self {a : List (Int × Int)} (nd : (a.map (·.1)).Nodup) : eqP a a = true := by
  unfold eqP inP
  rw [decide_eq_true rfl, Bool.true_and, List.all_eq_true]
  exact fun p hp => hasP_iff.mpr (lookI nd hp)
theorem feq_bl {a b : Bool} : FEq (.bl a) (.bl b) = .old (.bl (decide (a = b))) := by cases a <;> cases b <;> rfl
instance i_feq_bl {a b : Bool} : DL.RvO (FEq (.bl a) (.bl b)) (.bl (decide (a = b))) := ⟨feq_bl⟩
theorem look_sp {cs : List (Int × Int)} (nd : (cs.map (·.1)).Nodup) {i : Int} : lookD (dII (sp cs)) (.inl i) = lookD (dII cs) (.inl i) := by
  by_cases h : i ∈ cs.map (·.1)
  · obtain ⟨p, hp, rfl⟩ := List.mem_map.mp h
    rw [lookI nd hp, lookI (sp_nd nd) ((sp_perm cs).mem_iff.mpr hp)]
  · have e1 : (lookD (dII cs) (.inl i)).isSome = false := by rw [dII_some, decide_eq_false h]
    have e2 : (lookD (dII (sp cs)) (.inl i)).isSome = false := by rw [dII_some, decide_eq_false fun q => h (((sp_perm cs).map _).mem_iff.mp q)]
    rw [Option.isSome_eq_false_iff, Option.isNone_iff_eq_none] at e1 e2
    rw [e1, e2]
end DL
end
section
set_option maxHeartbeats 8000000
namespace DL
open PySem PySem.Spec PyProof.Rows L2
section
variable {s : S} {K : A → S → Prop} {m : Mir} {d0 x : D}
instance i_cW0 : StE (Ok (doCallW m [.u 0, .w 0] [] d0 [x]) s K) (Ok (doCall m [d0, x]) s K) := ⟨fun h => h⟩
end
theorem omw_sets {w : Wt} : okM "Write" "sets" (wD w) = true := by
  unfold okM wD
  dsimp only
  rw [lookN (by decide +kernel), lookN (by decide +kernel), lookN (by decide +kernel)]
  rfl
instance i_omw_sets {w : Wt} : DL.Hd (okM "Write" "sets" (wD w) = true) := ⟨omw_sets⟩
theorem omw_with {w : Wt} : okM "Write" "with_required" (wD w) = true := by
  unfold okM wD
  dsimp only
  rw [lookN (by decide +kernel), lookN (by decide +kernel), lookN (by decide +kernel)]
  rfl
instance i_omw_with {w : Wt} : DL.Hd (okM "Write" "with_required" (wD w) = true) := ⟨omw_with⟩
end DL
namespace Lw
open PySem PySem.Spec PyProof.Rows L2 DL
structure PrOk (cs : List (Int × Int)) : Prop where
  ne : cs ≠ []
  ln : cs.length ≤ 16
  nd : (cs.map (·.1)).Nodup
  cv : ∀ p ∈ cs, (0 ≤ p.1 ∧ p.1 ≤ 15) ∧ 0 ≤ p.2 ∧ p.2 ≤ 9
def wOf (z : Str) (cs : List (Int × Int)) (q : Bool) : Wt := ⟨z, sp cs, q⟩
abbrev lr (r : Rs) : Rs := { r with fz := [], rg := [] }
def SeenG (r : Rs) (cs : List (Int × Int)) (G : D) : Prop := G = .dic (dII cs) ∨ ∃ k, G = .rg k ∧ r.at k = some (.dic (dII cs))
section
variable {r : Rs} {rs : Option Rs} {cs : List (Int × Int)} {z : Str} {q : Bool} {G : D}
theorem seeG {s : S} (h : SeenG r cs G) (e : s.rs = some r) : seeR s G = some (.dic (dII cs)) := by
  rcases h with rfl | ⟨k, rfl, h⟩
  · exact seeR_plain (noRg_dII cs)
  · exact seeR_rg e h rfl (noRg_dII cs)
theorem fsorted_sp (cs : List (Int × Int)) : FSorted [.dic (dII cs)] = .nw (.lst ((sp cs).map fun p => .int p.1)) := by
  unfold FSorted itemsD
  dsimp only
  rw [kD_dII, if_pos (sortable_ints _), sortI_map, ← sp_keys, List.map_map]
  rfl
theorem write_initG (hz : Nm z) (h : PrOk cs) (hG : SeenG r cs G) (x dx : Addr) : m_Write___init__ x dx [.str z, G, .bl q] (some r) = .ok (wD (wOf z cs q)) (some r) := by
  refine mkI_eq (fun x dx => ?_) x dx
  show Ok b_Write___init__ ⟨[.fr (.adr x), .fr (.str z), .fr G, .fr (.bl q), .no], some r, some ⟨x, dx, "Write", []⟩⟩ _
  unfold b_Write___init__
  have e1 := is_name_ok (rs := some r) hz
  have hl : ∀ me, lendS ⟨[.fr (.adr x), .fr (.str z), .fr G, .fr (.bl q), .no], some r, me⟩ = ⟨[.fr (.adr x), .fr (.str z), .fr (.dic (dII cs)), .fr (.bl q), .no], some (lr r), none⟩ := fun me => by
    unfold lendS lendRs
    simp only [List.map_cons, List.map_nil, lendSl]
    rw [seeR_plain (d := .adr x) rfl, seeR_plain (d := .str z) rfl, seeR_plain (d := .bl q) rfl, seeG hG rfl]
  have lc := h.ln
  have e2 := are_cells_ok (rs := some (lr r)) h.ne (by omega) h.cv
  have e3 := fsorted_sp cs
  walk_at "EV"
  refine r_lendT ?_
  rw [hl]
  walk_at "EV"
  refine ⟨_, lresR_lend (some r), ?_⟩
  walk_at "EV"
  refine r_lendF ?_
  rw [hl]
  refine r_dc (fun p : Int × Int => .int p.1) (sp cs) (fun _ => true) (fun p => .inl p.1) (fun p => .int p.2) (by rw [filt_true]; have := dII_nd (sp_nd h.nd); unfold dII at this; rwa [List.map_map] at this) ?_
  walk_at "EV"
  refine ⟨rfl, by rw [sp_len]; omega, _, _, _, _, _, rfl, rfl, rfl, fun p hp => ?_, ?_⟩
  · have g := fget_dicI (lookI h.nd ((sp_perm cs).mem_iff.mp hp))
    walk_at "EV"
    refine ⟨rfl, ?_⟩
    rw [if_pos rfl]
    walk_at "EV"
    exact ⟨rfl, rfl, rfl⟩
  · rw [filt_true]
    refine ⟨shal_dII (sp cs), _, lresR_lend (some r), ?_⟩
    walk_at "EV"
    exact ⟨rfl, rfl, rfl⟩
theorem cells_new {w : Wt} : m_Write_cells [wD w] (some r) = .ok (.rg r.nxt) (some (r.add (.dic (dII w.cs)))) := by
  refine mk_eq ?_
  show Ok b_Write_cells ⟨[.fr (wD w)], some r, none⟩ _
  unfold b_Write_cells
  walk_at "EV"
  refine r_new ?_
  walk_at "EV"
  first | (refine e_rvN fdict_dic ?_) | skip
  walk_at "EV"
  refine ⟨r, rfl, ?_⟩
  walk_at "EV"
  exact ⟨rfl, rfl⟩
def eqW (w v : Wt) : Bool := (decide (w.nm = v.nm) && eqP w.cs v.cs) && decide (w.rq = v.rq)
theorem weq_ok {w v : Wt} : m_Write___eq__ [wD w, wD v] rs = .ok (.bl (eqW w v)) rs := by
  refine mk_eq ?_
  show Ok b_Write___eq__ ⟨[.fr (wD w), .fr (wD v)], rs, none⟩ _
  unfold b_Write___eq__
  have f1 := feq_dII (a := w.cs) (b := v.cs)
  have f2 := feq_bl (a := w.rq) (b := v.rq)
  have iw : isT tab_Write (wD v) = some true := by unfold wD; exact it_Write_Write
  by_cases h : w.nm = v.nm
  · cases h2 : eqP w.cs v.cs with
    | true =>
      rw [h2] at f1
      walk_at "EV"
      refine ⟨?_, rfl⟩
      unfold eqW
      rw [decide_eq_true h, h2]
      rfl
    | false =>
      rw [h2] at f1
      walk_at "EV"
      refine ⟨?_, rfl⟩
      unfold eqW
      rw [decide_eq_true h, h2]
      rfl
  · walk_at "EV"
    refine ⟨?_, rfl⟩
    unfold eqW
    rw [decide_eq_false h]
    rfl
inductive Oth : D → Prop where
  | non : Oth .non
  | str (z : Str) : Oth (.str z)
  | lst (xs : List D) : Oth (.lst xs)
  | dic (ks : List (Key × D)) : Oth (.dic ks)
  | tup (xs : List D) : Oth (.tup xs)
theorem wne_ok {w : Wt} {x : D} (h : Oth x) : m_Write___eq__ [wD w, x] rs = .ok (.bl false) rs := by
  refine mk_eq ?_
  show Ok b_Write___eq__ ⟨[.fr (wD w), .fr x], rs, none⟩ _
  unfold b_Write___eq__
  cases h <;> (walk_at "EV"; exact ⟨rfl, rfl⟩)
theorem insC_w {w : Wt} : insC "Write" (wD w) = true := by unfold insC wD; exact decide_eq_true rfl
theorem eqOk_ww {w v : Wt} : eqOk "Write" m_Write___eq__ (wD w) (wD v) = some (eqW w v) := by
  unfold eqOk
  rw [if_pos insC_w, if_pos (.inl insC_w), weq_ok]
  rfl
theorem Oth.ty {x : D} (h : Oth x) : insC "Write" x = false ∧ (tyE x).isSome = true := by cases h <;> exact ⟨rfl, rfl⟩
theorem eqOk_wx {w : Wt} {x : D} (h : Oth x) : eqOk "Write" m_Write___eq__ (wD w) x = some false := by
  unfold eqOk
  rw [if_pos insC_w, if_pos (.inr h.ty.2), wne_ok h]
  rfl
theorem eqOk_xw {w : Wt} {x : D} (h : Oth x) : eqOk "Write" m_Write___eq__ x (wD w) = some false := by
  unfold eqOk
  rw [if_neg (by rw [h.ty.1]; exact fun e => nomatch e), if_pos ⟨insC_w, h.ty.2⟩, wne_ok h]
  rfl
def setD (cs : List (Int × Int)) (x : D) : D := match x with
  | .int i => if 0 ≤ i ∧ i ≤ 15 then (lookD (dII cs) (.inl i)).getD .non else .non
  | _ => .non
inductive OddC : D → Prop where
  | non : OddC .non
  | bl (b : Bool) : OddC (.bl b)
  | str (z : Str) : OddC (.str z)
  | lst (xs : List D) : OddC (.lst xs)
  | dic (ks : List (Key × D)) : OddC (.dic ks)
  | tup (xs : List D) : OddC (.tup xs)
theorem is_number_no {x : D} {lo hi : Int} (h : OddC x) : m_is_number [x, .int lo, .int hi] rs = .ok (.bl false) rs := by
  refine mk_eq ?_
  show Ok b_is_number ⟨[.fr x, .fr (.int lo), .fr (.int hi)], rs, none⟩ _
  unfold b_is_number
  cases h <;> (walk_at "EV"; exact ⟨rfl, rfl⟩)
theorem is_cell_no {x : D} (h : OddC x) : m_is_cell [x] rs = .ok (.bl false) rs := by
  refine mk_eq ?_
  show Ok b_is_cell ⟨[.fr x], rs, none⟩ _
  unfold b_is_cell
  have e := is_number_no (rs := rs) (lo := 0) (hi := 15) h
  walk_at "EV"
  exact ⟨rfl, rfl⟩
theorem sets_ok {w : Wt} {x : D} (h : OddC x ∨ ∃ i, x = .int i) : m_Write_sets [wD w, x] rs = .ok (setD w.cs x) rs := by
  refine mk_eq ?_
  show Ok b_Write_sets ⟨[.fr (wD w), .fr x], rs, none⟩ _
  unfold b_Write_sets
  rcases h with h | ⟨i, rfl⟩
  · have e := is_cell_no (rs := rs) h
    walk_at "EV"
    refine ⟨?_, rfl⟩
    cases h <;> rfl
  · have e := is_cell_ok (rs := rs) (x := i)
    by_cases c : 0 ≤ i ∧ i ≤ 15
    · rw [decide_eq_true c] at e
      walk_at "EV"
      refine ⟨?_, rfl⟩
      rw [show setD w.cs (.int i) = if 0 ≤ i ∧ i ≤ 15 then (lookD (dII w.cs) (.inl i)).getD .non else .non from rfl, if_pos c]
    · rw [decide_eq_false c] at e
      walk_at "EV"
      refine ⟨?_, rfl⟩
      rw [show setD w.cs (.int i) = if 0 ≤ i ∧ i ≤ 15 then (lookD (dII w.cs) (.inl i)).getD .non else .non from rfl, if_neg c]
theorem with_required_ok {w : Wt} {q : Bool} (hz : Nm w.nm) (h : PrOk w.cs) : m_Write_with_required [wD w, .bl q] (some r) = .ok (wD (wOf w.nm w.cs q)) (some r) := by
  refine mk_eq ?_
  show Ok b_Write_with_required ⟨[.fr (wD w), .fr (.bl q)], some r, none⟩ _
  unfold b_Write_with_required
  walk_at "EV"
  refine r_make (fun x dx => write_initG hz h (.inl rfl) x dx) ?_
  walk_at "EV"
  exact ⟨rfl, rfl⟩
end
end Lw
end
section
set_option maxHeartbeats 8000000
namespace DL
open PySem PySem.Spec PyProof.Rows L2
theorem r_listItems {s : S} {ga : M A} {KD : D → S → Prop} (h : Ok ga s fun a s1 => Ok (pk a) s1 fun x s2 => ∃ ks, x = .dic ks ∧ KD (.lst (itemsLD ks)) s2) : Ok (gListItems ga) s KD := by
  unfold gListItems
  simp only [ok_bnd]
  refine ok_imp h fun a s1 h1 => ok_imp h1 fun x s2 ⟨ks, e, k⟩ => ?_
  subst e
  dsimp only
  rw [ok_pur]
  exact k
theorem items_dII (cs : List (Int × Int)) : itemsLD (dII cs) = cs.map eP := by
  unfold itemsLD dII
  rw [List.map_map]
  rfl
theorem fdict_eP {cs : List (Int × Int)} (nd : (cs.map (·.1)).Nodup) : FDict [.lst (cs.map eP)] = .nw (.dic (dII cs)) := by
  have e := fdict_pairs (dII_nd nd)
  rw [dII_pairs] at e
  exact e
theorem noRgL_of {xs : List D} (h : ∀ x ∈ xs, noRg x = true) : noRgL xs = true := by
  induction xs with
  | nil => unfold noRgL; rfl
  | cons x r ih =>
    unfold noRgL
    rw [h x (List.mem_cons_self ..), ih fun y hy => h y (List.mem_cons_of_mem _ hy)]
    rfl
theorem noRg_eP (p : Int × Int) : noRg (eP p) = true := by unfold eP noRg noRgL noRg noRgL noRg noRgL; rfl
theorem noRg_ps (cs : List (Int × Int)) : noRg (.lst (cs.map eP)) = true := by
  unfold noRg
  exact noRgL_of fun x hx => by
    obtain ⟨p, _, rfl⟩ := List.mem_map.mp hx
    exact noRg_eP p
theorem noRg_wD (w : Wt) : noRg (wD w) = true := by
  unfold wD noRg noRgF
  rw [noRgF, noRgF, noRgF, noRg_dII]
  unfold noRg
  rfl
theorem fmul_non : FMulX (.lst [.non]) (.int 10) = .nw (.lst (List.replicate 10 .non)) := by
  show (if -(2 ^ 63) ≤ (10 : Int) ∧ (10 : Int) < 2 ^ 63 ∧ 1 * 10 ≤ sizeLine then Rv.nw (.lst (List.replicate 10 [D.non]).flatten) else .no) = _
  rw [if_pos ⟨by decide, by decide, by rw [sizeLine_eq]; omega⟩]
  rfl
instance i_fmul_non : DL.RvN (FMulX (.lst [.non]) (.int 10)) (.lst (List.replicate 10 .non)) := ⟨fmul_non⟩
theorem rp_pr {i : Int} (h : 0 ≤ i ∧ i ≤ 9) : Rp 0 5 (.int i) := rp_int15 (by omega)
end DL
namespace Lw
open PySem PySem.Spec PyProof.Rows L2 DL
def Dsm (r r' : Rs) : Prop := ∀ sd tb t, Dw sd tb t r → Dw sd tb t r'
theorem Dsm.refl (r : Rs) : Dsm r r := fun _ _ _ h => h
theorem Dsm.trans {a b c : Rs} (x : Dsm a b) (y : Dsm b c) : Dsm a c := fun sd tb t h => y sd tb t (x sd tb t h)
theorem Dsm.add {r : Rs} {d : D} : Dsm r (r.add d) := fun _ _ _ h => ⟨h.sd, h.tb, h.dg, h.gr, h.ce, h.lg, h.lc, h.tn0, h.tn⟩
theorem Dsm.put {r : Rs} {k : Nat} {d : D} : Dsm r (r.put k d) := fun _ _ _ h => ⟨h.sd, h.tb, h.dg, h.gr, h.ce, h.lg, h.lc, h.tn0, h.tn⟩
def oddC : List D := [.bl true, .bl false, .non, .str (Str.ofString "0"), .tup [.int 0], .lst [], .dic [], .lst [.int 0], .int (10 ^ 30), .int (-(10 ^ 30))]
def asked : List D := rgD2 (-2) 18 ++ oddC
theorem asked_ok {x : D} (h : x ∈ asked) : OddC x ∨ ∃ i, x = .int i := by
  rcases List.mem_append.mp h with h | h
  · obtain ⟨i, _, rfl⟩ := List.mem_map.mp h
    exact .inr ⟨_, rfl⟩
  · simp only [oddC, List.mem_cons, List.not_mem_nil, or_false] at h
    rcases h with rfl | rfl | rfl | rfl | rfl | rfl | rfl | rfl | rfl | rfl
    · exact .inl (.bl _)
    · exact .inl (.bl _)
    · exact .inl .non
    · exact .inl (.str _)
    · exact .inl (.tup _)
    · exact .inl (.lst _)
    · exact .inl (.dic _)
    · exact .inl (.lst _)
    · exact .inr ⟨_, rfl⟩
    · exact .inr ⟨_, rfl⟩
def getD (cs : List (Int × Int)) (i : Int) : D := (lookD (dII cs) (.inl i)).getD .non
def dues (cs : List (Int × Int)) : List D := ((List.range 20).map fun k : Nat => getD cs (-2 + (k : Int))) ++ List.replicate 10 .non
theorem get_out {cs : List (Int × Int)} (h : PrOk cs) {i : Int} (c : ¬ (0 ≤ i ∧ i ≤ 15)) : getD cs i = .non := by
  unfold getD
  have e : (lookD (dII cs) (.inl i)).isSome = false := by
    rw [dII_some, decide_eq_false fun q => ?_]
    obtain ⟨p, hp, rfl⟩ := List.mem_map.mp q
    exact c (h.cv p hp).1
  rw [Option.isSome_eq_false_iff, Option.isNone_iff_eq_none] at e
  rw [e]; rfl
theorem set_get {cs : List (Int × Int)} (h : PrOk cs) (i : Int) : setD (sp cs) (.int i) = getD cs i := by
  rw [show setD (sp cs) (.int i) = if 0 ≤ i ∧ i ≤ 15 then (lookD (dII (sp cs)) (.inl i)).getD .non else .non from rfl]
  by_cases c : 0 ≤ i ∧ i ≤ 15
  · rw [if_pos c, look_sp h.nd]; rfl
  · rw [if_neg c, get_out h c]
theorem due_eq {cs : List (Int × Int)} (h : PrOk cs) : asked.map (setD (sp cs)) = dues cs := by
  unfold asked dues
  rw [List.map_append]
  congr 1
  · unfold rgD2
    rw [List.map_map]
    refine List.map_congr_left fun k _ => ?_
    exact set_get h _
theorem get_plain {cs : List (Int × Int)} (h : PrOk cs) (i : Int) : Rp 0 5 (getD cs i) := by
  unfold getD
  cases e : lookD (dII cs) (.inl i) with
  | none => exact rp_non
  | some d =>
    have m : i ∈ cs.map (·.1) := by
      have q := dII_some (cs := cs) (c := i)
      rw [e] at q
      exact of_decide_eq_true q.symm
    obtain ⟨p, hp, rfl⟩ := List.mem_map.mp m
    rw [lookI h.nd hp] at e
    cases e
    exact rp_pr (h.cv p hp).2
theorem dues_rp {cs : List (Int × Int)} (h : PrOk cs) : Rp 1 1000 (.lst (dues cs)) := by
  refine (rp_seq (k := 0) (n := 5) (fun x hx => ?_) (by unfold dues; simp)).2
  rcases List.mem_append.mp hx with hx | hx
  · obtain ⟨k, _, rfl⟩ := List.mem_map.mp hx
    exact get_plain h _
  · rw [(List.mem_replicate.mp hx).2]
    exact rp_non
theorem pair_rp {z : Str} {q : Bool} (hz : Nm z) : Rp 1 1000 (.lst [.str z, .bl q]) := by
  refine (rp_seq (k := 0) (n := 100) (fun x hx => ?_) (by simp)).2
  simp only [List.mem_cons, List.not_mem_nil, or_false] at hx
  rcases hx with rfl | rfl
  · exact rp_nm hz
  · exact rp_bl.mono (by omega) (by omega)
section
variable {r : Rs} {cs : List (Int × Int)} {z : Str} {q : Bool}
theorem is_as_made_ok (hz : Nm z) (h : PrOk cs) : ∃ r', m_law_is_as_made [wD (wOf z cs q), .str z, .lst (cs.map eP), .bl q] (some r) = .ok (.bl true) (some r') ∧ Dsm r r' := by
  have key : ∃ d rs', m_law_is_as_made [wD (wOf z cs q), .str z, .lst (cs.map eP), .bl q] (some r) = .ok d rs' ∧ ∃ r', d = .bl true ∧ rs' = some r' ∧ Dsm r r' := by
    refine mk_run ?_
    show Ok b_law_is_as_made ⟨[.fr (wD (wOf z cs q)), .fr (.str z), .fr (.lst (cs.map eP)), .fr (.bl q), .no, .no, .no, .no, .no, .no], some r, none⟩ _
    unfold b_law_is_as_made
    have f1 := fsorted_eP h.nd
    refine e_seqS ⟨[.fr (wD (wOf z cs q)), .fr (.str z), .fr (.lst (cs.map eP)), .fr (.bl q), .fr (.lst ((sp cs).map eP)), .no, .no, .no, .no, .no], some r, none⟩ ?_ ?_
    · walk_at "EV"
      first | (refine e_rvN f1 ?_) | skip
      walk_at "EV"
      exact ⟨rfl, rfl⟩
    refine e_seqE (fun s' => ∃ (r1 : Rs) (x5 x6 : Sl), s' = ⟨[.fr (wD (wOf z cs q)), .fr (.str z), .fr (.lst (cs.map eP)), .fr (.bl q), .fr (.lst ((sp cs).map eP)), x5, x6, .no, .no, .no], some r1, none⟩ ∧ Dsm r r1) ?_ ?_
    · refine r_forJ (fun k : Nat => D.int k) (List.range 2) (fun pre s' => ∃ (r1 : Rs) (x5 x6 : Sl), s' = ⟨[.fr (wD (wOf z cs q)), .fr (.str z), .fr (.lst (cs.map eP)), .fr (.bl q), .fr (.lst ((sp cs).map eP)), x5, x6, .no, .no, .no], some r1, none⟩ ∧ Dsm r r1) ?_ (fun pre j suf s hx ⟨r1, x5, x6, es, d1⟩ => ?_) fun s' ⟨r1, x5, x6, es, d1⟩ => ?_
      · walk_at "EV"
        exact ⟨rfl, r, .no, .no, rfl, .refl r⟩
      · subst es
        refine r_tgN rfl ?_
        have c1 := cells_new (r := r1) (w := wOf z cs q)
        have hl : lendS ⟨[.fr (wD (wOf z cs q)), .fr (.str z), .fr (.lst (cs.map eP)), .fr (.bl q), .fr (.lst ((sp cs).map eP)), .fr (.int (j : Int)), .fr (.rg r1.nxt), .no, .no, .no], some (r1.add (.dic (dII (sp cs)))), none⟩ = ⟨[.fr (wD (wOf z cs q)), .fr (.str z), .fr (.lst (cs.map eP)), .fr (.bl q), .fr (.lst ((sp cs).map eP)), .fr (.int (j : Int)), .fr (.dic (dII (sp cs))), .no, .no, .no], some (lr (r1.add (.dic (dII (sp cs))))), none⟩ := by
          unfold lendS lendRs
          simp only [List.map_cons, List.map_nil, lendSl]
          rw [seeR_plain (noRg_wD _), seeR_plain (d := .str z) rfl, seeR_plain (noRg_ps cs), seeR_plain (d := .bl q) rfl, seeR_plain (noRg_ps (sp cs)), seeR_plain (d := .int (j : Int)) rfl, seeR_rg rfl Rs.at_add rfl (noRg_dII (sp cs))]
        have f2 := fne_self (okD_eP (sp cs))
        refine e_seqS ⟨[.fr (wD (wOf z cs q)), .fr (.str z), .fr (.lst (cs.map eP)), .fr (.bl q), .fr (.lst ((sp cs).map eP)), .fr (.int (j : Int)), .fr (.rg r1.nxt), .no, .no, .no], some (r1.add (.dic (dII (sp cs)))), none⟩ ?_ ?_
        · walk_at "EV"
          exact ⟨rfl, rfl⟩
        walk_at "EV"
        refine r_lendT ?_
        rw [hl]
        walk_at "EV"
        refine r_listItems ?_
        walk_at "EV"
        refine ⟨_, rfl, ?_⟩
        rw [items_dII]
        walk_at "EV"
        refine ⟨_, lresR_lend (some (r1.add (.dic (dII (sp cs))))), ?_⟩
        walk_at "EV"
        refine r_rclr ?_
        walk_at "EV"
        refine ⟨_, _, _, rfl, rfl, Rs.at_add, ?_⟩
        walk_at "EV"
        refine r_rput ?_
        walk_at "EV"
        refine ⟨_, _, _, rfl, rfl, Rs.at_put Rs.at_add, ?_⟩
        walk_at "EV"
        refine ⟨_, _, _, _, rfl, rfl, rfl, Rs.at_put Rs.at_add, by simp, ?_⟩
        walk_at "EV"
        exact ⟨_, _, _, rfl, ((d1.trans .add).trans .put).trans .put⟩
      · exact ⟨rfl, r1, x5, x6, es, d1⟩
    intro s' ⟨r1, x5, x6, es, d1⟩
    subst es
    have g1 := frepr (pair_rp (q := q) hz) (by omega) (by omega)
    have g2 := frepr (dues_rp h) (by omega) (by omega)
    have g3 : ∀ y : Str, FNe (.str y) (.str y) = .old (.bl false) := fun y => by rw [fne_str, decide_eq_true rfl]; rfl
    have g4 := g3 (reprD (.lst [.str z, .bl q]))
    have g5 := g3 (reprD (.lst (dues cs)))
    have g6 : FEq (.str (reprD (.lst (dues cs)))) (.str (reprD (.lst (dues cs)))) = .old (.bl true) := by rw [feq_str, decide_eq_true rfl]
    have g7 : FRepr [.lst [.str (wOf z cs q).nm, .bl (wOf z cs q).rq]] = .old (.str (reprD (.lst [.str z, .bl q]))) := g1
    have c2 := wneed_ok (rs := some r1) (w := wOf z cs q)
    walk_at "EV"
    rw [if_neg (by simp)]
    walk_at "EV"
    refine r_listRange2 ?_
    walk_at "EV"
    refine ⟨_, _, rfl, rfl, by omega, by omega, ?_⟩
    walk_at "EV"
    have p1 : FPow (.int 10) (.int 30) = .old (.int (10 ^ 30)) := fpow_int (by omega) (by omega) (by decide)
    have p2 : FAdd (.lst (rgD2 (-2) 18)) (.lst oddC) = .nw (.lst asked) := fadd_ll (by unfold rgD2 oddC; simp)
    walk_at "EV"
    first | (refine e_rvN p2 ?_) | skip
    have p3 : FAdd (.lst ((List.range 20).map fun k : Nat => getD cs (-2 + (k : Int)))) (.lst (List.replicate 10 .non)) = .nw (.lst (dues cs)) := fadd_ll (by simp)
    have fd := fdict_eP h.nd
    walk_at "EV"
    refine r_lc (fun k : Nat => D.int (-2 + (k : Int))) (List.range 20) (fun _ => true) (fun k => getD cs (-2 + (k : Int))) ?_
    refine r_range2 ?_
    walk_at "EV"
    refine ⟨_, _, rfl, rfl, by omega, by omega, rfl, by simp, _, _, _, _, _, rfl, rfl, rfl, fun k hk => ?_, ?_⟩
    · walk_at "EV"
      refine ⟨rfl, ?_⟩
      rw [if_pos rfl]
      walk_at "EV"
      exact ⟨rfl, rfl⟩
    rw [filt_true]
    walk_at "EV"
    first | (refine e_rvN fmul_non ?_) | skip
    walk_at "EV"
    refine r_lc (fun x : D => x) asked (fun _ => true) (setD (sp cs)) ?_
    walk_at "EV"
    refine ⟨(List.map_id _).symm, by unfold asked rgD2 oddC; simp, _, _, _, _, _, rfl, rfl, rfl, fun x hx => ?_, ?_⟩
    · have s1 := sets_ok (rs := some r1) (w := wOf z cs q) (asked_ok hx)
      walk_at "EV"
      refine ⟨rfl, ?_⟩
      rw [if_pos rfl]
      walk_at "EV"
      exact ⟨rfl, rfl⟩
    rw [filt_true, due_eq h]
    walk_at "EV"
    rw [if_neg (by simp)]
    walk_at "EV"
    refine r_lc (fun x : D => x) asked (fun _ => true) (setD (sp cs)) ?_
    walk_at "EV"
    refine ⟨(List.map_id _).symm, by unfold asked rgD2 oddC; simp, _, _, _, _, _, rfl, rfl, rfl, fun x hx => ?_, ?_⟩
    · have s1 := sets_ok (rs := some r1) (w := wOf z cs q) (asked_ok hx)
      walk_at "EV"
      refine ⟨rfl, ?_⟩
      rw [if_pos rfl]
      walk_at "EV"
      exact ⟨rfl, rfl⟩
    rw [filt_true, due_eq h]
    walk_at "EV"
    exact ⟨r1, by simp, rfl, d1⟩
  obtain ⟨d, rs', e, r', rfl, rfl, dd⟩ := key
  exact ⟨r', e, dd⟩
end
end Lw
end
section
set_option maxHeartbeats 8000000
namespace Lw
open PySem PySem.Spec PyProof.Rows L2 DL
section
variable {r : Rs} {cs ds : List (Int × Int)} {z y : Str} {q p : Bool}
theorem differs_ok (hy : Nm y) (h : PrOk ds) (ne : eqW (wOf y ds p) (wOf z cs q) = false) (ne2 : eqW (wOf z cs q) (wOf y ds p) = false) : m_law_differs [wD (wOf z cs q), .str y, .lst (ds.map eP), .bl p] (some r) = .ok (.bl true) (some r) := by
  refine mk_eq ?_
  show Ok b_law_differs ⟨[.fr (wD (wOf z cs q)), .fr (.str y), .fr (.lst (ds.map eP)), .fr (.bl p), .no, .no, .no], some r, none⟩ _
  unfold b_law_differs
  have fd := fdict_eP h.nd
  walk_at "EV"
  refine r_make (fun x dx => write_initG hy h (.inl rfl) x dx) ?_
  walk_at "EV"
  refine r_lc (fun x : D => x) [wD (wOf y ds p), .non, .str y, .lst (ds.map eP), .dic (dII ds), .tup [.str y, .dic (dII ds), .bl p]] (fun _ => false) (fun x => x) ?_
  walk_at "EV"
  refine ⟨rfl, by simp, _, _, _, _, _, rfl, rfl, rfl, fun x hx => ?_, ?_⟩
  · have e : eqOk "Write" m_Write___eq__ x (wD (wOf z cs q)) = some false ∧ eqOk "Write" m_Write___eq__ (wD (wOf z cs q)) x = some false := by
      simp only [List.mem_cons, List.not_mem_nil, or_false] at hx
      rcases hx with rfl | rfl | rfl | rfl | rfl | rfl
      · exact ⟨by rw [eqOk_ww, ne], by rw [eqOk_ww, ne2]⟩
      · exact ⟨eqOk_xw .non, eqOk_wx .non⟩
      · exact ⟨eqOk_xw (.str _), eqOk_wx (.str _)⟩
      · exact ⟨eqOk_xw (.lst _), eqOk_wx (.lst _)⟩
      · exact ⟨eqOk_xw (.dic _), eqOk_wx (.dic _)⟩
      · exact ⟨eqOk_xw (.tup _), eqOk_wx (.tup _)⟩
    walk_at "EV"
    refine r_own2 ?_
    walk_at "EV"
    refine ⟨_, e.1, ?_⟩
    walk_at "EV"
    refine r_own2 ?_
    walk_at "EV"
    refine ⟨_, e.2, ?_⟩
    walk_at "EV"
    exact ⟨rfl, rfl⟩
  · rw [List.filter_eq_nil_iff.mpr fun _ _ => by simp]
    walk_at "EV"
    exact ⟨rfl, rfl⟩
end
theorem pairs_all2 : ∀ {zs : List Int} {ds : List D}, All2 (fun (z : Int) (d : D) => ∃ v : Int, d = .tup [.int z, .int v] ∧ 0 ≤ v ∧ v ≤ 9) zs ds → ∃ cs : List (Int × Int), ds = cs.map eP ∧ cs.map (·.1) = zs ∧ ∀ p ∈ cs, 0 ≤ p.2 ∧ p.2 ≤ 9
  | [], [], _ => ⟨[], rfl, rfl, fun _ h => nomatch h⟩
  | z :: zs, d :: ds, .cons h t => by
    obtain ⟨v, rfl, hv⟩ := h
    obtain ⟨cs, e1, e2, e3⟩ := pairs_all2 t
    exact ⟨(z, v) :: cs, by rw [e1]; rfl, by rw [← e2]; rfl, fun p hp => by
      rcases List.mem_cons.mp hp with rfl | hp
      · exact hv
      · exact e3 p hp⟩
section
variable {sd : Addr} {tb : List (Addr × Str)} {t : Nat} {r : Rs}
theorem pairs_ok (h : Dw sd tb t r) (ht : t + 5000 < 2 ^ 40) : ∃ (cs : List (Int × Int)) (r' : Rs), m_law_pairs [.adr sd] (some r) = .ok (.lst (cs.map eP)) (some r') ∧ PrOk cs ∧ cs.length ≤ 15 ∧ Dw sd tb (t + 3000) r' := by
  have key : ∃ d rs', m_law_pairs [.adr sd] (some r) = .ok d rs' ∧ ∃ (cs : List (Int × Int)) (r' : Rs), d = .lst (cs.map eP) ∧ rs' = some r' ∧ PrOk cs ∧ cs.length ≤ 15 ∧ Dw sd tb (t + 3000) r' := by
    refine mk_run ?_
    show Ok b_law_pairs ⟨[.fr (.adr sd), .no, .no], some r, none⟩ _
    unfold b_law_pairs
    obtain ⟨k, r1, e1, hk, d1⟩ := next_ok h (by omega) (n := 15) (by omega) (by omega)
    obtain ⟨zs, r2, e2, hz, d2⟩ := spots_ok d1 (by omega) (n := 1 + k) (by omega)
    have e2 : m_law_spots [.adr sd, .int (1 + (k : Int))] (some r1) = .ok (.lst (zs.map .int)) (some r2) := by
      rw [← e2]
      congr 3
    obtain ⟨ys, r3, e3, hp, d3⟩ := shuffled_ok D.int (fun ys => (okD_ints ys).1) zs (by have := hz.len; omega) d2 (by omega)
    have lz := hz.len
    have ly := hp.length_eq
    walk_at "EV"
    refine lc_draw (sd := sd) (tb := tb) (t := t + 1 + 2 + zs.length) D.int ys [.fr (.adr sd), .fr (.lst (ys.map .int)), .no] none (fun z d => ∃ v : Int, d = .tup [.int z, .int v] ∧ 0 ≤ v ∧ v ≤ 9) 1 ?_
    walk_at "EV"
    refine ⟨r3, rfl, by omega, rfl, d3, fun z hzy r4 t' ht' d4 => ?_, fun ds r4 al d4 => ?_⟩
    · obtain ⟨v, r5, e5, hv, d5⟩ := next_ok d4 (by omega) (n := 10) (by omega) (by omega)
      refine ⟨_, rfl, ?_⟩
      walk_at "EV"
      exact ⟨⟨v, rfl, by omega, by omega⟩, r5, rfl, d5⟩
    · obtain ⟨cs, rfl, ek, hv⟩ := pairs_all2 al
      have lc : cs.length = 1 + k := by
        have := congrArg List.length ek
        rw [List.length_map] at this
        omega
      walk_at "EV"
      refine ⟨cs, r4, rfl, rfl, ⟨fun e => by rw [e, List.length_nil] at lc; omega, by omega, by rw [ek]; exact hp.nodup_iff.mpr hz.nd, fun p hp2 => ?_⟩, by omega, d4.mono (by omega)⟩
      have m : p.1 ∈ ys := by rw [← ek]; exact List.mem_map.mpr ⟨p, hp2, rfl⟩
      have := hz.cell p.1 (hp.mem_iff.mp m)
      exact ⟨by omega, hv p hp2⟩
  obtain ⟨d, rs', e, cs, r', rfl, rfl, h1, h2, h3⟩ := key
  exact ⟨cs, r', e, h1, h2, h3⟩
end
end Lw
end
section
set_option maxHeartbeats 8000000
namespace DL
open PySem PySem.Spec PyProof.Rows L2
theorem eqP_len {a b : List (Int × Int)} (h : a.length ≠ b.length) : eqP a b = false := by
  unfold eqP
  rw [decide_eq_false h, Bool.false_and]
theorem r_gMake {s : S} {KA : A → S → Prop} {c : Str} {m : MirI} {dds : List D} {gs : M (List A)} (h : Ok gs s fun as s1 => Ok (forceL as) s1 fun ds s2 => Ok (doMake c m (ds ++ dds)) s2 KA) : Ok (gMake c m dds gs) s KA := by
  unfold gMake
  simp only [ok_bnd]
  exact h
theorem fsl_one {d : D} {ds : List D} : FSl (.lst (d :: ds)) (some 1) none = .nw (.lst ds) := by
  show Rv.nw (.lst (cutD (d :: ds) (some ((1 : Nat) : Int)) none)) = _
  unfold cutD
  rw [HT.sIx_nat, HT.sIx_none, List.length_cons, Nat.min_eq_left (by omega)]
  show Rv.nw (.lst (ds.take (ds.length + 1 - 1))) = _
  rw [List.take_of_length_le (by omega)]
instance i_fsl_one {d : D} {ds : List D} : DL.RvN (FSl (.lst (d :: ds)) (some 1) none) (.lst ds) := ⟨fsl_one⟩
theorem fget_l0 {d : D} {ds : List D} : FGet (.lst (d :: ds)) (.int 0) = .old d := fget_lst (k := 0) rfl rfl
instance i_fget_l0 {d : D} {ds : List D} : DL.RvO (FGet (.lst (d :: ds)) (.int 0)) d := ⟨fget_l0⟩
theorem fne_same {b : Bool} : FNe (.bl b) (.bl b) = .old (.bl false) := by cases b <;> rfl
instance i_fne_same {b : Bool} : DL.RvO (FNe (.bl b) (.bl b)) (.bl false) := ⟨fne_same⟩
theorem eqP_no {a b : List (Int × Int)} {p : Int × Int} (hp : p ∈ a) (h : lookD (dII b) (.inl p.1) ≠ some (.int p.2)) : eqP a b = false := by
  unfold eqP inP
  have e : a.all (hasP b) = false := by
    rw [List.all_eq_false]
    exact ⟨p, hp, fun q => h (hasP_iff.mp q)⟩
  rw [e, Bool.and_false]
end DL
namespace Lw
open PySem PySem.Spec PyProof.Rows L2 DL
section
variable {cs ds : List (Int × Int)} {z y : Str} {q p : Bool}
theorem eqW_self (h : PrOk cs) : eqW (wOf z cs q) (wOf z cs q) = true := by
  unfold eqW
  rw [decide_eq_true rfl, decide_eq_true rfl, show eqP (wOf z cs q).cs (wOf z cs q).cs = true from eqP_self (sp_nd h.nd)]
  rfl
theorem eqW_rq (h : q ≠ p) : eqW (wOf z cs q) (wOf y ds p) = false := by
  unfold eqW
  rw [decide_eq_false (show ¬ (wOf z cs q).rq = (wOf y ds p).rq from h), Bool.and_false]
theorem eqW_nm (h : z ≠ y) : eqW (wOf z cs q) (wOf y ds p) = false := by
  unfold eqW
  rw [decide_eq_false (show ¬ (wOf z cs q).nm = (wOf y ds p).nm from h)]
  rfl
theorem eqW_cs (h : eqP (sp cs) (sp ds) = false) : eqW (wOf z cs q) (wOf y ds p) = false := by
  unfold eqW
  rw [show eqP (wOf z cs q).cs (wOf y ds p).cs = false from h, Bool.and_false]
  rfl
theorem sp_sp (h : PrOk cs) : sp (sp cs) = sp cs := (sp_uniq (sp_nd h.nd) (List.Perm.refl _) (by rw [sp_keys]; exact sortI_sorted _)).symm
theorem PrOk.sp (h : PrOk cs) : PrOk (sp cs) := ⟨fun e => h.ne (List.eq_nil_of_length_eq_zero (by rw [← sp_len, e]; rfl)), by rw [sp_len]; exact h.ln, sp_nd h.nd, fun p hp => h.cv p ((sp_perm cs).mem_iff.mp hp)⟩
theorem wOf_sp (h : PrOk cs) : wOf z (DL.sp cs) q = wOf z cs q := by unfold wOf; rw [sp_sp h]
theorem bent_ok {a : Int × Int} {v : Int} {rest : List (Int × Int)} (h : PrOk (a :: rest)) (hv : 0 ≤ v ∧ v ≤ 9) (ne : v ≠ a.2) : PrOk ((a.1, v) :: rest) ∧ eqP (DL.sp ((a.1, v) :: rest)) (DL.sp (a :: rest)) = false ∧ eqP (DL.sp (a :: rest)) (DL.sp ((a.1, v) :: rest)) = false := by
  have nd2 : ((((a.1, v) :: rest : List (Int × Int))).map (·.1)).Nodup := h.nd
  refine ⟨⟨by simp, h.ln, nd2, fun p hp => ?_⟩, ?_, ?_⟩
  · rcases List.mem_cons.mp hp with rfl | hp
    · exact ⟨(h.cv a (List.mem_cons_self ..)).1, hv⟩
    · exact h.cv p (List.mem_cons_of_mem _ hp)
  · refine eqP_no (p := (a.1, v)) ((sp_perm _).mem_iff.mpr (List.mem_cons_self ..)) ?_
    rw [look_sp h.nd, lookI h.nd (p := a) (List.mem_cons_self ..)]
    intro e
    cases e
    exact ne rfl
  · refine eqP_no (p := a) ((sp_perm _).mem_iff.mpr (List.mem_cons_self ..)) ?_
    rw [look_sp nd2, lookI nd2 (p := (a.1, v)) (List.mem_cons_self ..)]
    intro e
    cases e
    exact ne rfl
theorem more_ok (h : PrOk cs) (hl : cs.length ≤ 15) {i : Int} (hi : 0 ≤ i ∧ i ≤ 15) (ni : i ∉ cs.map (·.1)) : PrOk (cs ++ [(i, 0)]) ∧ eqP (DL.sp (cs ++ [(i, 0)])) (DL.sp cs) = false ∧ eqP (DL.sp cs) (DL.sp (cs ++ [(i, 0)])) = false := by
  refine ⟨⟨by simp, by simp; omega, ?_, fun p hp => ?_⟩, eqP_len (by rw [sp_len, sp_len]; simp), eqP_len (by rw [sp_len, sp_len]; simp)⟩
  · rw [List.map_append]
    refine List.nodup_append.mpr ⟨h.nd, by simp, fun a ha b hb e => ?_⟩
    rw [List.mem_singleton.mp hb] at e
    have e : a = i := e
    exact ni (e ▸ ha)
  · rcases List.mem_append.mp hp with hp | hp
    · exact h.cv p hp
    · rw [List.mem_singleton.mp hp]
      exact ⟨hi, by omega, by omega⟩
theorem free_cell (h : PrOk cs) (hl : cs.length ≤ 15) : ∃ (i : Nat) (rest : List Nat), ((List.range 16).filter fun k : Nat => !decide ((k : Int) ∈ cs.map (·.1))) = i :: rest ∧ i < 16 ∧ (i : Int) ∉ cs.map (·.1) := by
  cases e : (List.range 16).filter fun k : Nat => !decide ((k : Int) ∈ cs.map (·.1)) with
  | nil =>
    exfalso
    rw [List.filter_eq_nil_iff] at e
    have sub : ∀ x ∈ (List.range 16).map (fun k : Nat => (k : Int)), x ∈ cs.map (·.1) := fun x hx => by
      obtain ⟨k, hk, rfl⟩ := List.mem_map.mp hx
      have := e k hk
      simpa using this
    have nd : ((List.range 16).map (fun k : Nat => (k : Int))).Nodup := nodup_map (fun a _ b _ e => by omega) List.nodup_range
    have l := DL.len_sub nd sub
    simp at l
    omega
  | cons i rest =>
    have m : i ∈ (List.range 16).filter fun k : Nat => !decide ((k : Int) ∈ cs.map (·.1)) := by rw [e]; exact List.mem_cons_self ..
    obtain ⟨m1, m2⟩ := List.mem_filter.mp m
    exact ⟨i, rest, rfl, List.mem_range.mp m1, by simpa using m2⟩
end
theorem law_true : LawTrue := by
  intro r hdg htn hgr hce hlg hlc hfz hrg htb
  have d0 : Dw r.sd r.tb 0 r := ⟨rfl, rfl, by omega, hgr, hce, hlg, hlc, by omega, by omega⟩
  have key : Ok b_law ⟨.no :: .fr (.adr r.sd) :: List.replicate 14 .no, some r, none⟩ fun f s => f = .rt (.bl true) := by
    show Ok b_law ⟨[.no, .fr (.adr r.sd), .no, .no, .no, .no, .no, .no, .no, .no, .no, .no, .no, .no, .no, .no], some r, none⟩ _
    unfold b_law
    refine r_seq ?_
    refine r_forJ (fun k : Nat => D.int k) (List.range 4) (fun pre s' => ∃ (r1 : Rs) (x2 x3 x4 x5 x6 x7 x8 x9 x10 x11 x12 x13 x14 x15 : Sl), s' = ⟨[.no, .fr (.adr r.sd), x2, x3, x4, x5, x6, x7, x8, x9, x10, x11, x12, x13, x14, x15], some r1, none⟩ ∧ Dw r.sd r.tb (pre.length * 5000) r1) ?_ (fun pre j suf s hx ⟨r1, x2, x3, x4, x5, x6, x7, x8, x9, x10, x11, x12, x13, x14, x15, es, d1⟩ => ?_) fun s' ⟨r1, x2, x3, x4, x5, x6, x7, x8, x9, x10, x11, x12, x13, x14, x15, es, _⟩ => ?_
    · walk_at "EV"
      exact ⟨rfl, r, _, _, _, _, _, _, _, _, _, _, _, _, _, _, rfl, d0⟩
    · subst es
      have lx := congrArg List.length hx
      simp at lx
      refine r_tgN rfl ?_
      obtain ⟨zs, r2, e1, hz, d2⟩ := names_ok d1 (by omega) (n := 2) (by omega)
      obtain ⟨z, y, rfl⟩ : ∃ z y, zs = [z, y] := by
        have l := hz.len
        match zs, l with
        | [z, y], _ => exact ⟨z, y, rfl⟩
      have nz : z ≠ y := fun e => by have := hz.nd; rw [e] at this; simp at this
      have hz1 : Nm z := hz.nm z (by simp)
      have hz2 : Nm y := hz.nm y (by simp)
      obtain ⟨cs, r3, e2, hc, lc, d3⟩ := pairs_ok d2 (by omega)
      obtain ⟨k, r4, e3, hk, d4⟩ := next_ok d3 (by omega) (n := 2) (by omega) (by omega)
      have e1 : m_law_names [.adr r.sd, .int 2] (some r1) = .ok (.lst [.str z, .str y]) (some r2) := e1
      obtain ⟨q, hq⟩ : ∃ q : Bool, q = decide ((k : Int) = 0) := ⟨_, rfl⟩
      refine e_seqS ⟨[.no, .fr (.adr r.sd), .fr (.int (j : Int)), .fr (.str z), .fr (.str y), x5, x6, x7, x8, x9, x10, x11, x12, x13, x14, x15], some r2, none⟩ ?_ ?_
      · walk_at "EV"
        exact ⟨rfl, rfl⟩
      have hk2 : FEq (.int (k : Int)) (.int 0) = .old (.bl q) := by rw [feq_int, hq]
      refine e_seqS ⟨[.no, .fr (.adr r.sd), .fr (.int (j : Int)), .fr (.str z), .fr (.str y), .fr (.lst (cs.map eP)), .fr (.bl q), x7, x8, x9, x10, x11, x12, x13, x14, x15], some r4, none⟩ ?_ ?_
      · walk_at "EV"
        exact ⟨rfl, by rw [hq]⟩
      obtain ⟨a, rest, rfl⟩ : ∃ a rest, cs = a :: rest := by
        cases cs with
        | nil => exact absurd rfl hc.ne
        | cons a rest => exact ⟨a, rest, rfl⟩
      generalize hcs : a :: rest = cs at *
      have fd := fdict_eP hc.nd
      have g0 : FGet (.lst (cs.map eP)) (.int 0) = .old (eP a) := by rw [← hcs]; exact fget_l0
      have g1 : FGet (eP a) (.int 0) = .old (.int a.1) := fget_t0
      have g2 : FGet (eP a) (.int 1) = .old (.int a.2) := fget_t1
      have av := (hc.cv a (by rw [← hcs]; exact List.mem_cons_self ..))
      refine e_seqS ⟨[.no, .fr (.adr r.sd), .fr (.int (j : Int)), .fr (.str z), .fr (.str y), .fr (.lst (cs.map eP)), .fr (.bl q), .fr (.rg r4.nxt), .fr (.int a.1), x9, x10, x11, x12, x13, x14, x15], some (r4.add (.dic (dII cs))), none⟩ ?_ ?_
      · walk_at "EV"
        refine r_new ?_
        walk_at "EV"
        refine ⟨r4, rfl, ?_⟩
        walk_at "EV"
        exact ⟨rfl, rfl⟩
      have hG : SeenG (r4.add (.dic (dII cs))) cs (.rg r4.nxt) := .inr ⟨_, rfl, Rs.at_add⟩
      refine e_seqS ⟨[.no, .fr (.adr r.sd), .fr (.int (j : Int)), .fr (.str z), .fr (.str y), .fr (.lst (cs.map eP)), .fr (.bl q), .fr (.rg r4.nxt), .fr (.int a.1), .fr (wD (wOf z cs q)), .fr (wD (wOf z cs q)), x11, x12, x13, x14, x15], some (r4.add (.dic (dII cs))), none⟩ ?_ ?_
      · walk_at "EV"
        refine r_make (fun x dx => write_initG hz1 hc hG x dx) ?_
        walk_at "EV"
        refine r_make (fun x dx => write_initG hz1 hc hG x dx) ?_
        walk_at "EV"
        exact ⟨rfl, rfl⟩
      refine e_seqS ⟨[.no, .fr (.adr r.sd), .fr (.int (j : Int)), .fr (.str z), .fr (.str y), .fr (.lst (cs.map eP)), .fr (.bl q), .fr (.rg r4.nxt), .fr (.int a.1), .fr (wD (wOf z cs q)), .fr (wD (wOf z cs q)), .fr (wD (wOf z cs false)), x12, x13, x14, x15], some (r4.add (.dic (dII cs))), none⟩ ?_ ?_
      · walk_at "EV"
        refine r_gMake ?_
        walk_at "EV"
        refine r_make (fun x dx => write_initG hz1 hc hG x dx) ?_
        walk_at "EV"
        exact ⟨rfl, rfl⟩
      refine e_seqS ⟨[.no, .fr (.adr r.sd), .fr (.int (j : Int)), .fr (.str z), .fr (.str y), .fr (.lst (cs.map eP)), .fr (.bl q), .fr (.rg r4.nxt), .fr (.int a.1), .fr (wD (wOf z cs q)), .fr (wD (wOf z cs q)), .fr (wD (wOf z cs false)), x12, x13, x14, x15], some ((r4.add (.dic (dII cs))).put r4.nxt (.dic [])), none⟩ ?_ ?_
      · walk_at "EV"
        refine r_rclr ?_
        walk_at "EV"
        refine ⟨_, _, _, rfl, rfl, Rs.at_add, ?_⟩
        walk_at "EV"
        exact ⟨rfl, rfl⟩
      refine e_seqE (fun s' => ∃ R, s' = ⟨[.no, .fr (.adr r.sd), .fr (.int (j : Int)), .fr (.str z), .fr (.str y), .fr (.lst (cs.map eP)), .fr (.bl q), .fr (.rg r4.nxt), .fr (.int a.1), .fr (wD (wOf z cs q)), .fr (wD (wOf z cs q)), .fr (wD (wOf z cs false)), x12, x13, x14, x15], some R, none⟩ ∧ Dsm r4 R) ?_ ?_
      · walk_at "EV"
        refine r_rput ?_
        walk_at "EV"
        refine ⟨_, _, _, rfl, rfl, Rs.at_put Rs.at_add, ?_⟩
        walk_at "EV"
        exact ⟨_, _, _, _, rfl, rfl, rfl, Rs.at_put Rs.at_add, by simp, rfl, _, rfl, (Dsm.add.trans .put).trans .put⟩
      intro s' ⟨R, es, ds⟩
      subst es
      obtain ⟨R1, q1, ds1⟩ := is_as_made_ok (r := R) (q := q) hz1 hc
      obtain ⟨R2, q2, ds2⟩ := is_as_made_ok (r := R1) (q := q) hz1 hc
      obtain ⟨R3, q3, ds3⟩ := is_as_made_ok (r := R2) (q := false) hz1 hc
      obtain ⟨R4, q4, ds4⟩ := is_as_made_ok (r := R3) (q := !q) hz1 hc
      have dd := (((ds.trans ds1).trans ds2).trans ds3).trans ds4
      have d5 := dd _ _ _ d4
      have w1 : m_Write_with_required [wD (wOf z cs q), .bl (!q)] (some R3) = .ok (wD (wOf z cs (!q))) (some R3) := by
        have e := with_required_ok (r := R3) (w := wOf z cs q) (q := !q) hz1 hc.sp
        rw [show wOf (wOf z cs q).nm (wOf z cs q).cs (!q) = wOf z (sp cs) (!q) from rfl, wOf_sp hc] at e
        exact e
      have w2 : m_Write_with_required [wD (wOf z cs (!q)), .bl q] (some R4) = .ok (wD (wOf z cs q)) (some R4) := by
        have e := with_required_ok (r := R4) (w := wOf z cs (!q)) (q := q) hz1 hc.sp
        rw [show wOf (wOf z cs (!q)).nm (wOf z cs (!q)).cs q = wOf z (sp cs) q from rfl, wOf_sp hc] at e
        exact e
      have w3 : m_Write_with_required [wD (wOf z cs q), .bl q] (some R4) = .ok (wD (wOf z cs q)) (some R4) := by
        have e := with_required_ok (r := R4) (w := wOf z cs q) (q := q) hz1 hc.sp
        rw [show wOf (wOf z cs q).nm (wOf z cs q).cs q = wOf z (sp cs) q from rfl, wOf_sp hc] at e
        exact e
      have nq : (!q) ≠ q := by cases q <;> simp
      have o1 : eqOk "Write" m_Write___eq__ (wD (wOf z cs q)) (wD (wOf z cs q)) = some true := by rw [eqOk_ww, eqW_self hc]
      have o2 : eqOk "Write" m_Write___eq__ (wD (wOf z cs q)) (wD (wOf z cs false)) = some (!q) := by
        rw [eqOk_ww]
        cases q with
        | false => rw [eqW_self hc]; rfl
        | true => rw [eqW_rq (by simp)]; rfl
      have o3 : eqOk "Write" m_Write___eq__ (wD (wOf z cs (!q))) (wD (wOf z cs q)) = some false := by rw [eqOk_ww, eqW_rq nq]
      have fn := fne_same (b := !q)
      walk_at "EV"
      refine r_own2 ?_
      walk_at "EV"
      refine ⟨_, o1, ?_⟩
      walk_at "EV"
      refine r_own2 ?_
      walk_at "EV"
      refine ⟨_, o2, ?_⟩
      walk_at "EV"
      refine r_own2 ?_
      walk_at "EV"
      refine ⟨_, o3, ?_⟩
      walk_at "EV"
      refine r_own2 ?_
      walk_at "EV"
      refine ⟨_, o1, ?_⟩
      walk_at "EV"
      refine r_own2 ?_
      walk_at "EV"
      refine ⟨_, o1, ?_⟩
      obtain ⟨k2, R5, e5, hk5, d6⟩ := next_ok d5 (by omega) (n := 9) (by omega) (by omega)
      obtain ⟨v, hv⟩ : ∃ v : Int, v = (a.2 + 1 + (k2 : Int)) % 10 := ⟨_, rfl⟩
      have fs : FSl (.lst (cs.map eP)) (some 1) none = .nw (.lst (rest.map eP)) := by rw [← hcs]; exact fsl_one
      have fa : FAdd (.lst [.tup [.int a.1, .int v]]) (.lst (rest.map eP)) = .nw (.lst (((a.1, v) :: rest).map eP)) := fadd_ll (by have := hc.ln; rw [← hcs] at this; simp at this ⊢; omega)
      obtain ⟨b1, b2, b3⟩ := bent_ok (a := a) (v := v) (rest := rest) (by rw [hcs]; exact hc) (by omega) (by omega)
      rw [hcs] at b2 b3
      subst hv
      obtain ⟨i, li, hi, i1, i2⟩ := free_cell hc lc
      obtain ⟨m1, m2, m3⟩ := more_ok hc lc (i := (i : Int)) (by omega) i2
      have fm : FAdd (.lst (cs.map eP)) (.lst [.tup [.int (i : Int), .int 0]]) = .nw (.lst ((cs ++ [((i : Int), 0)]).map eP)) := by
        rw [List.map_append]
        exact fadd_ll (by simp; omega)
      have v1 := differs_ok (r := R5) (cs := cs) (ds := cs) (z := z) (y := y) (q := q) (p := q) hz2 hc (eqW_nm (fun e => nz e.symm)) (eqW_nm nz)
      have v2 := differs_ok (r := R5) (cs := cs) (ds := (a.1, (a.2 + 1 + (k2 : Int)) % 10) :: rest) (z := z) (y := z) (q := q) (p := q) hz1 b1 (eqW_cs b2) (eqW_cs b3)
      have v3 := differs_ok (r := R5) (cs := cs) (ds := cs ++ [((i : Int), 0)]) (z := z) (y := z) (q := q) (p := q) hz1 m1 (eqW_cs m2) (eqW_cs m3)
      have v4 := differs_ok (r := R5) (cs := cs) (ds := cs) (z := z) (y := z) (q := q) (p := !q) hz1 hc (eqW_rq nq) (eqW_rq nq.symm)
      walk_at "EV"
      refine r_lc (fun k : Nat => D.int k) (List.range 16) (fun k => !decide ((k : Int) ∈ cs.map (·.1))) (fun k => D.int k) ?_
      walk_at "EV"
      refine ⟨rfl, by simp, _, _, _, _, _, rfl, rfl, rfl, fun k hk => ?_, ?_⟩
      · have fi := fni_dII (cs := cs) (c := (k : Int))
        walk_at "EV"
        refine ⟨rfl, ?_⟩
        split
        · walk_at "EV"
          exact ⟨rfl, rfl⟩
        · rfl
      rw [hi]
      have gi : FGet (.lst ((i :: li).map fun k : Nat => D.int k)) (.int 0) = .old (.int i) := fget_l0
      walk_at "EV"
      exact ⟨R5, _, _, _, _, _, _, _, _, _, _, _, _, _, _, rfl, d6.mono (by simp; omega)⟩
    · subst es
      walk_at "EV"
      rfl
  obtain ⟨f, s, e, rfl⟩ := ok_get key
  exact ⟨s, e⟩
end Lw
end
open PySem PySem.W PyProof.Rows
set_option maxRecDepth 100000 in
set_option maxHeartbeats 8000000 in
theorem PySem.Challenge.cw_lastwrites_k01_writes_as_made_holds : PySem.Challenge.rw_lastwrites_k01_writes_as_made.Holds := by
  exact Lw.holds Lw.law_true
