import PyProof.Rows.All
import Wide.All
import OpenK.AllK
import Wide.FinOn
import HandS.ForMost
import HandS.Exc
import HandS.Defaults
import HandS.Walk
import HandS.Lambda
import HandS.Flow
import HandS.TupAny
import HandS.Deep
import HandS.CallSlots
import HandS.IsInst
import HandS.SortInts
import HandS.RaiseMore
import HandS.TupLen
import HandS.WordsDict
import HandS.More
import HandS.Small
import KE.GoesMore
import KE.GoesEnum
import HandS.StrMore
import HandS.Dict
import HandS.HeadHook3
import KE.GoesEnumKw
import PyProof.Rows.CallKwBuiltin
import KE.DataMinMax
import HandS.Conv
import HandS.ExcInit
import HandS.ExcField
import KE.KExcInit
import HandS.DictComp
import HandS.Style
import HandS.EndTab
import HandS.SlotsOwn
import HandS.FStr
import HandS.TryMany
import HandS.MakeKw
import KE.GoesRaise
import KE.KDictZip
import KE.GoesZip
import HandS.ListItems
import KE.KDictPairs
import HandS.Head0
import HandS.Head1
import HandS.Head2
import HandS.HeadEnd
import HandS.HeadHook1
import HandS.HeadHook2
import HandS.SetFor
import HandS.Strs
import PyProof.StrBlock2
import KE.KExcIs
import HandS.TupMul
import KE.SortKeyHeap
import KE.KLam
import PyProof.Rows.StrPadFill
import PyProof.Rows.StrPadWhole
import HandS.IntHex
import KE.KEqDict
import HandS.HeadWalk
import KE.KAssignIn
import PyProof.Rows.TupleMadeD
import KE.KCallOwn
import OpenK.KOps
import PyProof.Conv_bool
import PyProof.InstEq
import HandS.CallLocal
import HandS.SetKeys
import HandS.Flt
import HandS.TryOnly
import KE.KRevSl
import PySem.Challenge.RW_tracklay_k15_families_judged
set_option Elab.async false
set_option linter.all false
set_option maxRecDepth 100000
set_option maxHeartbeats 4000000
namespace VS
open PySem PySem.Spec PyProof.Rows L2
abbrev K1 := Sum Int (List Nat)
abbrev DK := Sum K1 (List K1)
inductive D where
  | und | non | bl (b : Bool) | int (i : Int) | str (s : List Nat)
  | tup (ds : List D) | lst (ds : List D) | scr (ds : List D) | tix (ds : List D) | dic (t : Bool) (kvs : List (DK × D)) | fdi (kvs : List (DK × D)) | fdt (kvs : List (DK × D)) | ref (n : Nat) | ins (x : Str) (fs : List (Str × D)) | fnc (x : Str)
  deriving Inhabited
abbrev Store := List D
structure Exc where
  cls : Str
  fs : List (Str × D)
inductive Res (α : Type) where
  | ok (a : α) (S : Store)
  | exc (x : Exc) (S : Store)
  | bad
abbrev M (α : Type) := Store → Res α
def M.pure {α : Type} (a : α) : M α := fun S => .ok a S
def M.bind {α β : Type} (m : M α) (f : α → M β) : M β := fun S => match m S with
  | .ok a S' => f a S'
  | .exc x S' => .exc x S'
  | .bad => .bad
instance : Monad M where
  pure := M.pure
  bind := M.bind
def M.bad {α : Type} : M α := fun _ => .bad
def k1 : Key → K1
  | .inl i => .inl i
  | .inr x => .inr x.cps.toList
def StrOk (s : List Nat) : Prop := s.length ≤ 16777216 ∧ ∀ c ∈ s, c < 1114112
def keyOk : Key → Prop
  | .inl _ => True
  | .inr x => StrOk x.cps.toList
class Tables where
  T : List (Addr × Str)
  C : Str → Addr := fun _ => 0
instance (priority := low) noTables : Tables := ⟨[], fun _ => 0⟩
variable [Tables]
mutual
def Rep (H : Hp) (O : Addr → Prop) (A : List Addr) : D → V → Prop
  | .und, _ => False
  | .non, v => v = .non
  | .bl b, v => v = .bl b
  | .int i, v => v = .int i
  | .str s, v => v = .str ⟨s.toArray⟩ ∧ StrOk s
  | .tup ds, v => ∃ a vs, v = .ref a ∧ H a = some (.tup vs) ∧ RepL H O A ds vs
  | .lst ds, v => ∃ a vs, v = .ref a ∧ H a = some (.lst vs) ∧ ¬ O a ∧ RepL H O A ds vs
  | .scr ds, v => ∃ a o vs, v = .ref a ∧ H a = some (.frz o (.lst vs)) ∧ RepL H O A ds vs
  | .tix ds, v => ∃ a o vs, v = .ref a ∧ H a = some (.frz o (.tup vs)) ∧ o.dict = none ∧ RepL H O A ds vs
  | .dic t kvs, v => ∃ a, v = .ref a ∧ ¬ O a ∧ match t with
    | false => ∃ l : List (Key × V), H a = some (.dK l) ∧ RepK H O A kvs l
    | true => ∃ l : List (List Key × V), H a = some (.dT l) ∧ RepT H O A kvs l
  | .fdi kvs, v => ∃ a o, ∃ l : List (Key × V), v = .ref a ∧ H a = some (.frz o (.dK l)) ∧ RepK H O A kvs l
  | .fdt kvs, v => ∃ a o, ∃ l : List (List Key × V), v = .ref a ∧ H a = some (.frz o (.dT l)) ∧ RepT H O A kvs l
  | .ref n, v => ∃ a, A[n]? = some a ∧ v = .ref a
  | .ins x fs, v => ∃ a, v = .ref a ∧ ¬ O a ∧ ∃ dx us, H a = some (.ins (Tables.C x) dx us) ∧ RepF H O A fs us
  | .fnc x, v => v = .ref (Tables.C x)
def RepL (H : Hp) (O : Addr → Prop) (A : List Addr) : List D → List V → Prop
  | [], vs => vs = []
  | d :: ds, vs => ∃ v r, vs = v :: r ∧ Rep H O A d v ∧ RepL H O A ds r
def RepK (H : Hp) (O : Addr → Prop) (A : List Addr) : List (DK × D) → List (Key × V) → Prop
  | [], l => l = []
  | p :: ps, l => ∃ k v r, l = (k, v) :: r ∧ (keyOk k ∧ RepP H O A p (.inl (k1 k)) v) ∧ RepK H O A ps r
def RepT (H : Hp) (O : Addr → Prop) (A : List Addr) : List (DK × D) → List (List Key × V) → Prop
  | [], l => l = []
  | p :: ps, l => ∃ k v r, l = (k, v) :: r ∧ ((∀ y ∈ k, keyOk y) ∧ RepP H O A p (.inr (k.map k1)) v) ∧ RepT H O A ps r
def RepP (H : Hp) (O : Addr → Prop) (A : List Addr) : DK × D → DK → V → Prop
  | (k, d), k', v => k = k' ∧ Rep H O A d v
def RepF (H : Hp) (O : Addr → Prop) (A : List Addr) : List (Str × D) → List (Str × V) → Prop
  | [], us => us = []
  | p :: ps, us => ∃ f v r, us = (f, v) :: r ∧ RepG H O A p f v ∧ RepF H O A ps r
def RepG (H : Hp) (O : Addr → Prop) (A : List Addr) : Str × D → Str → V → Prop
  | (f, d), f', v => f = f' ∧ Rep H O A d v
end
def Mut : Option HO → Prop
  | some (.lst _) => True
  | some (.dK _) => True
  | some (.dT _) => True
  | some (.ins _ _ _) => True
  | _ => False
theorem Mut.l2 {o : Option HO} (h : Mut o) : L2.Mut o := by
  cases o with
  | none => exact h.elim
  | some u => cases u <;> first | exact True.intro | exact h.elim
def NoTbl : HO → Prop
  | .tbl _ => False
  | _ => True
structure Chg (Mt : Addr → Prop) (H H' : Hp) : Prop where
  keep0 : ∀ b o, H b = some o → ¬ Mt b → NoTbl o → H' b = some o
  imm0 : ∀ b o, H b = some o → ¬ Mut (some o) → NoTbl o → H' b = some o
  dom : ∀ b, H b ≠ none → H' b ≠ none
  tab : LamX.Tabs Tables.T H → LamX.Tabs Tables.T H'
theorem Chg.keep {Mt : Addr → Prop} {H H' : Hp} (a : Chg Mt H H') (b : Addr) (o : HO) (h : H b = some o) (n : ¬ Mt b) (t : NoTbl o := by exact True.intro) : H' b = some o := a.keep0 b o h n t
theorem Chg.imm {Mt : Addr → Prop} {H H' : Hp} (a : Chg Mt H H') (b : Addr) (o : HO) (h : H b = some o) (n : ¬ Mut (some o)) (t : NoTbl o := by exact True.intro) : H' b = some o := a.imm0 b o h n t
theorem Chg.refl {Mt : Addr → Prop} {H : Hp} : Chg Mt H H := ⟨fun _ _ h _ _ => h, fun _ _ h _ _ => h, fun _ h => h, fun h => h⟩
theorem Chg.trans {Mt Mt' : Addr → Prop} {H H1 H2 : Hp} (a : Chg Mt H H1) (b : Chg Mt' H1 H2) (hm : ∀ x, Mt' x → Mt x ∨ H x = none) : Chg Mt H H2 :=
  ⟨fun x o h n t => b.keep0 x o (a.keep0 x o h n t) (fun z => (hm x z).elim n fun e => (by rw [e] at h; cases h)) t, fun x o h n t => b.imm0 x o (a.imm0 x o h n t) n t, fun x h => b.dom x (a.dom x h), fun h => b.tab (a.tab h)⟩
theorem Chg.mono {Mt Mt' : Addr → Prop} {H H' : Hp} (a : Chg Mt H H') (h : ∀ x, Mt x → Mt' x) : Chg Mt' H H' := ⟨fun b o e n => a.keep0 b o e fun z => n (h b z), a.imm0, a.dom, a.tab⟩
theorem upd_dom {H : Hp} {p b : Addr} {o : HO} (h : H b ≠ none) : upd H p o b ≠ none := by
  by_cases e : b = p
  · rw [e, upd_same]; exact fun z => by cases z
  · rw [upd_ne e]; exact h
theorem tab_upd {H : Hp} {p : Addr} {o : HO} (h : H p = none ∨ Mut (H p)) {P : Addr} {q : Str} (t : LamX.TabS H P q) : LamX.TabS (upd H p o) P q := by
  obtain ⟨ps, hP, ok, ha⟩ := t
  have ne : ∀ {b : Addr} {u : HO}, H b = some u → ¬ Mut (some u) → b ≠ p := fun {b u} e n z => by
    subst z
    rw [e] at h
    rcases h with h | h
    · cases h
    · exact n h
  refine ⟨ps, by rw [upd_ne (ne hP fun z => z)]; exact hP, ok, fun pos cv hc => ?_⟩
  obtain ⟨c, e1, e2⟩ := ha pos cv hc
  exact ⟨c, e1, by rw [upd_ne (ne e2 fun z => z)]; exact e2⟩
theorem chg_new {Mt : Addr → Prop} {H : Hp} {p : Addr} {o : HO} (h : H p = none) : Chg Mt H (upd H p o) :=
  ⟨fun b o e _ _ => (by rw [upd_ne (ne_of_none e h)]; exact e), fun b o e _ _ => (by rw [upd_ne (ne_of_none e h)]; exact e), fun b h => upd_dom h, fun t p hp => tab_upd (.inl h) (t p hp)⟩
section
variable {H H' : Hp} {O O' : Addr → Prop} {A A' : List Addr} {Mt : Addr → Prop}
structure Go (Mt : Addr → Prop) (H H' : Hp) (O O' : Addr → Prop) (A A' : List Addr) : Prop where
  chg : Chg Mt H H'
  mo : ∀ a, Mt a → O a
  oo : ∀ a, O' a → O a ∨ H a = none
  aa : ∀ (n : Nat) (a : Addr), A[n]? = some a → A'[n]? = some a
mutual
theorem Rep.go (g : Go Mt H H' O O' A A') : ∀ (d : D) (v : V), Rep H O A d v → Rep H' O' A' d v
  | .und, _, h => h
  | .non, _, h => h
  | .bl _, _, h => h
  | .int _, _, h => h
  | .str _, _, h => h
  | .tup ds, v, h => by
    obtain ⟨a, vs, e, r, l⟩ := h
    exact ⟨a, vs, e, g.chg.imm _ _ r fun z => z, RepL.go g ds vs l⟩
  | .lst ds, v, h => by
    obtain ⟨a, vs, e, r, n, l⟩ := h
    exact ⟨a, vs, e, g.chg.keep _ _ r (fun z => n (g.mo a z)), fun z => (g.oo a z).elim n fun q => (by rw [r] at q; cases q), RepL.go g ds vs l⟩
  | .scr ds, v, h => by
    obtain ⟨a, o, vs, e, r, l⟩ := h
    exact ⟨a, o, vs, e, g.chg.imm _ _ r fun z => z, RepL.go g ds vs l⟩
  | .tix ds, v, h => by
    obtain ⟨a, o, vs, e, r, dn, l⟩ := h
    exact ⟨a, o, vs, e, g.chg.imm _ _ r fun z => z, dn, RepL.go g ds vs l⟩
  | .dic t kvs, v, h => by
    obtain ⟨a, e, n, q⟩ := h
    cases t with
    | false =>
      obtain ⟨l, q, r⟩ := q
      exact ⟨a, e, fun z => (g.oo a z).elim n fun q' => (by rw [q] at q'; cases q'), l, g.chg.keep _ _ q (fun z => n (g.mo a z)), RepK.go g kvs l r⟩
    | true =>
      obtain ⟨l, q, r⟩ := q
      exact ⟨a, e, fun z => (g.oo a z).elim n fun q' => (by rw [q] at q'; cases q'), l, g.chg.keep _ _ q (fun z => n (g.mo a z)), RepT.go g kvs l r⟩
  | .fdi kvs, v, h => by
    obtain ⟨a, o, l, e, r, q⟩ := h
    exact ⟨a, o, l, e, g.chg.imm _ _ r fun z => z, RepK.go g kvs l q⟩
  | .fdt kvs, v, h => by
    obtain ⟨a, o, l, e, r, q⟩ := h
    exact ⟨a, o, l, e, g.chg.imm _ _ r fun z => z, RepT.go g kvs l q⟩
  | .ref n, v, h => by
    obtain ⟨a, e, q⟩ := h
    exact ⟨a, g.aa n a e, q⟩
  | .ins x fs, v, h => by
    obtain ⟨a, e, n, dx, us, q, r⟩ := h
    exact ⟨a, e, fun z => (g.oo a z).elim n fun q' => (by rw [q] at q'; cases q'), dx, us, g.chg.keep _ _ q (fun z => n (g.mo a z)), RepF.go g fs us r⟩
  | .fnc _, _, h => h
theorem RepL.go (g : Go Mt H H' O O' A A') : ∀ (ds : List D) (vs : List V), RepL H O A ds vs → RepL H' O' A' ds vs
  | [], _, h => h
  | d :: ds, _, h => by
    obtain ⟨v, r, e, h1, h2⟩ := h
    exact ⟨v, r, e, Rep.go g d v h1, RepL.go g ds r h2⟩
theorem RepK.go (g : Go Mt H H' O O' A A') : ∀ (ds : List (DK × D)) (l : List (Key × V)), RepK H O A ds l → RepK H' O' A' ds l
  | [], _, h => h
  | p :: ds, _, h => by
    obtain ⟨k, v, r, e, h1, h2⟩ := h
    exact ⟨k, v, r, e, ⟨h1.1, RepP.go g p _ v h1.2⟩, RepK.go g ds r h2⟩
theorem RepT.go (g : Go Mt H H' O O' A A') : ∀ (ds : List (DK × D)) (l : List (List Key × V)), RepT H O A ds l → RepT H' O' A' ds l
  | [], _, h => h
  | p :: ds, _, h => by
    obtain ⟨k, v, r, e, h1, h2⟩ := h
    exact ⟨k, v, r, e, ⟨h1.1, RepP.go g p _ v h1.2⟩, RepT.go g ds r h2⟩
theorem RepP.go (g : Go Mt H H' O O' A A') : ∀ (p : DK × D) (k : DK) (v : V), RepP H O A p k v → RepP H' O' A' p k v
  | (k, d), k', v, h => by
    obtain ⟨e, h1⟩ := h
    exact ⟨e, Rep.go g d v h1⟩
theorem RepF.go (g : Go Mt H H' O O' A A') : ∀ (fs : List (Str × D)) (us : List (Str × V)), RepF H O A fs us → RepF H' O' A' fs us
  | [], _, h => h
  | p :: fs, _, h => by
    obtain ⟨f, v, r, e, h1, h2⟩ := h
    exact ⟨f, v, r, e, RepG.go g p f v h1, RepF.go g fs r h2⟩
theorem RepG.go (g : Go Mt H H' O O' A A') : ∀ (p : Str × D) (f : Str) (v : V), RepG H O A p f v → RepG H' O' A' p f v
  | (k, d), k', v, h => by
    obtain ⟨e, h1⟩ := h
    exact ⟨e, Rep.go g d v h1⟩
end
end
def OwnOk (H : Hp) (O : Addr → Prop) (A : List Addr) (a : Addr) : D → Prop
  | .lst ds => ∃ vs, H a = some (.lst vs) ∧ RepL H O A ds vs
  | .dic t kvs => match t with
    | false => ∃ l : List (Key × V), H a = some (.dK l) ∧ RepK H O A kvs l
    | true => ∃ l : List (List Key × V), H a = some (.dT l) ∧ RepT H O A kvs l
  | .ins x fs => ∃ dx us, H a = some (.ins (Tables.C x) dx us) ∧ RepF H O A fs us
  | _ => False
theorem OwnOk.go {Mt : Addr → Prop} {H H' : Hp} {O O' : Addr → Prop} {A A' : List Addr} (g : Go Mt H H' O O' A A') {a : Addr} (n : ¬ Mt a) {d : D} (h : OwnOk H O A a d) : OwnOk H' O' A' a d := by
  cases d with
  | lst ds =>
    obtain ⟨vs, e, r⟩ := h
    exact ⟨vs, g.chg.keep _ _ e n, RepL.go g ds vs r⟩
  | dic t kvs =>
    cases t with
    | false =>
      obtain ⟨l, e, r⟩ := h
      exact ⟨l, g.chg.keep _ _ e n, RepK.go g kvs l r⟩
    | true =>
      obtain ⟨l, e, r⟩ := h
      exact ⟨l, g.chg.keep _ _ e n, RepT.go g kvs l r⟩
  | ins x fs =>
    obtain ⟨dx, us, e, r⟩ := h
    exact ⟨dx, us, g.chg.keep _ _ e n, RepF.go g fs us r⟩
  | _ => exact h
theorem OwnOk.rep {H : Hp} {O : Addr → Prop} {A : List Addr} {a : Addr} {d : D} (h : OwnOk H O A a d) (n : ¬ O a) : Rep H O A d (.ref a) := by
  cases d with
  | lst ds =>
    obtain ⟨vs, e, r⟩ := h
    exact ⟨a, vs, rfl, e, n, r⟩
  | dic t kvs => exact ⟨a, rfl, n, h⟩
  | ins x fs => exact ⟨a, rfl, n, h⟩
  | _ => exact h.elim
theorem OwnOk.here {H : Hp} {O : Addr → Prop} {A : List Addr} {a : Addr} {d : D} (h : OwnOk H O A a d) : Mut (H a) ∧ H a ≠ none := by
  cases d with
  | lst ds =>
    obtain ⟨vs, e, r⟩ := h
    rw [e]; exact ⟨trivial, fun z => by cases z⟩
  | dic t kvs =>
    cases t <;> (obtain ⟨l, e, r⟩ := h; rw [e]; exact ⟨trivial, fun z => by cases z⟩)
  | ins x fs =>
    obtain ⟨dx, us, e, r⟩ := h
    rw [e]; exact ⟨trivial, fun z => by cases z⟩
  | _ => exact h.elim
def CellOk (H : Hp) (O : Addr → Prop) (A : List Addr) (a : Addr) (d : D) : Prop := d = .und ∨ OwnOk H O A a d
structure Act where
  pu : Bool
  H0 : Hp
  O0 : Addr → Prop
  A0 : List Addr
def Act.plus (a : Act) (p : Addr) : Act := ⟨a.pu, a.H0, fun b => a.O0 b ∨ b = p, a.A0⟩
abbrev Own := List (Option Addr)
def Ex (O0 : Addr → Prop) (A : List Addr) (own : Own) (b : Addr) : Prop := O0 b ∨ b ∈ A ∨ some b ∈ own
def SlotOk (H : Hp) (O : Addr → Prop) (A : List Addr) (v : Option V) (d : D) : Option Addr → Prop
  | none => d = .und ∨ ∃ x, v = some x ∧ Rep H O A d x
  | some a => v = some (.ref a) ∧ OwnOk H O A a d
structure Rel (act : Act) (own : Own) (ρ : List D) (S : Store) (A : List Addr) (σ : L2.St) (H : Hp) : Prop where
  len1 : ρ.length = σ.length
  len2 : own.length = σ.length
  slot : ∀ (i : Nat) d o v, ρ[i]? = some d → own[i]? = some o → σ[i]? = some v → SlotOk H (Ex act.O0 A own) A v d o
  inj : ∀ (i j : Nat) a, own[i]? = some (some a) → own[j]? = some (some a) → i = j
  lenA : A.length = S.length
  cell : ∀ (n : Nat) d a, S[n]? = some d → A[n]? = some a → CellOk H (Ex act.O0 A own) A a d
  nodA : A.Nodup
  apart : ∀ a, some a ∈ own → a ∉ A
  apart0 : ∀ a, some a ∈ own → ¬ act.O0 a
  pre : act.A0 <+: A
  newA : ∀ a, a ∈ A → a ∈ act.A0 ∨ act.H0 a = none
  newO : ∀ a, some a ∈ own → act.H0 a = none
  trk : ∀ b, Ex act.O0 A own b → H b ≠ none
  chg : Chg (fun b => act.pu = false ∧ b ∈ act.A0) act.H0 H
structure Step (pu : Bool) (A : List Addr) (H : Hp) (A' : List Addr) (H' : Hp) : Prop where
  pre : A <+: A'
  new : ∀ a, a ∈ A' → a ∈ A ∨ H a = none
  chg : Chg (fun b => pu = false ∧ b ∈ A) H H'
theorem pre_mem {A A' : List Addr} (h : A <+: A') {a : Addr} (e : a ∈ A) : a ∈ A' := by
  obtain ⟨t, rfl⟩ := h
  exact List.mem_append_left _ e
theorem pre_get {A A' : List Addr} (h : A <+: A') {n : Nat} {a : Addr} (e : A[n]? = some a) : A'[n]? = some a := by
  obtain ⟨t, rfl⟩ := h
  rw [List.getElem?_append_left (List.getElem?_eq_some_iff.mp e).1]
  exact e
theorem Step.refl {pu : Bool} {A : List Addr} {H : Hp} : Step pu A H A H := ⟨List.prefix_refl _, fun _ h => .inl h, Chg.refl⟩
theorem Step.trans {pu : Bool} {A A1 A2 : List Addr} {H H1 H2 : Hp} (a : Step pu A H A1 H1) (b : Step pu A1 H1 A2 H2) : Step pu A H A2 H2 := by
  have key : ∀ x, H1 x = none → x ∉ A → H x = none := fun x e n => by
    cases q : H x with
    | none => rfl
    | some o => exact absurd e (a.chg.dom x (by rw [q]; exact fun z => by cases z))
  refine ⟨a.pre.trans b.pre, fun x h => ?_, a.chg.trans b.chg fun x h => (a.new x h.2).imp (fun q => ⟨h.1, q⟩) id⟩
  rcases b.new x h with h | h
  · exact a.new x h
  · by_cases hx : x ∈ A
    · exact .inl hx
    · exact .inr (key x h hx)
theorem step_chg {pu : Bool} {A : List Addr} {H H' : Hp} (h : Chg (fun b => pu = false ∧ b ∈ A) H H') : Step pu A H A H' := ⟨List.prefix_refl _, fun _ h => .inl h, h⟩
theorem step_new {pu : Bool} {A : List Addr} {H : Hp} {p : Addr} {o : HO} (h : H p = none) : Step pu A H A (upd H p o) := step_chg (chg_new h)
theorem Step.go {pu : Bool} {A A' : List Addr} {H H' : Hp} {O0 : Addr → Prop} {own : Own} (s : Step pu A H A' H') : Go (fun b => pu = false ∧ b ∈ A) H H' (Ex O0 A own) (Ex O0 A' own) A A' :=
  ⟨s.chg, fun _ h => .inr (.inl h.2), fun a h => by
    rcases h with h | h | h
    · exact .inl (.inl h)
    · exact (s.new a h).imp (fun z => .inr (.inl z)) id
    · exact .inl (.inr (.inr h)), fun _ _ e => pre_get s.pre e⟩
theorem Rel.grow {act : Act} {own : Own} {ρ : List D} {S : Store} {A : List Addr} {σ : L2.St} {H H' : Hp} (r : Rel act own ρ S A σ H) (h : Chg (fun _ => False) H H') : Rel act own ρ S A σ H' := by
  have g : Go (fun _ => False) H H' (Ex act.O0 A own) (Ex act.O0 A own) A A := ⟨h, fun _ z => z.elim, fun _ z => .inl z, fun _ _ e => e⟩
  refine ⟨r.len1, r.len2, fun i d o v h1 h2 h3 => ?_, r.inj, r.lenA, fun n d a h1 h2 => ?_, r.nodA, r.apart, r.apart0, r.pre, r.newA, r.newO, fun b hb => h.dom b (r.trk b hb), r.chg.trans h fun _ z => z.elim⟩
  · have q := r.slot i d o v h1 h2 h3
    cases o with
    | none => exact q.imp id fun ⟨x, e, z⟩ => ⟨x, e, Rep.go g _ _ z⟩
    | some a => exact ⟨q.1, OwnOk.go g (fun z => z) q.2⟩
  · exact (r.cell n d a h1 h2).imp id fun z => OwnOk.go g (fun z => z) z
theorem Rel.alloc {act : Act} {own : Own} {ρ : List D} {S : Store} {A : List Addr} {σ : L2.St} {H : Hp} (r : Rel act own ρ S A σ H) {p : Addr} {o : HO} (h : H p = none) : Rel act own ρ S A σ (upd H p o) := r.grow (chg_new h)
theorem Rel.plus {act : Act} {own : Own} {ρ : List D} {S : Store} {A : List Addr} {σ : L2.St} {H H' : Hp} (r : Rel act own ρ S A σ H) {p : Addr} (hp : H p = none) (h : Chg (fun _ => False) H H') (hp' : H' p ≠ none) : Rel (act.plus p) own ρ S A σ H' := by
  have ex : ∀ b, Ex (act.plus p).O0 A own b → Ex act.O0 A own b ∨ b = p := fun b hb => by
    rcases hb with (hb | hb) | hb
    · exact .inl (.inl hb)
    · exact .inr hb
    · exact .inl (.inr hb)
  have g : Go (fun _ => False) H H' (Ex act.O0 A own) (Ex (act.plus p).O0 A own) A A := ⟨h, fun _ z => z.elim, fun a z => (ex a z).imp id fun e => (by rw [e]; exact hp), fun _ _ e => e⟩
  refine ⟨r.len1, r.len2, fun i d o v h1 h2 h3 => ?_, r.inj, r.lenA, fun n d a h1 h2 => ?_, r.nodA, r.apart, fun a ha q => q.elim (r.apart0 a ha) (fun e => r.trk a (.inr (.inr ha)) (by rw [e]; exact hp)), r.pre, r.newA, r.newO, fun b hb => ?_, r.chg.trans h fun _ z => z.elim⟩
  · have q := r.slot i d o v h1 h2 h3
    cases o with
    | none => exact q.imp id fun ⟨x, e, z⟩ => ⟨x, e, Rep.go g _ _ z⟩
    | some a => exact ⟨q.1, OwnOk.go g (fun z => z) q.2⟩
  · exact (r.cell n d a h1 h2).imp id fun z => OwnOk.go g (fun z => z) z
  · rcases ex b hb with q | q
    · exact h.dom b (r.trk b q)
    · rw [q]; exact hp'
theorem Rel.minus {act : Act} {own : Own} {ρ : List D} {S : Store} {A : List Addr} {σ : L2.St} {H : Hp} {p : Addr} (r : Rel (act.plus p) own ρ S A σ H) : Rel act own ρ S A σ H := by
  have ex : ∀ b, Ex act.O0 A own b → Ex (act.plus p).O0 A own b := fun b hb => hb.imp .inl id
  have g : Go (fun _ => False) H H (Ex (act.plus p).O0 A own) (Ex act.O0 A own) A A := ⟨Chg.refl, fun _ z => z.elim, fun a z => .inl (ex a z), fun _ _ e => e⟩
  refine ⟨r.len1, r.len2, fun i d o v h1 h2 h3 => ?_, r.inj, r.lenA, fun n d a h1 h2 => ?_, r.nodA, r.apart, fun a ha q => r.apart0 a ha (.inl q), r.pre, r.newA, r.newO, fun b hb => r.trk b (ex b hb), r.chg⟩
  · have q := r.slot i d o v h1 h2 h3
    cases o with
    | none => exact q.imp id fun ⟨x, e, z⟩ => ⟨x, e, Rep.go g _ _ z⟩
    | some a => exact ⟨q.1, OwnOk.go g (fun z => z) q.2⟩
  · exact (r.cell n d a h1 h2).imp id fun z => OwnOk.go g (fun z => z) z
end VS
namespace VS
open PySem PySem.Spec PyProof.Rows L2
variable [Tables]
section
variable (X : Cx)
def wpE (e : Expr) : TE := fun σ H Q => ∀ pins s, Inv X pins σ H s → wpAny (model X.prog X.w) X.A (eval e X.env) (EP X pins σ Q) X.xe s
def wpT (e : Expr) : TT := fun σ H Q => ∀ pins s, Inv X pins σ H s → wpAny (model X.prog X.w) X.A (isTrue e X.env (eval e X.env)) (TP X pins σ Q) X.xe s
def wpW (e : Expr) : TT := fun σ H Q => ∀ whole pins s, Inv X pins σ H s → wpAny (model X.prog X.w) X.A (isTrue e X.env whole) (TP X pins σ Q) X.xe s
def wpA (es : List Expr) : TA := fun σ H Q => ∀ pos pins s, Inv X pins σ H s → wpAny (model X.prog X.w) X.A (spliced (backTo pos (starEach es X.env))) (AP X pins σ Q) X.xe s
def wpS (st : Stmt) : TS := fun D σ H => ∀ pins s, Inv X pins σ H s → wpAny (model X.prog X.w) X.A (exec st X.env) (SP X pins D) X.xe s
def wpSs (st : List Stmt) : TS := fun D σ H => ∀ pins s, Inv X pins σ H s → wpAny (model X.prog X.w) X.A (execs st X.env) (SP X pins D) X.xe s
def wpG (tg : Expr) : TG := fun v σ H Q => ∀ pins s u, Inv X pins σ H s → RelV v u → wpAny (model X.prog X.w) X.A (assign tg X.env u) (fun _ s' => ∃ σ' H', Inv X pins σ' H' s' ∧ Q σ' H') X.xe s
def wpI (tg iter : Expr) : TI := fun σ H R => ∀ pins s, Inv X pins σ H s → wpAny (model X.prog X.w) X.A (eval iter X.env) (fun v s1 => wpAny (model X.prog X.w) X.A (pyIter v) (PIE X pins σ tg R) X.xe s1) X.xe s
def wpC (ifs : List Expr) : TT := fun σ H Q => ∀ pins s, Inv X pins σ H s → wpAny (model X.prog X.w) X.A (forIn ifs true fun c r => if r = true then do let ok ← isTrue c X.env (eval c X.env); pure (ForInStep.yield ok) else pure (ForInStep.yield r)) (TP X pins σ Q) X.xe s
end
section
variable {X : Cx}
theorem pss_wp {st : List Stmt} : PSs X st (wpSs X st) := ⟨fun pins s _ _ _ I h => h pins s I⟩
end
structure Glo where
  P : Program
  w : World
  K : PySem.W.Frag
  mg : Str → Option Value
  base : Heap
structure Sta where
  g : Glo
  N : List Str
  sc : Scope
  k : Nat
  cel : Bool
  fr : Bool
  pu : Bool
  ep : Bool
  lam : Option (Addr × Addr × Str)
structure On (c : Sta) (X : Cx) : Prop where
  prog : X.prog = c.g.P
  w : X.w = c.g.w
  K : X.K = c.g.K
  mg : X.mg = c.g.mg
  base : X.base = c.g.base
  N : X.N = c.N
  sc : X.env.scope = c.sc
  nd : X.N.Nodup
  room : Room c.k X.A
  calm : X.calm = true
  cel : c.cel = true → ∀ x, X.fn x = true
  pass : PassesOwn (model X.prog X.w) X.A X.env X.xe
  stk : c.cel = true → X.stack = X.env :: X.outer
  frm : c.cel = true → X.env.frame = some X.env.locals
  lam : ∀ x, c.lam = some x → X.env.code = .ref x.1 ∧ X.env.qual ++ "<lambda>" = x.2.2
def ExcOk (g : Glo) (H : Hp) (O : Addr → Prop) (A : List Addr) (x : Exc) (cls : Value) (oe : Option Addr) : Prop :=
  ∃ C, g.mg x.cls = some (.ref C) ∧ cls = .ref C ∧ ∃ d fs, oe = some d ∧ H d = some (.xd fs) ∧ ∀ f v, (f, v) ∈ x.fs → ∃ u, fs.lookup f = some u ∧ Rep H O A v u
structure Sit where
  g : Glo
  X : Cx
  W : WX
  act : Act
  own : Own
  ρ : List D
  S : Store
  A : List Addr
  σ : L2.St
  H : Hp
  ep : Bool
structure Sit.Ok (z : Sit) (c : Sta) (Γ : List Bool) : Prop where
  g : z.g = c.g
  on : On c z.X
  tk : Takes z.X z.W
  own : z.own.map Option.isSome = Γ
  pu : z.act.pu = c.pu ∧ z.ep = c.ep ∧ (z.act.pu = true → z.ep = true) ∧ LamX.Tabs Tables.T z.act.H0
  rel : Rel z.act z.own z.ρ z.S z.A z.σ z.H
abbrev Sit.to (z : Sit) (S' : Store) (A' : List Addr) (H' : Hp) : Sit := { z with S := S', A := A', H := H' }
abbrev Sit.O (z : Sit) : Addr → Prop := Ex z.act.O0 z.A z.own
theorem Sit.Ok.to {z : Sit} {c : Sta} {Γ : List Bool} (h : z.Ok c Γ) {S' : Store} {A' : List Addr} {H' : Hp} (r : Rel z.act z.own z.ρ S' A' z.σ H') : (z.to S' A' H').Ok c Γ := ⟨h.g, h.on, h.tk, h.own, h.pu, r⟩
def Post {α β : Type} (z : Sit) (ok : α → Store → β → List Addr → Hp → Prop) (r : Res α) (Q : β → Hp → Prop) : Prop :=
  match r with
  | .ok a S' => ∀ b H' A', Step z.ep z.A z.H A' H' → ok a S' b A' H' → Q b H'
  | .exc x S' => ∀ cls oe H' A', Step z.ep z.A z.H A' H' → Rel z.act z.own z.ρ S' A' z.σ H' → ExcOk z.g H' (Ex z.act.O0 A' z.own) A' x cls oe → z.W cls oe z.σ H'
  | .bad => False
theorem Post.step {α β : Type} {z : Sit} {ok : α → Store → β → List Addr → Hp → Prop} {r : Res α} {Q : β → Hp → Prop} {S' : Store} {A' : List Addr} {H' : Hp} (s : Step z.ep z.A z.H A' H') (h : Post z ok r Q) : Post (z.to S' A' H') ok r Q := by
  cases r with
  | ok a S2 => exact fun b H2 A2 s2 o => h b H2 A2 (s.trans s2) o
  | exc x S2 => exact fun cls oe H2 A2 s2 r2 o => h cls oe H2 A2 (s.trans s2) r2 o
  | bad => exact h
theorem Post.bind {α β γ δ : Type} {z : Sit} {ok1 : α → Store → β → List Addr → Hp → Prop} {ok2 : γ → Store → δ → List Addr → Hp → Prop} {m : M α} {f : α → M γ} {Q : δ → Hp → Prop} {R : β → Hp → Prop} (h : Post z ok2 ((m >>= f) z.S) Q)
    (k : ∀ a b S' A' H', Step z.ep z.A z.H A' H' → ok1 a S' b A' H' → Post (z.to S' A' H') ok2 (f a S') Q → R b H') : Post z ok1 (m z.S) R := by
  have e : (m >>= f) z.S = match m z.S with | .ok a S' => f a S' | .exc x S' => .exc x S' | .bad => .bad := rfl
  rw [e] at h
  cases q : m z.S with
  | ok a S' => rw [q] at h; exact fun b H' A' s o => k a b S' A' H' s o (h.step s)
  | exc x S' => rw [q] at h; exact h
  | bad => rw [q] at h; exact h
theorem Post.imp {α β : Type} {z : Sit} {ok ok' : α → Store → β → List Addr → Hp → Prop} {r : Res α} {Q : β → Hp → Prop} (h : Post z ok r Q) (k : ∀ a S' b A' H', Step z.ep z.A z.H A' H' → ok' a S' b A' H' → ok a S' b A' H') : Post z ok' r Q := by
  cases r with
  | ok a S2 => exact fun b H2 A2 s2 o => h b H2 A2 s2 (k _ _ _ _ _ s2 o)
  | exc x S2 => exact h
  | bad => exact h
def VOk (z : Sit) (br : Bool) (d : D) (v : V) (A : List Addr) (H : Hp) : Prop := Rep H (Ex z.act.O0 A z.own) A d v ∨ (br = true ∧ ∃ a, v = .ref a ∧ (some a ∈ z.own ∨ (z.ep = true ∧ a ∈ A)) ∧ OwnOk H (Ex z.act.O0 A z.own) A a d)
abbrev Sit.R (z : Sit) (S' : Store) (A' : List Addr) (H' : Hp) : Prop := Rel z.act z.own z.ρ S' A' z.σ H'
def okE (z : Sit) (br : Bool) (d : D) (S' : Store) (v : V) (A' : List Addr) (H' : Hp) : Prop := z.R S' A' H' ∧ VOk z br d v A' H'
def okF (z : Sit) (d : D) (S' : Store) (v : V) (A' : List Addr) (H' : Hp) : Prop := ∃ a, v = .ref a ∧ z.H a = none ∧ a ∉ A' ∧ Rel (z.act.plus a) z.own z.ρ S' A' z.σ H' ∧ OwnOk H' (Ex (z.act.plus a).O0 A' z.own) A' a d
theorem VOk.step {z : Sit} {br : Bool} {d : D} {v : V} {A A' : List Addr} {H H' : Hp} {S : Store} (r : z.R S A H) (s : Step z.ep A H A' H') (h : VOk z br d v A H) : VOk z br d v A' H' := by
  rcases h with h | ⟨hb, a, e, m, o⟩
  · exact .inl (Rep.go s.go d v h)
  · exact .inr ⟨hb, a, e, m.imp id fun q => ⟨q.1, pre_mem s.pre q.2⟩, OwnOk.go s.go (fun q => m.elim (fun m => r.apart a m q.2) fun m => by rw [m.1] at q; cases q.1) o⟩
theorem Sit.Ok.free {z : Sit} {c : Sta} {Γ : List Bool} (h : z.Ok c Γ) {p : Addr} (e : z.H p = none) {S' : Store} {A' : List Addr} {H' : Hp} (s : Step z.ep z.A z.H A' H') (n : p ∉ A') : ¬ Ex z.act.O0 A' z.own p := fun q => by
  rcases q with q | q | q
  · exact h.rel.trk p (.inl q) e
  · exact n q
  · exact h.rel.trk p (.inr (.inr q)) e
theorem okF.strict {z : Sit} {c : Sta} {Γ : List Bool} (h : z.Ok c Γ) {br : Bool} {d : D} {S' : Store} {v : V} {A' : List Addr} {H' : Hp} (s : Step z.ep z.A z.H A' H') (f : okF z d S' v A' H') : okE z br d S' v A' H' := by
  obtain ⟨a, e, n, na, r, o⟩ := f
  have r' := r.minus
  refine ⟨r', .inl ?_⟩
  have g : Go (fun _ => False) H' H' (Ex (z.act.plus a).O0 A' z.own) (Ex z.act.O0 A' z.own) A' A' := ⟨Chg.refl, fun _ x => x.elim, fun b q => .inl (q.imp .inl id), fun _ _ e => e⟩
  rw [e]
  exact (OwnOk.go g (fun x => x) o).rep (h.free n (S' := S') s na)
structure VE (c : Sta) (Γ : List Bool) (br : Bool) (e : Expr) (f : List D → M D) : Prop where
  run : ∀ z : Sit, z.Ok c Γ → ∀ Q : VK, Post z (okE z br) (f z.ρ z.S) Q → wpE z.X e z.σ z.H Q
instance {c : Sta} {Γ : List Bool} {br : Bool} {e : Expr} {f : List D → M D} : CoeFun (VE c Γ br e f) fun _ => ∀ z : Sit, z.Ok c Γ → ∀ Q : VK, Post z (okE z br) (f z.ρ z.S) Q → wpE z.X e z.σ z.H Q := ⟨VE.run⟩
structure VF (c : Sta) (Γ : List Bool) (e : Expr) (f : List D → M D) : Prop where
  run : ∀ z : Sit, z.Ok c Γ → ∀ Q : VK, Post z (okF z) (f z.ρ z.S) Q → wpE z.X e z.σ z.H Q
instance {c : Sta} {Γ : List Bool} {e : Expr} {f : List D → M D} : CoeFun (VF c Γ e f) fun _ => ∀ z : Sit, z.Ok c Γ → ∀ Q : VK, Post z (okF z) (f z.ρ z.S) Q → wpE z.X e z.σ z.H Q := ⟨VF.run⟩
def okT (z : Sit) (b : Bool) (S' : Store) (b' : Bool) (A' : List Addr) (H' : Hp) : Prop := z.R S' A' H' ∧ b = b'
structure VT (c : Sta) (Γ : List Bool) (e : Expr) (f : List D → M Bool) : Prop where
  run : ∀ z : Sit, z.Ok c Γ → ∀ Q : Bool → Hp → Prop, Post z (okT z) (f z.ρ z.S) Q → wpT z.X e z.σ z.H Q
instance {c : Sta} {Γ : List Bool} {e : Expr} {f : List D → M Bool} : CoeFun (VT c Γ e f) fun _ => ∀ z : Sit, z.Ok c Γ → ∀ Q : Bool → Hp → Prop, Post z (okT z) (f z.ρ z.S) Q → wpT z.X e z.σ z.H Q := ⟨VT.run⟩
structure VW (c : Sta) (Γ : List Bool) (e : Expr) (f : List D → M Bool) : Prop where
  run : ∀ z : Sit, z.Ok c Γ → ∀ Q : Bool → Hp → Prop, Post z (okT z) (f z.ρ z.S) Q → wpW z.X e z.σ z.H Q
instance {c : Sta} {Γ : List Bool} {e : Expr} {f : List D → M Bool} : CoeFun (VW c Γ e f) fun _ => ∀ z : Sit, z.Ok c Γ → ∀ Q : Bool → Hp → Prop, Post z (okT z) (f z.ρ z.S) Q → wpW z.X e z.σ z.H Q := ⟨VW.run⟩
def okA (z : Sit) (br : Bool) (ds : List D) (S' : Store) (vs : List V) (A' : List Addr) (H' : Hp) : Prop := z.R S' A' H' ∧ Paired (fun d v => VOk z br d v A' H') ds vs
structure VA (c : Sta) (Γ : List Bool) (br : Bool) (es : List Expr) (f : List D → M (List D)) : Prop where
  run : ∀ z : Sit, z.Ok c Γ → ∀ Q : List V → Hp → Prop, Post z (okA z br) (f z.ρ z.S) Q → wpA z.X es z.σ z.H Q
instance {c : Sta} {Γ : List Bool} {br : Bool} {es : List Expr} {f : List D → M (List D)} : CoeFun (VA c Γ br es f) fun _ => ∀ z : Sit, z.Ok c Γ → ∀ Q : List V → Hp → Prop, Post z (okA z br) (f z.ρ z.S) Q → wpA z.X es z.σ z.H Q := ⟨VA.run⟩
theorem VF.e {c : Sta} {Γ : List Bool} {br : Bool} {e : Expr} {f : List D → M D} (h : VF c Γ e f) : VE c Γ br e f := VE.mk <| fun z hz Q p => h z hz Q (p.imp fun _ _ _ _ _ s o => o.strict hz s)
theorem VE.br {c : Sta} {Γ : List Bool} {br : Bool} {e : Expr} {f : List D → M D} (h : VE c Γ false e f) : VE c Γ br e f := VE.mk <| fun z hz Q p => h z hz Q (p.imp fun _ _ _ _ _ s o => ⟨o.1, o.2.elim .inl fun x => by cases x.1⟩)
structure Move (A : List Addr) (own : Own) (H : Hp) (A' : List Addr) (own' : Own) (H' : Hp) : Prop where
  pre : A <+: A'
  newA : ∀ a, a ∈ A' → a ∈ A ∨ H a = none
  newO : ∀ a, some a ∈ own' → some a ∈ own ∨ H a = none
  chg : Chg (fun b => b ∈ A ∨ some b ∈ own) H H'
theorem Move.refl {A : List Addr} {own : Own} {H : Hp} : Move A own H A own H := ⟨List.prefix_refl _, fun _ h => .inl h, fun _ h => .inl h, Chg.refl⟩
theorem Move.trans {A A1 A2 : List Addr} {own own1 own2 : Own} {H H1 H2 : Hp} (a : Move A own H A1 own1 H1) (b : Move A1 own1 H1 A2 own2 H2) : Move A own H A2 own2 H2 := by
  have fresh : ∀ x, H1 x = none → H x = none := fun x e => by
    cases q : H x with
    | none => rfl
    | some o => exact absurd e (a.chg.dom x (by rw [q]; exact fun z => by cases z))
  refine ⟨a.pre.trans b.pre, fun x h => ?_, fun x h => ?_, a.chg.trans b.chg fun x h => ?_⟩
  · exact (b.newA x h).elim (fun h => a.newA x h) fun e => .inr (fresh x e)
  · exact (b.newO x h).elim (fun h => a.newO x h) fun e => .inr (fresh x e)
  · rcases h with h | h
    · exact (a.newA x h).imp .inl id
    · exact (a.newO x h).imp .inr id
inductive Out where
  | nx (ρ : List D) (S : Store)
  | ret (d : D) (S : Store)
  | exc (x : Exc) (ρ : List D) (S : Store)
  | bad
def okR (act : Act) (fr : Bool) (d : D) (S' : Store) (v : V) (A' : List Addr) (H' : Hp) : Prop :=
  match fr with
  | true => ∃ a, v = .ref a ∧ act.H0 a = none ∧ a ∉ A' ∧ Rel (act.plus a) [] [] S' A' [] H' ∧ OwnOk H' (Ex (act.plus a).O0 A' []) A' a d
  | false => Rel act [] [] S' A' [] H' ∧ Rep H' (Ex act.O0 A' []) A' d v
def SPost (z : Sit) (c : Sta) (Γ' : List Bool) (r : Out) (D : Ends) : Prop :=
  match r with
  | .nx ρ' S' => ∀ own' A' σ' H', own'.map Option.isSome = Γ' → Rel z.act own' ρ' S' A' σ' H' → Move z.A z.own z.H A' own' H' → D.nx σ' H'
  | .ret d S' => ∀ v A' H', okR z.act c.fr d S' v A' H' → D.rt v H'
  | .exc x ρ' S' => ∀ cls oe A' σ' H', Rel z.act (σ'.map fun _ => none) ρ' S' A' σ' H' → Move z.A z.own z.H A' [] H' → ExcOk z.g H' (Ex z.act.O0 A' []) A' x cls oe → z.W cls oe σ' H'
  | .bad => False
structure VSt (c : Sta) (Γ Γ' : List Bool) (st : Stmt) (f : List D → Store → Out) : Prop where
  run : ∀ z : Sit, z.Ok c Γ → ∀ D : Ends, SPost z c Γ' (f z.ρ z.S) D → wpS z.X st D z.σ z.H
instance {c : Sta} {Γ Γ' : List Bool} {st : Stmt} {f : List D → Store → Out} : CoeFun (VSt c Γ Γ' st f) fun _ => ∀ z : Sit, z.Ok c Γ → ∀ D : Ends, SPost z c Γ' (f z.ρ z.S) D → wpS z.X st D z.σ z.H := ⟨VSt.run⟩
structure VBl (c : Sta) (Γ Γ' : List Bool) (st : List Stmt) (f : List D → Store → Out) : Prop where
  run : ∀ z : Sit, z.Ok c Γ → ∀ D : Ends, SPost z c Γ' (f z.ρ z.S) D → wpSs z.X st D z.σ z.H
instance {c : Sta} {Γ Γ' : List Bool} {st : List Stmt} {f : List D → Store → Out} : CoeFun (VBl c Γ Γ' st f) fun _ => ∀ z : Sit, z.Ok c Γ → ∀ D : Ends, SPost z c Γ' (f z.ρ z.S) D → wpSs z.X st D z.σ z.H := ⟨VBl.run⟩
end VS
namespace VS
open PySem PySem.Spec PyProof.Rows L2
variable [Tables]
section
variable {H H' : Hp} {O : Addr → Prop} {A : List Addr}
theorem RepL.len : ∀ {ds : List D} {vs : List V}, RepL H O A ds vs → vs.length = ds.length
  | [], vs, h => by rw [show vs = [] from h]; rfl
  | d :: ds, vs, h => by
    obtain ⟨v, r, e, _, h2⟩ := h
    rw [e, List.length_cons, List.length_cons, RepL.len h2]
theorem RepL.get : ∀ {ds : List D} {vs : List V} {i : Nat} {d : D}, RepL H O A ds vs → ds[i]? = some d → ∃ v, vs[i]? = some v ∧ Rep H O A d v
  | [], _, _, _, _, e => by simp at e
  | d :: ds, vs, 0, x, h, e => by
    obtain ⟨v, r, e1, h1, h2⟩ := h
    subst e1
    have e : d = x := by simpa using e
    subst e
    exact ⟨v, rfl, h1⟩
  | d :: ds, vs, i + 1, x, h, e => by
    obtain ⟨v, r, e1, h1, h2⟩ := h
    subst e1
    exact RepL.get (i := i) h2 (by simpa using e)
theorem RepL.cons {d : D} {ds : List D} {v : V} {vs : List V} (h : Rep H O A d v) (t : RepL H O A ds vs) : RepL H O A (d :: ds) (v :: vs) := ⟨v, vs, rfl, h, t⟩
theorem RepL.nil : RepL H O A [] [] := rfl
theorem RepL.append : ∀ {ds es : List D} {vs us : List V}, RepL H O A ds vs → RepL H O A es us → RepL H O A (ds ++ es) (vs ++ us)
  | [], es, vs, us, h, t => by rw [show vs = [] from h]; exact t
  | d :: ds, es, vs, us, h, t => by
    obtain ⟨v, r, e, h1, h2⟩ := h
    subst e
    exact .cons h1 (RepL.append h2 t)
theorem RepL.take : ∀ {ds : List D} {vs : List V} (n : Nat), RepL H O A ds vs → RepL H O A (ds.take n) (vs.take n)
  | _, _, 0, _ => rfl
  | [], vs, n + 1, h => by rw [show vs = [] from h]; rfl
  | d :: ds, vs, n + 1, h => by
    obtain ⟨v, r, e, h1, h2⟩ := h
    subst e
    exact .cons h1 (RepL.take n h2)
theorem RepL.drop : ∀ {ds : List D} {vs : List V} (n : Nat), RepL H O A ds vs → RepL H O A (ds.drop n) (vs.drop n)
  | _, _, 0, h => h
  | [], vs, n + 1, h => by rw [show vs = [] from h]; rfl
  | d :: ds, vs, n + 1, h => by
    obtain ⟨v, r, e, h1, h2⟩ := h
    subst e
    exact RepL.drop n h2
theorem RepL.set {d : D} {v : V} (h0 : Rep H O A d v) : ∀ {ds : List D} {vs : List V} (n : Nat), RepL H O A ds vs → RepL H O A (ds.set n d) (vs.set n v)
  | [], vs, n, h => by rw [show vs = [] from h]; rfl
  | d' :: ds, vs, 0, h => by
    obtain ⟨v', r, e, h1, h2⟩ := h
    subst e
    exact .cons h0 h2
  | d' :: ds, vs, n + 1, h => by
    obtain ⟨v', r, e, h1, h2⟩ := h
    subst e
    exact .cons h1 (RepL.set h0 n h2)
theorem RepL.reverse : ∀ {ds : List D} {vs : List V}, RepL H O A ds vs → RepL H O A ds.reverse vs.reverse
  | [], vs, h => by rw [show vs = [] from h]; rfl
  | d :: ds, vs, h => by
    obtain ⟨v, r, e, h1, h2⟩ := h
    subst e
    rw [List.reverse_cons, List.reverse_cons]
    exact (RepL.reverse h2).append (.cons h1 .nil)
theorem Rep.new {p : Addr} {u : HO} (hp : H p = none) {d : D} {v : V} (h : Rep H O A d v) : Rep (upd H p u) O A d v := Rep.go (Mt := fun _ => False) ⟨chg_new hp, fun _ z => z.elim, fun _ z => .inl z, fun _ _ e => e⟩ d v h
theorem RepL.new {p : Addr} {u : HO} (hp : H p = none) {d : List D} {v : List V} (h : RepL H O A d v) : RepL (upd H p u) O A d v := RepL.go (Mt := fun _ => False) ⟨chg_new hp, fun _ z => z.elim, fun _ z => .inl z, fun _ _ e => e⟩ d v h
end
section
variable {z : Sit} {br : Bool} {v : V} {A : List Addr} {H : Hp}
theorem VOk.non (h : VOk z br .non v A H) : v = .non := by
  rcases h with h | ⟨_, a, _, _, o⟩
  · exact h
  · exact o.elim
theorem VOk.bl {b : Bool} (h : VOk z br (.bl b) v A H) : v = .bl b := by
  rcases h with h | ⟨_, a, _, _, o⟩
  · exact h
  · exact o.elim
theorem VOk.int {i : Int} (h : VOk z br (.int i) v A H) : v = .int i := by
  rcases h with h | ⟨_, a, _, _, o⟩
  · exact h
  · exact o.elim
theorem VOk.str {s : List Nat} (h : VOk z br (.str s) v A H) : v = .str ⟨s.toArray⟩ ∧ StrOk s := by
  rcases h with h | ⟨_, a, _, _, o⟩
  · exact h
  · exact o.elim
theorem VOk.tup {ds : List D} (h : VOk z br (.tup ds) v A H) : ∃ a vs, v = .ref a ∧ H a = some (.tup vs) ∧ RepL H (Ex z.act.O0 A z.own) A ds vs := by
  rcases h with h | ⟨_, a, _, _, o⟩
  · exact h
  · exact o.elim
theorem VOk.scr {ds : List D} (h : VOk z br (.scr ds) v A H) : ∃ a vs, v = .ref a ∧ Rd H a (.lst vs) ∧ RepL H (Ex z.act.O0 A z.own) A ds vs := by
  rcases h with ⟨a, o, vs, e, r, l⟩ | ⟨_, a, _, _, o⟩
  · exact ⟨a, vs, e, .inr ⟨o, r⟩, l⟩
  · exact o.elim
theorem VOk.tix {ds : List D} (h : VOk z br (.tix ds) v A H) : ∃ a o vs, v = .ref a ∧ H a = some (.frz o (.tup vs)) ∧ o.dict = none ∧ RepL H (Ex z.act.O0 A z.own) A ds vs := by
  rcases h with h | ⟨_, a, _, _, o⟩
  · exact h
  · exact o.elim
theorem VOk.lst {ds : List D} (h : VOk z br (.lst ds) v A H) : ∃ a vs, v = .ref a ∧ H a = some (.lst vs) ∧ RepL H (Ex z.act.O0 A z.own) A ds vs := by
  rcases h with ⟨a, vs, e, r, _, l⟩ | ⟨_, a, e, _, vs, r, l⟩
  · exact ⟨a, vs, e, r, l⟩
  · exact ⟨a, vs, e, r, l⟩
theorem VOk.dic {t : Bool} {kvs : List (DK × D)} (h : VOk z br (.dic t kvs) v A H) : ∃ a, v = .ref a ∧ OwnOk H (Ex z.act.O0 A z.own) A a (.dic t kvs) := by
  rcases h with ⟨a, e, _, q⟩ | ⟨_, a, e, _, q⟩
  · exact ⟨a, e, q⟩
  · exact ⟨a, e, q⟩
theorem VOk.ins {x : Str} {fs : List (Str × D)} (h : VOk z br (.ins x fs) v A H) : ∃ a, v = .ref a ∧ ∃ dx us, H a = some (.ins (Tables.C x) dx us) ∧ RepF H (Ex z.act.O0 A z.own) A fs us := by
  rcases h with h | ⟨_, a, e, _, o⟩
  · obtain ⟨a, e, _, r⟩ := h
    exact ⟨a, e, r⟩
  · exact ⟨a, e, o⟩
theorem VOk.fdi {kvs : List (DK × D)} (h : VOk z br (.fdi kvs) v A H) : ∃ a o, ∃ l : List (Key × V), v = .ref a ∧ H a = some (.frz o (.dK l)) ∧ RepK H (Ex z.act.O0 A z.own) A kvs l := by
  rcases h with h | ⟨_, a, _, _, o⟩
  · exact h
  · exact o.elim
theorem VOk.fdt {kvs : List (DK × D)} (h : VOk z br (.fdt kvs) v A H) : ∃ a o, ∃ l : List (List Key × V), v = .ref a ∧ H a = some (.frz o (.dT l)) ∧ RepT H (Ex z.act.O0 A z.own) A kvs l := by
  rcases h with h | ⟨_, a, _, _, o⟩
  · exact h
  · exact o.elim
theorem VOk.ref {n : Nat} (h : VOk z br (.ref n) v A H) : ∃ a, A[n]? = some a ∧ v = .ref a := by
  rcases h with h | ⟨_, a, _, _, o⟩
  · exact h
  · exact o.elim
theorem VOk.und (h : VOk z br .und v A H) : False := by
  rcases h with h | ⟨_, a, _, _, o⟩
  · exact h
  · exact o.elim
end
section
variable {z : Sit} {c : Sta} {Γ : List Bool}
theorem Post.val (hz : z.Ok c Γ) {br : Bool} {d : D} {v : V} {Q : VK} (h : Post z (okE z br) (.ok d z.S) Q) (o : Rep z.H z.O z.A d v) : Q v z.H := h v z.H z.A Step.refl ⟨hz.rel, .inl o⟩
theorem Post.fresh (hz : z.Ok c Γ) {br : Bool} {d : D} {v : V} {Q : VK} {p : Addr} {u : HO} (hp : z.H p = none) (h : Post z (okE z br) (.ok d z.S) Q) (o : Rep (upd z.H p u) z.O z.A d v) : Q v (upd z.H p u) :=
  h v _ z.A (step_new hp) ⟨hz.rel.alloc hp, .inl o⟩
end
def retD (d : D) : M D := fun S => .ok d S
def badD {α : Type} : M α := fun _ => .bad
def sz : Nat := 16777216
def strD (s : List Nat) : M D := if s.length ≤ sz then retD (.str s) else badD
def lstD (ds : List D) : M D := if ds.length ≤ sz then retD (.lst ds) else badD
def tupD (ds : List D) : M D := if ds.length ≤ sz then retD (.tup ds) else badD
def dAdd : D → D → M D
  | .int i, .int j => retD (.int (i + j))
  | .int i, .bl b => retD (.int (i + if b then 1 else 0))
  | .str a, .str b => strD (a ++ b)
  | .tup a, .tup b => tupD (a ++ b)
  | _, _ => badD
def dSub : D → D → M D
  | .int i, .int j => retD (.int (i - j))
  | _, _ => badD
def lim64 (i : Int) : Bool := decide (-(2 ^ 64) < i) && decide (i < 2 ^ 64)
def dMul : D → D → M D
  | .int i, .int j => if lim64 i || lim64 j then retD (.int (i * j)) else badD
  | _, _ => badD
def dFdiv : D → D → M D
  | .int i, .int j => if 0 < j ∧ j < 1073741824 then retD (.int (i / j)) else badD
  | _, _ => badD
def dMod : D → D → M D
  | .int i, .int j => if 0 < j then retD (.int (i % j)) else badD
  | _, _ => badD
def dPow : D → D → M D
  | .int i, .int j => if 0 ≤ j ∧ j ≤ 1000000 ∧ i.natAbs < 2 ^ 64 then retD (.int (i ^ j.toNat)) else badD
  | _, _ => badD
def dShl : D → D → M D
  | .int i, .int j => if 0 ≤ j ∧ j ≤ 1000000 ∧ i.natAbs < 2 ^ 64 then retD (.int (i * 2 ^ j.toNat)) else badD
  | _, _ => badD
def dShr : D → D → M D
  | .int i, .int j => if 0 ≤ j then retD (.int (i / 2 ^ j.toNat)) else badD
  | _, _ => badD
def dAnd : D → D → M D
  | .int i, .int j => retD (.int (Builtin.bitAnd i j))
  | _, _ => badD
def dOr : D → D → M D
  | .int i, .int j => retD (.int (Builtin.bitOr i j))
  | _, _ => badD
def dNeg : D → M D
  | .int i => retD (.int (-i))
  | _ => badD
def dInv : D → M D
  | .int i => retD (.int (Builtin.bitNot i))
  | _ => badD
section
variable {c : Sta}
theorem StrOk.append {a b : List Nat} (h : StrOk a) (g : StrOk b) (l : a.length + b.length ≤ 16777216) : StrOk (a ++ b) := ⟨by rw [List.length_append]; exact l, fun c hc => (List.mem_append.mp hc).elim (h.2 c) (g.2 c)⟩
def fAdd : D → D → M D
  | .lst a, .lst b => lstD (a ++ b)
  | _, _ => badD
def fMul : D → D → M D
  | .lst a, .int j => if -(2 ^ 63) ≤ j ∧ j < 2 ^ 63 ∧ a.length * j.toNat ≤ sz then retD (.lst (List.replicate j.toNat a).flatten) else badD
  | _, _ => badD
end
end VS
namespace VS
open PySem PySem.Spec PyProof.Rows L2
variable [Tables]
mutual
def D.plain : D → Bool
  | .non => true
  | .bl _ => true
  | .int _ => true
  | .str _ => true
  | .tup ds => plainL ds
  | .lst ds => plainL ds
  | _ => false
def plainL : List D → Bool
  | [] => true
  | d :: ds => D.plain d && plainL ds
end
mutual
def D.dep : D → Nat
  | .tup ds => depL ds + 1
  | .lst ds => depL ds + 1
  | _ => 0
def depL : List D → Nat
  | [] => 0
  | d :: ds => max (D.dep d) (depL ds)
end
mutual
def toPy : D → PyData
  | .bl b => .bool b
  | .int i => .int i
  | .str s => .str ⟨s.toArray⟩
  | .tup ds => .tuple (toPyL ds)
  | .lst ds => .list (toPyL ds)
  | _ => .none
def toPyL : List D → List PyData
  | [] => []
  | d :: ds => toPy d :: toPyL ds
end
mutual
def eqb : D → D → Bool
  | .non, .non => true
  | .bl a, .bl b => a == b
  | .bl a, .int j => (if a then 1 else 0) == j
  | .int i, .bl b => i == (if b then 1 else 0)
  | .int i, .int j => i == j
  | .str a, .str b => a == b
  | .tup a, .tup b => eqbL a b
  | .lst a, .lst b => eqbL a b
  | _, _ => false
def eqbL : List D → List D → Bool
  | [], [] => true
  | x :: xs, y :: ys => eqb x y && eqbL xs ys
  | _, _ => false
end
mutual
theorem dep_eq : ∀ d : D, (toPy d).depth = d.dep
  | .tup ds => by show PyData.depthAll (toPyL ds) + 1 = depL ds + 1; rw [depL_eq ds]
  | .lst ds => by show PyData.depthAll (toPyL ds) + 1 = depL ds + 1; rw [depL_eq ds]
  | .und => rfl
  | .non => rfl
  | .bl _ => rfl
  | .int _ => rfl
  | .str _ => rfl
  | .scr _ => rfl
  | .tix _ => rfl
  | .dic _ _ => rfl
  | .fdi _ => rfl
  | .fdt _ => rfl
  | .ref _ => rfl
  | .ins _ _ => rfl
  | .fnc _ => rfl
theorem depL_eq : ∀ ds : List D, PyData.depthAll (toPyL ds) = depL ds
  | [] => rfl
  | d :: ds => by show max (toPy d).depth (PyData.depthAll (toPyL ds)) = max d.dep (depL ds); rw [dep_eq d, depL_eq ds]
end
theorem str_beq (a b : List Nat) : ((⟨a.toArray⟩ : Str) == ⟨b.toArray⟩) = (a == b) := by
  rw [Bool.eq_iff_iff, beq_iff_eq, beq_iff_eq]
  constructor
  · intro h
    have h1 := congrArg (fun x : Str => x.cps.toList) h
    simpa using h1
  · intro h; rw [h]
mutual
theorem eqv_eq : ∀ d e : D, d.plain = true → e.plain = true → PyData.eqv (toPy d) (toPy e) = eqb d e
  | .non, e, _, h => by cases e <;> first | rfl | cases h
  | .bl a, e, _, h => by cases e <;> first | rfl | cases h
  | .int i, e, _, h => by cases e <;> first | rfl | cases h
  | .str a, e, _, h => by
    cases e <;> first
      | rfl
      | exact str_beq _ _
      | cases h
  | .tup a, e, g, h => by
    cases e with
    | tup b => exact eqvL_eq a b g h
    | und => cases h
    | scr _ => cases h
    | tix _ => cases h
    | dic _ _ => cases h
    | fdi _ => cases h
    | fdt _ => cases h
    | ref _ => cases h
    | ins _ _ => cases h
    | fnc _ => cases h
    | _ => rfl
  | .lst a, e, g, h => by
    cases e with
    | lst b => exact eqvL_eq a b g h
    | und => cases h
    | scr _ => cases h
    | tix _ => cases h
    | dic _ _ => cases h
    | fdi _ => cases h
    | fdt _ => cases h
    | ref _ => cases h
    | ins _ _ => cases h
    | fnc _ => cases h
    | _ => rfl
  | .und, _, g, _ => by cases g
  | .scr _, _, g, _ => by cases g
  | .tix _, _, g, _ => by cases g
  | .dic _ _, _, g, _ => by cases g
  | .fdi _, _, g, _ => by cases g
  | .fdt _, _, g, _ => by cases g
  | .ref _, _, g, _ => by cases g
  | .ins _ _, _, g, _ => by cases g
theorem eqvL_eq : ∀ d e : List D, plainL d = true → plainL e = true → PyData.eqvAll (toPyL d) (toPyL e) = eqbL d e
  | [], [], _, _ => rfl
  | [], _ :: _, _, _ => rfl
  | _ :: _, [], _, _ => rfl
  | x :: xs, y :: ys, g, h => by
    obtain ⟨g1, g2⟩ := Bool.and_eq_true_iff.mp (show (x.plain && plainL xs) = true from g)
    obtain ⟨h1, h2⟩ := Bool.and_eq_true_iff.mp (show (y.plain && plainL ys) = true from h)
    show (PyData.eqv (toPy x) (toPy y) && PyData.eqvAll (toPyL xs) (toPyL ys)) = (eqb x y && eqbL xs ys)
    rw [eqv_eq x y g1 h1, eqvL_eq xs ys g2 h2]
end
theorem strOk_of {s : List Nat} (h : StrOk s) : PySem.PyData.strOk (⟨s.toArray⟩ : Str) = true := by
  unfold PySem.PyData.strOk
  show s.toArray.all (· < 0x110000) = true
  simp only [List.all_toArray, List.all_eq_true, decide_eq_true_eq]
  exact h.2
section
variable {K : PySem.W.Frag} {H : Hp} {O : Addr → Prop} {A : List Addr}
mutual
theorem dp_of : ∀ (d : D) (v : V), d.plain = true → Rep H O A d v → Dp K H v (toPy d) ∧ (toPy d).canLay0 = true
  | .non, v, _, h => by rw [show v = .non from h]; exact ⟨.non, rfl⟩
  | .bl b, v, _, h => by rw [show v = .bl b from h]; exact ⟨.bl b, rfl⟩
  | .int b, v, _, h => by rw [show v = .int b from h]; exact ⟨.int b, rfl⟩
  | .str s, v, _, h => by
    obtain ⟨e, ok⟩ := h
    rw [e]
    exact ⟨.str _, strOk_of ok⟩
  | .tup ds, v, g, h => by
    obtain ⟨a, vs, e, r, l⟩ := h
    rw [e]
    obtain ⟨q1, q2⟩ := dpL_of ds vs g l
    exact ⟨.tup (.of r) q1, q2⟩
  | .lst ds, v, g, h => by
    obtain ⟨a, vs, e, r, _, l⟩ := h
    rw [e]
    obtain ⟨q1, q2⟩ := dpL_of ds vs g l
    exact ⟨.lst (.of r) q1, q2⟩
  | .und, _, g, _ => by cases g
  | .scr _, _, g, _ => by cases g
  | .tix _, _, g, _ => by cases g
  | .dic _ _, _, g, _ => by cases g
  | .fdi _, _, g, _ => by cases g
  | .fdt _, _, g, _ => by cases g
  | .ref _, _, g, _ => by cases g
  | .ins _ _, _, g, _ => by cases g
theorem dpL_of : ∀ (ds : List D) (vs : List V), plainL ds = true → RepL H O A ds vs → DpAll K H vs (toPyL ds) ∧ PyData.canLayAll0 (toPyL ds) = true
  | [], vs, _, h => by rw [show vs = [] from h]; exact ⟨.nil, rfl⟩
  | d :: ds, vs, g, h => by
    obtain ⟨v, r, e, h1, h2⟩ := h
    obtain ⟨g1, g2⟩ := Bool.and_eq_true_iff.mp (show (d.plain && plainL ds) = true from g)
    obtain ⟨q1, q2⟩ := dp_of d v g1 h1
    obtain ⟨q3, q4⟩ := dpL_of ds r g2 h2
    rw [e]
    refine ⟨.cons q1 q3, ?_⟩
    show ((toPy d).canLay0 && PyData.canLayAll0 (toPyL ds)) = true
    rw [q2, q4]; rfl
end
end
def okq (d : D) : Bool := d.plain && decide (d.dep ≤ 64)
def dEq (d e : D) : M D := if okq d && okq e then retD (.bl (eqb d e)) else badD
def dNe (d e : D) : M D := if okq d && okq e then retD (.bl (!eqb d e)) else badD
section
variable {c : Sta}
def dCmp (p : Int → Int → Bool) : D → D → M D
  | .int i, .int j => retD (.bl (p i j))
  | _, _ => badD
abbrev dLt := dCmp fun i j => decide (i < j)
abbrev dLe := dCmp fun i j => decide (i ≤ j)
abbrev dGt := dCmp fun i j => decide (j < i)
abbrev dGe := dCmp fun i j => decide (j ≤ i)
def isNon : D → Bool
  | .non => true
  | _ => false
def dIsN (d e : D) : M D := match d, e with
  | .und, _ => badD
  | d, .non => retD (.bl (isNon d))
  | _, _ => badD
def dNotN (d e : D) : M D := match d, e with
  | .und, _ => badD
  | d, .non => retD (.bl (!isNon d))
  | _, _ => badD
def flatK : D → Option K1
  | .int i => some (.inl i)
  | .str s => some (.inr s)
  | _ => none
def flatKs : List D → Option (List K1)
  | [] => some []
  | d :: ds => match flatK d, flatKs ds with
    | some k, some ks => some (k :: ks)
    | _, _ => none
def toK : D → Option DK
  | .int i => some (.inl (.inl i))
  | .str s => some (.inl (.inr s))
  | .tup ds => match flatKs ds with
    | some ks => some (.inr ks)
    | none => none
  | _ => none
def ofK1 : K1 → D
  | .inl i => .int i
  | .inr s => .str s
def ofK : DK → D
  | .inl k => ofK1 k
  | .inr ks => .tup (ks.map ofK1)
def lookK (k : DK) : List (DK × D) → Option D
  | [] => none
  | (k', d) :: r => if k' = k then some d else lookK k r
def hasK (k : DK) (l : List (DK × D)) : Bool := (lookK k l).isSome
section
variable {H : Hp} {O : Addr → Prop} {A : List Addr}
theorem flatK_ok {d : D} {k : K1} {v : V} (e : flatK d = some k) (h : Rep H O A d v) : ∃ y : Key, k1 y = k ∧ v = kV y ∧ keyOk y := by
  cases d with
  | int i => cases e; exact ⟨.inl i, rfl, h, trivial⟩
  | str s => cases e; exact ⟨.inr ⟨s.toArray⟩, rfl, h.1, h.2⟩
  | _ => cases e
end
end
end VS
namespace VS
open PySem PySem.Spec PyProof.Rows L2
variable [Tables]
def D.flat : D → Bool
  | .non => true
  | .bl _ => true
  | .int _ => true
  | .str _ => true
  | _ => false
section
variable {H : Hp} {O : Addr → Prop} {A : List Addr}
end
def inB (d e : D) : Option Bool := match d, e with
  | .str [x], .str s => some (decide (x ∈ s))
  | d, .lst ds => if okq d && okq (.lst ds) then some (ds.any fun y => eqb y d) else none
  | d, .tup ds => if d.flat && ds.all D.flat then some (ds.any fun y => eqb y d) else none
  | d, .dic false kvs => match toK d with
    | some (.inl k) => some (hasK (.inl k) kvs)
    | _ => none
  | d, .dic true kvs => match toK d with
    | some (.inr k) => some (hasK (.inr k) kvs)
    | _ => none
  | d, .fdi kvs => match toK d with
    | some (.inl k) => some (hasK (.inl k) kvs)
    | _ => none
  | d, .fdt kvs => match toK d with
    | some (.inr k) => some (hasK (.inr k) kvs)
    | _ => none
  | _, _ => none
def dIn (d e : D) : M D := match inB d e with
  | some b => retD (.bl b)
  | none => badD
def dNotIn (d e : D) : M D := match inB d e with
  | some b => retD (.bl (!b))
  | none => badD
section
variable {c : Sta}
theorem VOk.key {z : Sit} {br : Bool} {d : D} {k : K1} {v : V} {A : List Addr} {H : Hp} (e : flatK d = some k) (h : VOk z br d v A H) : ∃ y : Key, k1 y = k ∧ v = kV y ∧ keyOk y := by
  rcases h with h | ⟨_, a, _, _, o⟩
  · exact flatK_ok e h
  · cases d with
    | lst _ => cases e
    | dic _ _ => cases e
    | ins _ _ => cases e
    | _ => exact o.elim
end
def truB : D → Option Bool
  | .non => some false
  | .bl b => some b
  | .int i => some (i != 0)
  | .str s => some (!s.isEmpty)
  | .tup ds => some (!ds.isEmpty)
  | .lst ds => some (!ds.isEmpty)
  | .dic false kvs => some (!kvs.isEmpty)
  | _ => none
def dTru (d : D) : M Bool := fun S => match truB d with
  | some b => .ok b S
  | none => .bad
def dIx : D → D → M D
  | .lst ds, .int i => match atI ds i with
    | some d => retD d
    | none => badD
  | .tup ds, .int i => match atI ds i with
    | some d => retD d
    | none => badD
  | .scr ds, .int i => match atI ds i with
    | some d => retD d
    | none => badD
  | .tix ds, .int i => match atI ds i with
    | some d => retD d
    | none => badD
  | .str s, .int i => match atI s i with
    | some x => retD (.str [x])
    | none => badD
  | .dic t kvs, d => match toK d with
    | some k => if k.isRight = t then match lookK k kvs with
      | some x => retD x
      | none => badD
      else badD
    | none => badD
  | .fdi kvs, d => match toK d with
    | some (.inl k) => match lookK (.inl k) kvs with
      | some x => retD x
      | none => badD
    | _ => badD
  | _, _ => badD
theorem RepL.atI {H : Hp} {O : Addr → Prop} {A : List Addr} {ds : List D} {vs : List V} {i : Int} {d : D} (h : RepL H O A ds vs) (e : atI ds i = some d) : ∃ v, L2.atI vs i = some v ∧ Rep H O A d v := by
  unfold L2.atI at e ⊢
  rw [h.len]
  cases q : ixN ds.length i with
  | none => rw [q] at e; cases e
  | some j => rw [q] at e; exact h.get e
section
variable {c : Sta}
end
def cut {α : Type} (xs : List α) (lo hi : Option Int) : List α := (xs.drop (HT.sIx xs.length 0 lo)).take (HT.sIx xs.length xs.length hi - HT.sIx xs.length 0 lo)
theorem RepL.cut {H : Hp} {O : Addr → Prop} {A : List Addr} {ds : List D} {vs : List V} (h : RepL H O A ds vs) (lo hi : Option Int) : RepL H O A (VS.cut ds lo hi) (cutV vs lo hi) := by
  unfold VS.cut cutV
  rw [h.len]
  exact (h.drop _).take _
def dSl : D → Option Int → Option Int → M D
  | .str s, lo, hi => retD (.str (cut s lo hi))
  | .tup ds, lo, hi => retD (.tup (cut ds lo hi))
  | _, _, _ => badD
def fSl : D → Option Int → Option Int → M D
  | .lst ds, lo, hi => retD (.lst (cut ds lo hi))
  | .scr ds, lo, hi => retD (.lst (cut ds lo hi))
  | _, _, _ => badD
section
variable {c : Sta}
end
end VS
namespace VS
open PySem PySem.Spec PyProof.Rows L2
variable [Tables]
abbrev DE := List D → M D
abbrev DT := List D → M Bool
abbrev DA := List D → M (List D)
def eVar (i : Nat) : DE := fun ρ S => match ρ[i]? with
  | none => .bad
  | some .und => .bad
  | some d => .ok d S
def eC (d : D) : DE := fun _ S => .ok d S
def eUn (g : D → M D) (f : DE) : DE := fun ρ => f ρ >>= g
def eBin (g : D → D → M D) (f₁ f₂ : DE) : DE := fun ρ => f₁ ρ >>= fun a => f₂ ρ >>= fun b => g a b
def asB : D → M Bool := fun d S => match d with
  | .bl k => .ok k S
  | _ => .bad
def tBin (g : D → D → M D) (f₁ f₂ : DE) : DT := fun ρ => f₁ ρ >>= fun a => f₂ ρ >>= fun b => g a b >>= asB
def eChain (g g' : D → D → M D) (f₁ f₂ f₃ : DE) : DE := fun ρ => f₁ ρ >>= fun a => f₂ ρ >>= fun b => g a b >>= asB >>= fun k => if k = true then f₃ ρ >>= fun c => g' b c else retD (.bl false)
def tOf (f : DE) : DT := fun ρ => f ρ >>= dTru
def tChain' (g g' : D → D → M D) (f₁ f₂ f₃ : DE) : DT := fun ρ => eChain g g' f₁ f₂ f₃ ρ >>= asB
def tAnd' (f g : DT) : DT := fun ρ => f ρ >>= fun k => if k = true then g ρ else fun S => .ok false S
def tOr' (f g : DT) : DT := fun ρ => f ρ >>= fun k => if k = true then (fun S => .ok true S) else g ρ
def tNot' (f : DT) : DT := fun ρ => f ρ >>= fun k S => .ok (!k) S
def eAndT (f g : DE) : DE := fun ρ => f ρ >>= fun d => dTru d >>= fun k => if k = true then g ρ else retD d
def eNotT (f : DE) : DE := fun ρ => f ρ >>= fun d => dTru d >>= fun k => retD (.bl (!k))
def eIf (t : DT) (f g : DE) : DE := fun ρ => t ρ >>= fun k => if k = true then f ρ else g ρ
def aNil : DA := fun _ S => .ok [] S
def aCons (f : DE) (g : DA) : DA := fun ρ => f ρ >>= fun d => g ρ >>= fun ds S => .ok (d :: ds) S
def eTup (f : DA) : DE := fun ρ => f ρ >>= tupD
def eLst (f : DA) : DE := fun ρ => f ρ >>= lstD
abbrev DO := List D → M (Option Int)
def oNone : DO := fun _ S => .ok none S
def asI : D → M (Option Int) := fun d S => match d with
  | .int i => .ok (some i) S
  | _ => .bad
def oSome (f : DE) : DO := fun ρ => f ρ >>= asI
def eSl (g : D → Option Int → Option Int → M D) (f : DE) (lo hi : DO) : DE := fun ρ => f ρ >>= fun d => lo ρ >>= fun l => hi ρ >>= fun h => g d l h
def seen (c : Sta) (i : Nat) (x : Str) : Bool := decide (c.N[i]? = some x) && ((c.sc.names.lookup x == some .local || c.sc.names.lookup x == some .cell || c.sc.names.lookup x == some .free) && (!(x == ("__debug__" : Str)) && !(x == ("__classdict__" : Str))))
section
variable {c : Sta} {Γ : List Bool} {br : Bool}
def eAny (i : Nat) : DE := fun ρ S => match ρ[i]? with
  | some (.ref n) => match S[n]? with
    | some .und => .bad
    | some d => .ok d S
    | none => .bad
  | some .und => .bad
  | some d => .ok d S
  | none => .bad
def glob (c : Sta) (x : Str) : Bool := (c.sc.names.lookup x == some .globalImplicit) && (!(x == ("__debug__" : Str)) && !(x == ("__name__" : Str)))
variable {a b e : Expr} {fa fb fc : DE} {g g' : D → D → M D} {pos : Pos}
theorem two {z : Sit} (hz : z.Ok c Γ) (ha : VE c Γ true a fa) (hb : VE c Γ true b fb) {α β : Type} {ok : α → Store → β → List Addr → Hp → Prop} {f : D → D → M α} {Q : β → Hp → Prop} {R : V → V → Hp → Prop}
    (h : Post z ok ((fa z.ρ >>= fun x => fb z.ρ >>= fun y => f x y) z.S) Q)
    (k : ∀ S' A' H' x y v u, (z.to S' A' H').Ok c Γ → VOk z true x v A' H' → VOk z true y u A' H' → Post (z.to S' A' H') ok (f x y S') Q → R v u H') :
    wpE z.X a z.σ z.H fun v H1 => wpE z.X b z.σ H1 fun u H2 => R v u H2 := by
  refine ha z hz _ (Post.bind h fun x v S1 A1 H1 s1 o1 h1 => ?_)
  have hz1 := hz.to o1.1
  refine hb (z.to S1 A1 H1) hz1 _ (Post.bind h1 fun y u S2 A2 H2 s2 o2 h2 => ?_)
  exact k S2 A2 H2 x y v u (hz1.to o2.1) (o1.2.step o1.1 s2) o2.2 h2
section
variable {ta tb : DT} {rest : List Expr}
end
theorem okA.step {z : Sit} {ds : List D} {vs : List V} {A A' : List Addr} {H H' : Hp} {S : Store} (r : z.R S A H) (s : Step z.ep A H A' H') (h : Paired (fun d v => VOk z br d v A H) ds vs) : Paired (fun d v => VOk z br d v A' H') ds vs := L2.Paired.mapP h fun d v q => q.step r s
def wpO (X : Cx) (e : Option Expr) : TO := fun σ H Q => ∀ pins s, Inv X pins σ H s → wpAny (model X.prog X.w) X.A (evalPart e X.env) (fun u s' => ∃ o H', Inv X pins σ H' s' ∧ IsPart u o ∧ Q o H') X.xe s
def okO (z : Sit) (b : Option Int) (S' : Store) (b' : Option Int) (A' : List Addr) (H' : Hp) : Prop := z.R S' A' H' ∧ b = b'
structure VO (c : Sta) (Γ : List Bool) (e : Option Expr) (f : DO) : Prop where
  run : ∀ z : Sit, z.Ok c Γ → ∀ Q : Option Int → Hp → Prop, Post z (okO z) (f z.ρ z.S) Q → wpO z.X e z.σ z.H Q
instance {c : Sta} {Γ : List Bool} {e : Option Expr} {f : DO} : CoeFun (VO c Γ e f) fun _ => ∀ z : Sit, z.Ok c Γ → ∀ Q : Option Int → Hp → Prop, Post z (okO z) (f z.ρ z.S) Q → wpO z.X e z.σ z.H Q := ⟨VO.run⟩
end
end VS
namespace VS
open PySem PySem.Spec PyProof.Rows L2
variable [Tables]
section
variable {act : Act} {own : Own} {ρ : List D} {S : Store} {A : List Addr} {σ : L2.St} {H : Hp}
theorem mem_set_own {own : Own} {i : Nat} {o : Option Addr} {a : Addr} (h : some a ∈ own.set i o) : o = some a ∨ some a ∈ own := by
  rcases List.mem_or_eq_of_mem_set h with h | h
  · exact .inr h
  · exact .inl h.symm
theorem ex_set {O0 : Addr → Prop} {i : Nat} {b : Addr} (h : Ex O0 A (own.set i none) b) : Ex O0 A own b := by
  rcases h with h | h | h
  · exact .inl h
  · exact .inr (.inl h)
  · exact .inr (.inr ((mem_set_own h).elim (fun e => by cases e) id))
theorem Rel.freeze (r : Rel act own ρ S A σ H) (i : Nat) : Rel act (own.set i none) ρ S A σ H := by
  have g : Go (fun _ => False) H H (Ex act.O0 A own) (Ex act.O0 A (own.set i none)) A A := ⟨Chg.refl, fun _ z => z.elim, fun a z => .inl (ex_set z), fun _ _ e => e⟩
  refine ⟨r.len1, by simp [r.len2], fun j d' o v' h1 h2 h3 => ?_, fun j k a h1 h2 => ?_, r.lenA, fun n d' a h1 h2 => ?_, r.nodA, fun a ha => r.apart a ((mem_set_own ha).elim (fun e => by cases e) id), fun a ha => r.apart0 a ((mem_set_own ha).elim (fun e => by cases e) id), r.pre, r.newA, fun a ha => r.newO a ((mem_set_own ha).elim (fun e => by cases e) id), fun b hb => r.trk b (ex_set hb), r.chg⟩
  · by_cases hj : i = j
    · subst hj
      have l2 := (List.getElem?_eq_some_iff.mp h2).1
      rw [List.length_set] at l2
      rw [List.getElem?_set_self l2] at h2
      cases h2
      have e0 : own[i]? = some own[i] := List.getElem?_eq_getElem l2
      have q := r.slot i d' _ v' h1 e0 h3
      cases eo : own[i] with
      | none =>
        rw [eo] at q
        exact q.imp id fun ⟨x, e, z⟩ => ⟨x, e, Rep.go g _ _ z⟩
      | some a =>
        rw [eo] at q e0
        refine .inr ⟨.ref a, q.1, (OwnOk.go g (fun z => z) q.2).rep fun z => ?_⟩
        have hm : some a ∈ own := List.mem_of_getElem? e0
        rcases z with z | z | z
        · exact r.apart0 a hm z
        · exact r.apart a hm z
        · obtain ⟨k, hk, ek⟩ := List.mem_iff_getElem.mp z
          rw [List.length_set] at hk
          by_cases hik : i = k
          · subst hik
            rw [List.getElem_set_self] at ek; cases ek
          · rw [List.getElem_set_ne hik] at ek
            exact hik (r.inj i k a e0 (by rw [List.getElem?_eq_getElem hk, ek]))
    · rw [List.getElem?_set_ne hj] at h2
      have q := r.slot j d' o v' h1 h2 h3
      cases o with
      | none => exact q.imp id fun ⟨x, e, z⟩ => ⟨x, e, Rep.go g _ _ z⟩
      | some a => exact ⟨q.1, OwnOk.go g (fun z => z) q.2⟩
  · by_cases hj : i = j
    · subst hj
      have l1 := (List.getElem?_eq_some_iff.mp h1).1
      rw [List.length_set] at l1
      rw [List.getElem?_set_self l1] at h1; cases h1
    · by_cases hk : i = k
      · subst hk
        have l1 := (List.getElem?_eq_some_iff.mp h2).1
        rw [List.length_set] at l1
        rw [List.getElem?_set_self l1] at h2; cases h2
      · rw [List.getElem?_set_ne hj] at h1
        rw [List.getElem?_set_ne hk] at h2
        exact r.inj j k a h1 h2
  · exact (r.cell n d' a h1 h2).imp id fun z => OwnOk.go g (fun z => z) z
theorem Rel.freezeAll (r : Rel act own ρ S A σ H) : Rel act (own.map fun _ => none) ρ S A σ H := by
  have key : ∀ n, n ≤ own.length → Rel act ((own.take n).map (fun _ => none) ++ own.drop n) ρ S A σ H := by
    intro n
    induction n with
    | zero => intro _; simpa using r
    | succ n ih =>
      intro hn
      have q := (ih (by omega)).freeze n
      have e : ((own.take n).map (fun _ => (none : Option Addr)) ++ own.drop n).set n none = (own.take (n + 1)).map (fun _ => none) ++ own.drop (n + 1) := by
        rw [List.set_append_right _ _ (by simp; omega)]
        have hlen : n - ((own.take n).map (fun _ => (none : Option Addr))).length = 0 := by simp; omega
        rw [hlen]
        rw [List.drop_eq_getElem_cons (by omega), List.set_cons_zero]
        have e2 : own.take (n + 1) = own.take n ++ [own[n]] := by rw [List.take_add_one, List.getElem?_eq_getElem (by omega)]; rfl
        rw [e2, List.map_append, List.append_assoc]
        rfl
      rw [e] at q
      exact q
  have q := key own.length (Nat.le_refl _)
  simpa using q
theorem Rel.leave (r : Rel act own ρ S A σ H) : Rel act [] [] S A [] H := by
  have ex : ∀ b, Ex act.O0 A [] b → Ex act.O0 A own b := fun b q => by
    rcases q with q | q | q
    · exact .inl q
    · exact .inr (.inl q)
    · cases q
  have g : Go (fun _ => False) H H (Ex act.O0 A own) (Ex act.O0 A []) A A := ⟨Chg.refl, fun _ z => z.elim, fun b z => .inl (ex b z), fun _ _ e => e⟩
  exact ⟨rfl, rfl, fun j d' o v' h1 _ _ => (by simp at h1), fun j k a h1 _ => (by simp at h1), r.lenA, fun n d' b h1 h2 => (r.cell n d' b h1 h2).imp id fun z => OwnOk.go g (fun z => z) z, r.nodA, fun a ha => (by cases ha), fun a ha => (by cases ha), r.pre, r.newA, fun a ha => (by cases ha), fun b hb => r.trk b (ex b hb), r.chg⟩
end
end VS
namespace VS
open PySem PySem.Spec PyProof.Rows L2
variable [Tables]
abbrev DS := List D → Store → Out
def sLift {α : Type} (m : List D → M α) (ρ : List D) (S : Store) (k : α → Store → Out) : Out := match m ρ S with
  | .ok a S' => k a S'
  | .exc x S' => .exc x ρ S'
  | .bad => .bad
def sNext : DS := fun ρ S => .nx ρ S
def sSeq (f g : DS) : DS := fun ρ S => match f ρ S with
  | .nx ρ' S' => g ρ' S'
  | o => o
def sSet (i : Nat) (f : DE) : DS := fun ρ S => sLift f ρ S fun d S' => .nx (ρ.set i d) S'
def sRet (f : DE) : DS := fun ρ S => sLift f ρ S fun d S' => .ret d S'
def sIf (t : DT) (f g : DS) : DS := fun ρ S => sLift t ρ S fun k S' => if k = true then f ρ S' else g ρ S'
def killL : List Nat → List D → List D
  | [], ρ => ρ
  | i :: r, ρ => (killL r ρ).set i .und
section
variable {c : Sta} {Γ Γ' : List Bool} {z : Sit} {D : Ends}
theorem Step.move {pu : Bool} {A A' : List Addr} {H H' : Hp} {own : Own} (s : Step pu A H A' H') : Move A own H A' own H' := ⟨s.pre, s.new, fun _ h => .inl h, s.chg.mono fun _ h => .inl h.2⟩
theorem Move.noOwn {A A' : List Addr} {H H' : Hp} {own own' : Own} (m : Move A own H A' own' H') : Move A own H A' [] H' := ⟨m.pre, m.newA, fun _ h => (by cases h), m.chg⟩
theorem map_none {α β γ : Type} : ∀ {l : List α} {k : List β}, l.length = k.length → (l.map fun _ => (none : Option γ)) = k.map fun _ => none
  | [], [], _ => rfl
  | _ :: l, _ :: k, h => by
    rw [List.map_cons, List.map_cons, map_none (l := l) (k := k) (by simpa using h)]
  | [], _ :: _, h => by cases h
  | _ :: _, [], h => by cases h
theorem SPost.move {z' : Sit} {r : Out} (hg : z'.g = z.g) (ha : z'.act = z.act) (hw : z'.W = z.W) (m : Move z.A z.own z.H z'.A z'.own z'.H) (h : SPost z c Γ' r D) : SPost z' c Γ' r D := by
  cases r with
  | nx ρ' S' =>
    intro own' A' σ' H' e r' m'
    rw [ha] at r'
    exact h own' A' σ' H' e r' (m.trans m')
  | ret d S' =>
    intro v A' H' o
    rw [ha] at o
    exact h v A' H' o
  | exc x ρ' S' =>
    intro cls oe A' σ' H' r' m' o
    rw [ha] at r' o
    rw [hg] at o
    rw [hw]
    exact h cls oe A' σ' H' r' (m.trans m') o
  | bad => exact h
theorem SPost.step {S' : Store} {A' : List Addr} {H' : Hp} {r : Out} (s : Step z.ep z.A z.H A' H') (h : SPost z c Γ' r D) : SPost (z.to S' A' H') c Γ' r D := SPost.move (z := z) (z' := z.to S' A' H') rfl rfl rfl s.move h
theorem ExcOk.less {g : Glo} {H : Hp} {O O' : Addr → Prop} {A : List Addr} {x : Exc} {cls : Value} {oe : Option Addr} (h : ExcOk g H O A x cls oe) (ho : ∀ b, O' b → O b) : ExcOk g H O' A x cls oe := by
  obtain ⟨C, e1, e2, d, fs, e3, e4, q⟩ := h
  refine ⟨C, e1, e2, d, fs, e3, e4, fun f v hf => ?_⟩
  obtain ⟨u, e5, r⟩ := q f v hf
  exact ⟨u, e5, Rep.go (Mt := fun _ => False) ⟨Chg.refl, fun _ z => z.elim, fun b z => .inl (ho b z), fun _ _ e => e⟩ _ _ r⟩
theorem SPost.bind {α β : Type} {ok : α → Store → β → List Addr → Hp → Prop} {m : List VS.D → M α} {k : α → Store → Out} {R : β → Hp → Prop} (h : SPost z c Γ' (sLift m z.ρ z.S k) D)
    (kk : ∀ a b S' A' H', Step z.ep z.A z.H A' H' → ok a S' b A' H' → SPost z c Γ' (k a S') D → R b H') : Post z ok (m z.ρ z.S) R := by
  unfold sLift at h
  cases e : m z.ρ z.S with
  | ok a S' => rw [e] at h; exact fun b H' A' s o => kk a b S' A' H' s o h
  | exc x S' =>
    rw [e] at h
    intro cls oe H' A' s r o
    have r2 := r.freezeAll
    rw [map_none (k := z.σ) r.len2] at r2
    exact h cls oe A' z.σ H' r2 (Step.move (own := z.own) s).noOwn (o.less fun b q => q.elim .inl fun q => q.elim (fun q => .inr (.inl q)) fun q => by cases q)
  | bad => rw [e] at h; exact h.elim
theorem SPost.nx {ρ' : List VS.D} {S' : Store} (h : SPost z c Γ' (.nx ρ' S') D) {own' : Own} {A' : List Addr} {σ' : L2.St} {H' : Hp} (e : own'.map Option.isSome = Γ') (r : Rel z.act own' ρ' S' A' σ' H') (m : Move z.A z.own z.H A' own' H') : D.nx σ' H' := h own' A' σ' H' e r m
variable {st : Stmt} {sts : List Stmt} {f g : DS} {Γ₁ Γ₂ : List Bool}
theorem Move.sub {A A' : List Addr} {H H' : Hp} {own own1 own' : Own} (h : ∀ a, some a ∈ own1 → some a ∈ own) (m : Move A own1 H A' own' H') : Move A own H A' own' H' :=
  ⟨m.pre, m.newA, fun a ha => (m.newO a ha).imp (h a) id, m.chg.mono fun b hb => hb.imp id (h b)⟩
variable {a e : Expr} {fa fe : DE} {pos pos' : Pos}
def stored (c : Sta) (i : Nat) (x : Str) : Bool := decide (c.N[i]? = some x) && (c.sc.names.lookup x == some .local || (c.sc.names.lookup x == some .cell && c.cel))
end
end VS
namespace VS
open PySem PySem.Spec PyProof.Rows L2
variable [Tables]
section
variable {c : Sta} {Γ Γ' Γ₁ Γ₂ : List Bool} {z : Sit} {D : Ends} {a e : Expr} {fa fe : DE} {pos pos' : Pos} {f g : DS}
abbrev DG := VS.D → List VS.D → Option (List VS.D)
abbrev DGs := List VS.D → List VS.D → Option (List VS.D)
def gN (i : Nat) : DG := fun d ρ => some (ρ.set i d)
def gsNil : DGs := fun ds ρ => match ds with
  | [] => some ρ
  | _ => none
def gsCons (g : DG) (h : DGs) : DGs := fun ds ρ => match ds with
  | d :: r => match g d ρ with
    | some ρ' => h r ρ'
    | none => none
  | [] => none
def gT (h : DGs) : DG := fun d ρ => match d with
  | .tup ds => h ds ρ
  | _ => none
def GPost (z : Sit) (Γ' : List Bool) (is : List Nat) (r : Option (List VS.D)) (Q : L2.St → Hp → Prop) : Prop := match r with
  | some ρ' => ∀ own' σ', own'.map Option.isSome = Γ' → Rel z.act own' ρ' z.S z.A σ' z.H → (∀ (i : Nat) a, own'[i]? = some (some a) → z.own[i]? = some (some a)) → σ'.length = z.σ.length → (∀ j, j ∉ is → σ'[j]? = z.σ[j]?) → Q σ' z.H
  | none => False
structure VG (c : Sta) (Γ Γ' : List Bool) (is : List Nat) (tg : Expr) (g : DG) : Prop where
  run : ∀ z : Sit, z.Ok c Γ → ∀ d v, Rep z.H z.O z.A d v → ∀ Q, GPost z Γ' is (g d z.ρ) Q → wpG z.X tg v z.σ z.H Q
instance {c : Sta} {Γ Γ' : List Bool} {is : List Nat} {tg : Expr} {g : DG} : CoeFun (VG c Γ Γ' is tg g) fun _ => ∀ z : Sit, z.Ok c Γ → ∀ d v, Rep z.H z.O z.A d v → ∀ Q, GPost z Γ' is (g d z.ρ) Q → wpG z.X tg v z.σ z.H Q := ⟨VG.run⟩
def wpGs (X : Cx) (ts : List Expr) : TGs := fun vs σ H Q => ∀ pins s us, Inv X pins σ H s → Vals vs us → wpAny (model X.prog X.w) X.A (assignInOrder ((assignEach ts X.env).map (·.2)) us) (fun _ s' => ∃ σ' H', Inv X pins σ' H' s' ∧ Q σ' H') X.xe s
structure VGs (c : Sta) (Γ Γ' : List Bool) (is : List Nat) (ts : List Expr) (g : DGs) : Prop where
  run : ∀ z : Sit, z.Ok c Γ → ∀ ds vs, RepL z.H z.O z.A ds vs → ∀ Q, GPost z Γ' is (g ds z.ρ) Q → wpGs z.X ts vs z.σ z.H Q
instance {c : Sta} {Γ Γ' : List Bool} {is : List Nat} {ts : List Expr} {g : DGs} : CoeFun (VGs c Γ Γ' is ts g) fun _ => ∀ z : Sit, z.Ok c Γ → ∀ ds vs, RepL z.H z.O z.A ds vs → ∀ Q, GPost z Γ' is (g ds z.ρ) Q → wpGs z.X ts vs z.σ z.H Q := ⟨VGs.run⟩
def sAsg (f : DE) (g : DG) : DS := fun ρ S => sLift f ρ S fun d S' => match g d ρ with
  | some ρ' => .nx ρ' S'
  | none => .bad
structure WalkV (Mt : Addr → Prop) (H : Hp) (O : Addr → Prop) (A : List Addr) (J : It) (ds : List VS.D) : Prop where
  go : ∀ i H', i < ds.length → Chg Mt H H' → J.go i H'
  stop : ∀ H', Chg Mt H H' → J.stop ds.length H'
  yld : ∀ i d H' x H'', ds[i]? = some d → Chg Mt H H' → J.yld i H' x H'' → Chg (fun _ => False) H' H'' ∧ ∀ O' A', Go Mt H H' O O' A A' → Rep H'' O' A' d x
def IPost (z : Sit) (br : Bool) (r : Res (List VS.D)) (R : It → Hp → Prop) : Prop := match r with
  | .ok ds S' => ∀ J A' H', Step z.ep z.A z.H A' H' → z.R S' A' H' → WalkV (fun b => (b ∈ A' ∧ (br = false ∨ z.ep = false)) ∨ (br = false ∧ some b ∈ z.own)) H' (Ex z.act.O0 A' z.own) A' J ds → R J H'
  | .exc x S' => ∀ cls oe H' A', Step z.ep z.A z.H A' H' → z.R S' A' H' → ExcOk z.g H' (Ex z.act.O0 A' z.own) A' x cls oe → z.W cls oe z.σ H'
  | .bad => False
abbrev DI := List VS.D → M (List VS.D)
structure VI (c : Sta) (Γ : List Bool) (br : Bool) (tg iter : Expr) (f : DI) : Prop where
  run : ∀ z : Sit, z.Ok c Γ → ∀ R, IPost z br (f z.ρ z.S) R → wpI z.X tg iter z.σ z.H R
instance {c : Sta} {Γ : List Bool} {br : Bool} {tg iter : Expr} {f : DI} : CoeFun (VI c Γ br tg iter f) fun _ => ∀ z : Sit, z.Ok c Γ → ∀ R, IPost z br (f z.ρ z.S) R → wpI z.X tg iter z.σ z.H R := ⟨VI.run⟩
def iterB : VS.D → Option (List VS.D)
  | .lst ds => some ds
  | .tup ds => some ds
  | .scr ds => some ds
  | .tix ds => some ds
  | .str s => some (s.map fun x => .str [x])
  | _ => none
def dIter : VS.D → M (List VS.D) := fun d S => match iterB d with
  | some ds => .ok ds S
  | none => .bad
def iOf (f : DE) : DI := fun ρ => f ρ >>= dIter
def rngD (i j : Int) : M (List VS.D) := fun S => if -(2 ^ 62) ≤ i ∧ i < 2 ^ 62 ∧ -(2 ^ 62) ≤ j ∧ j < 2 ^ 62 then .ok ((List.range (j - i).toNat).map fun k => .int (i + (k : Nat))) S else .bad
def iRange1 (f : DE) : DI := fun ρ => f ρ >>= fun d => match d with
  | .int j => rngD 0 j
  | _ => fun _ => .bad
def iRange2 (f g : DE) : DI := fun ρ => f ρ >>= fun d => g ρ >>= fun e => match d, e with
  | .int i, .int j => rngD i j
  | _, _ => fun _ => .bad
theorem IPost.bind {br : Bool} {α β : Type} {ok : α → Store → β → List Addr → Hp → Prop} {m : M α} {k : α → M (List VS.D)} {R : It → Hp → Prop} {Q : β → Hp → Prop} (h : IPost z br ((m >>= k) z.S) R)
    (kk : ∀ a b S' A' H', Step z.ep z.A z.H A' H' → ok a S' b A' H' → IPost (z.to S' A' H') br (k a S') R → Q b H') : Post z ok (m z.S) Q := by
  have e : (m >>= k) z.S = match m z.S with | .ok a S' => k a S' | .exc x S' => .exc x S' | .bad => .bad := rfl
  rw [e] at h
  cases q : m z.S with
  | ok a S' =>
    rw [q] at h
    intro b H' A' s o
    refine kk a b S' A' H' s o ?_
    change IPost z br (k a S') R at h
    cases q2 : k a S' with
    | ok ds S2 => rw [q2] at h; exact fun J A2 H2 s2 r2 w => h J A2 H2 (s.trans s2) r2 w
    | exc x S2 => rw [q2] at h; exact fun cls oe H2 A2 s2 r2 o2 => h cls oe H2 A2 (s.trans s2) r2 o2
    | bad => rw [q2] at h; exact h
  | exc x S' => rw [q] at h; exact h
  | bad => rw [q] at h; exact h.elim
def forD (g : DG) (f : DS) : List VS.D → DS
  | [], ρ, S => .nx ρ S
  | d :: ds, ρ, S => match g d ρ with
    | some ρ1 => match f ρ1 S with
      | .nx ρ' S' => forD g f ds ρ' S'
      | o => o
    | none => .bad
def sFor (i : DI) (g : DG) (f : DS) : DS := fun ρ S => sLift i ρ S fun ds S' => forD g f ds ρ S'
theorem Move.go {e : Bool} {A A' : List Addr} {H H' : Hp} {own own' : Own} {O0 : Addr → Prop} (m : Move A own H A' own' H') : Go (fun b => (b ∈ A ∧ (false = false ∨ e = false)) ∨ (false = false ∧ some b ∈ own)) H H' (Ex O0 A own) (Ex O0 A' own') A A' :=
  ⟨m.chg.mono fun b h => h.imp (fun q => ⟨q, .inl rfl⟩) fun q => ⟨rfl, q⟩, fun b h => h.elim (fun q => .inr (.inl q.1)) fun q => .inr (.inr q.2), fun b h => by
    rcases h with h | h | h
    · exact .inl (.inl h)
    · exact (m.newA b h).imp (fun q => .inr (.inl q)) id
    · exact (m.newO b h).imp (fun q => .inr (.inr q)) id, fun _ _ e => pre_get m.pre e⟩
end
end VS
namespace VS
open PySem PySem.Spec PyProof.Rows L2
variable [Tables]
section
variable {c : Sta} {Γ Γ' Γ₁ Γ₂ : List Bool} {z : Sit} {D : Ends} {a e : Expr} {fa fe : DE} {pos pos' : Pos} {f g : DS}
def whileD (t : DT) (f : DS) : Nat → DS
  | 0, _, _ => .bad
  | n + 1, ρ, S => sLift t ρ S fun k S' => if k = true then (match f ρ S' with
    | .nx ρ' S2 => whileD t f n ρ' S2
    | o => o) else .nx ρ S'
def sWhile (n : Nat) (t : DT) (f : DS) : DS := fun ρ S => whileD t f n ρ S
def spV (g : Glo) (n : Nat) (fr pu : Bool) (f : List VS.D → M VS.D) : Sp := fun vs H Q E => LamX.Tabs Tables.T H ∧ ∃ ds S A O, ds.length = n ∧ Rel ⟨pu, H, O, A⟩ [] [] S A [] H ∧ RepL H (Ex O A []) A ds vs ∧ match f ds S with
  | .ok d S' => ∀ v A' H', okR ⟨pu, H, O, A⟩ fr d S' v A' H' → Q v H'
  | .exc x S' => ∀ cls oe A' H', Rel ⟨pu, H, O, A⟩ [] [] S' A' [] H' → ExcOk g H' (Ex O A' []) A' x cls oe → E cls oe H'
  | .bad => False
structure VFn (g : Glo) (k : Nat) (x : Str) (ps : List Str) (fr pu : Bool) (f : List VS.D → M VS.D) : Prop where
  ex : ∃ a fd, FnOk g.P g.w g.K g.mg g.base (L2.CX g.P g.w) k a fd ps (spV g ps.length fr pu f) ∧ g.mg x = some (.ref a) ∧ PySem.W.keepIn g.K (.ref a) = true ∧ Binds g.K fd ps []
theorem VFn.mono {g : Glo} {j k : Nat} {x : Str} {ps : List Str} {fr pu : Bool} {f : List VS.D → M VS.D} (h : VFn g j x ps fr pu f) (hk : j ≤ k) : VFn g k x ps fr pu f := by
  obtain ⟨a, fd, F, r⟩ := h.ex
  exact ⟨a, fd, F.mono hk, r⟩
def outO (act : Act) (own : Own) (b : Addr) : Prop := act.O0 b ∨ some b ∈ own
section
variable {act : Act} {own : Own} {ρ : List VS.D} {S S' : Store} {A A' : List Addr} {σ : L2.St} {H H' : Hp} {pu : Bool}
theorem Rel.entry (r : Rel act own ρ S A σ H) : Rel ⟨pu, H, outO act own, A⟩ [] [] S A [] H := by
  have ex1 : ∀ b, Ex (outO act own) A [] b → Ex act.O0 A own b := fun b q => by
    rcases q with (q | q) | q | q
    · exact .inl q
    · exact .inr (.inr q)
    · exact .inr (.inl q)
    · cases q
  have g : Go (fun _ => False) H H (Ex act.O0 A own) (Ex (outO act own) A []) A A := ⟨Chg.refl, fun _ z => z.elim, fun b z => .inl (ex1 b z), fun _ _ e => e⟩
  exact ⟨rfl, rfl, fun j d' o v' h1 _ _ => (by simp at h1), fun j k a h1 _ => (by simp at h1), r.lenA, fun n d' a h1 h2 => (r.cell n d' a h1 h2).imp id fun z => OwnOk.go g (fun z => z) z, r.nodA, fun a ha => (by cases ha), fun a ha => (by cases ha), List.prefix_refl _, fun a h => .inl h, fun a ha => (by cases ha), fun b hb => r.trk b (ex1 b hb), Chg.refl⟩
end
def eCall (f : List VS.D → M VS.D) (fs : DA) : DE := fun ρ => fs ρ >>= f
section
variable {x : Str} {ps : List Str} {pu : Bool} {fn : List VS.D → M VS.D} {k : Nat} {es : List Expr} {fs : DA} {p : Pos}
end
def defD (n : Nat) (fr : Bool) (f : DS) : List VS.D → M VS.D := fun ds S => match f (ds ++ List.replicate (n - ds.length) .und) S with
  | .ret d S' => .ok d S'
  | .nx _ S' => if fr = true then .bad else .ok .non S'
  | .exc x _ S' => .exc x S'
  | .bad => .bad
theorem rel_start {act : Act} {ds : List VS.D} {vs : List V} {S : Store} {A : List Addr} {H : Hp} (r : Rel act [] [] S A [] H) (l : RepL H (Ex act.O0 A []) A ds vs) (N : List Str) (hN : ds.length ≤ N.length) : Rel act (List.replicate N.length none) (ds ++ List.replicate (N.length - ds.length) .und) S A (L2.start N vs) H := by
  have ll := l.len
  have nm : ∀ b, ¬ some b ∈ (List.replicate N.length none : Own) := fun b q => by
    have q2 := (List.mem_replicate.mp q).2
    cases q2
  have ex : ∀ b, Ex act.O0 A (List.replicate N.length none) b ↔ Ex act.O0 A [] b := fun b => ⟨fun q => q.imp id fun q => q.imp id fun q => absurd q (nm b), fun q => q.imp id fun q => q.imp id fun q => by cases q⟩
  have g : Go (fun _ => False) H H (Ex act.O0 A []) (Ex act.O0 A (List.replicate N.length none)) A A := ⟨Chg.refl, fun _ z => z.elim, fun b z => .inl ((ex b).mp z), fun _ _ e => e⟩
  refine ⟨?_, ?_, fun i d o v h1 h2 h3 => ?_, fun i j a h1 _ => absurd (List.mem_of_getElem? h1) (nm a), r.lenA, fun n d a h1 h2 => (r.cell n d a h1 h2).imp id fun z => OwnOk.go g (fun z => z) z, r.nodA, fun a ha => absurd ha (nm a), fun a ha => absurd ha (nm a), r.pre, r.newA, fun a ha => absurd ha (nm a), fun b hb => r.trk b ((ex b).mp hb), r.chg⟩
  · unfold L2.start; rw [List.length_append, List.length_append, List.length_replicate, List.length_replicate, List.length_map]; omega
  · unfold L2.start; rw [List.length_append, List.length_replicate, List.length_replicate, List.length_map]; omega
  · have eo : o = none := by
      have q := List.mem_of_getElem? h2
      exact (List.mem_replicate.mp q).2
    subst eo
    by_cases hi : i < ds.length
    · rw [List.getElem?_append_left hi] at h1
      obtain ⟨w, e1, rw'⟩ := l.get h1
      have e3 : (L2.start N vs)[i]? = some (some w) := by
        unfold L2.start
        rw [List.getElem?_append_left (by rw [List.length_map]; omega), List.getElem?_map, e1]
        rfl
      rw [e3] at h3
      cases h3
      exact .inr ⟨w, rfl, Rep.go g _ _ rw'⟩
    · rw [List.getElem?_append_right (by omega)] at h1
      exact .inl (List.mem_replicate.mp (List.mem_of_getElem? h1)).2
theorem fn_ok {g : Glo} {qual name : Str} {params : Arguments} {body : List Stmt} {scope : Scope} {f : Addr} {fd : FuncData} {N ps : List Str} {k : Nat} {fr pu : Bool} {fb : DS} {dvs : List V} {kws : List (Str × V)} (F : FunD g.K name qual params body scope dvs kws f fd) (S : FnScope N ps scope)
    (hb : VBl ⟨g, N, scope, k, true, fr, pu, pu, none⟩ (List.replicate N.length false) Γ' body fb) : FnOk g.P g.w g.K g.mg g.base (L2.CX g.P g.w) (k + 1) f fd ps (spV g ps.length fr pu (defD N.length fr fb)) := by
  have hpl : ps.length ≤ N.length := by have := congrArg List.length S.pre; rw [List.length_take] at this; omega
  refine F.ok S (fun vs H Q E h => ?_) fun cdv A outer s H vs Q E hr h => ?_
  · obtain ⟨_, ds, _, _, _, hl, _, l, _⟩ := h
    rw [l.len, hl]
  · obtain ⟨ht, ds, S0, A0, O, hl, r, l, h⟩ := h
    refine ⟨_, pss_wp, ?_⟩
    have rel := rel_start r l N (by omega)
    refine hb ⟨g, cxOf (L2.CX g.P g.w) g.P g.w g.K g.mg g.base N qual scope f cdv A outer s H E, fun cls d _ H => E cls d H, ⟨pu, H, O, A0⟩, List.replicate N.length none, ds ++ List.replicate (N.length - ds.length) .und, S0, A0, L2.start N vs, H, pu⟩ ⟨rfl, ⟨rfl, rfl, rfl, rfl, rfl, rfl, rfl, S.nd, hr, rfl, fun _ _ => rfl, passes_of rfl, fun _ => rfl, fun _ => rfl, fun _ q => (by cases q)⟩, takes_of rfl rfl rfl rfl, by simp, ⟨rfl, rfl, fun q => q, ht⟩, rel⟩ _ ?_
    have e0 : defD N.length fr fb ds S0 = match fb (ds ++ List.replicate (N.length - ds.length) .und) S0 with | .ret d S' => .ok d S' | .nx _ S' => if fr = true then .bad else .ok .non S' | .exc x _ S' => .exc x S' | .bad => .bad := rfl
    rw [e0] at h
    show SPost _ _ Γ' (fb (ds ++ List.replicate (N.length - ds.length) .und) S0) _
    cases q : fb (ds ++ List.replicate (N.length - ds.length) .und) S0 with
    | nx ρ' S' =>
      rw [q] at h
      cases fr with
      | true => exact h.elim
      | false => exact fun own' A' σ' H' eo r' m => h .non A' H' ⟨r'.leave, rfl⟩
    | ret d S' => rw [q] at h; exact h
    | exc x ρ' S' =>
      rw [q] at h
      exact fun cls oe A' σ' H' r' m o => h cls oe A' H' r'.leave o
    | bad => rw [q] at h; exact h
end
end VS
namespace VS
open PySem PySem.Spec PyProof.Rows L2
variable [Tables]
def noX {α : Type} (m : M α) : M α := fun S => match m S with
  | .exc _ _ => .bad
  | r => r
def compD (g : DG) (t : DT) (f : DE) : List D → List D → List D → M (List D)
  | [], acc, _ => fun S => .ok acc S
  | d :: ds, acc, ρ => match g d ρ with
    | some ρ1 => noX (t ρ1) >>= fun k => if k = true then (noX (f ρ1) >>= fun y => if acc.length < sz then compD g t f ds (acc ++ [y]) ρ else fun _ => .bad) else compD g t f ds acc ρ
    | none => fun _ => .bad
def eComp (vs : List Nat) (i : DI) (g : DG) (t : DT) (f : DE) : DE := fun ρ => i ρ >>= fun ds => compD g t f ds [] (killL vs ρ) >>= fun xs S => .ok (.lst xs) S
def tYesD : DT := fun _ S => .ok true S
structure VC (c : Sta) (Γ : List Bool) (ifs : List Expr) (f : DT) : Prop where
  run : ∀ z : Sit, z.Ok c Γ → ∀ Q : Bool → Hp → Prop, Post z (okT z) (f z.ρ z.S) Q → wpC z.X ifs z.σ z.H Q
instance {c : Sta} {Γ : List Bool} {ifs : List Expr} {f : DT} : CoeFun (VC c Γ ifs f) fun _ => ∀ z : Sit, z.Ok c Γ → ∀ Q : Bool → Hp → Prop, Post z (okT z) (f z.ρ z.S) Q → wpC z.X ifs z.σ z.H Q := ⟨VC.run⟩
section
variable {c : Sta} {Γ Γ' Γ₁ Γ₂ : List Bool} {z : Sit}
end
end VS
namespace VS
open PySem PySem.Spec PyProof.Rows L2
variable [Tables]
def f1 (g : D → M D) : List D → M D
  | [d] => g d
  | _ => fun _ => .bad
def f2 (g : D → D → M D) : List D → M D
  | [d, e] => g d e
  | _ => fun _ => .bad
section
variable {c : Sta} {Γ : List Bool} {br : Bool}
section
variable {x : Str} {p pos : Pos} {e : Expr} {es : List Expr} {fs : DA} {id : String} {g : List D → M D}
end
def dLen : D → M D
  | .lst ds => retD (.int ds.length)
  | .tup ds => retD (.int ds.length)
  | .scr ds => retD (.int ds.length)
  | .tix ds => retD (.int ds.length)
  | .str s => retD (.int s.length)
  | .dic _ kvs => retD (.int kvs.length)
  | _ => badD
def bools : List D → Option (List Bool)
  | [] => some []
  | .bl b :: r => match bools r with
    | some bs => some (b :: bs)
    | none => none
  | _ :: _ => none
def intsD : List D → Option (List Int)
  | [] => some []
  | .int b :: r => match intsD r with
    | some bs => some (b :: bs)
    | none => none
  | _ :: _ => none
def onBools (k : List Bool → D) : D → M D
  | .lst ds => match bools ds with
    | some bs => retD (k bs)
    | none => badD
  | _ => badD
def onInts (k : List Int → M D) : D → M D
  | .lst ds => match intsD ds with
    | some ns => k ns
    | none => badD
  | _ => badD
def dAll : D → M D := onBools fun bs => .bl (bs.all id)
def dAny : D → M D := onBools fun bs => .bl (bs.any id)
def dSum : D → M D := onInts fun ns => retD (.int ns.sum)
def maxI : List Int → Int
  | [] => 0
  | [a] => a
  | a :: r => if maxI r > a then maxI r else a
def minI : List Int → Int
  | [] => 0
  | [a] => a
  | a :: r => if minI r < a then minI r else a
def dMax2 : D → D → M D
  | .int i, .int j => retD (.int (if j > i then j else i))
  | _, _ => badD
def dMin2 : D → D → M D
  | .int i, .int j => retD (.int (if j < i then j else i))
  | _, _ => badD
def numOf (s : List Nat) : Option Int := PySem.intText? ⟨s.toArray⟩
def dInt : D → M D
  | .int i => retD (.int i)
  | .bl b => retD (.int (if b then 1 else 0))
  | .str s => match numOf s with
    | some n => if s.length ≤ 640 then retD (.int n) else badD
    | none => badD
  | _ => badD
def dTuple : D → M D
  | .lst ds => retD (.tup ds)
  | .tup ds => retD (.tup ds)
  | _ => badD
def fList : D → M D
  | .lst ds => retD (.lst ds)
  | .tup ds => retD (.lst ds)
  | .scr ds => retD (.lst ds)
  | _ => badD
def tyName : D → Option String
  | .non => some "NoneType"
  | .bl _ => some "bool"
  | .int _ => some "int"
  | .str _ => some "str"
  | .tup _ => some "tuple"
  | .lst _ => some "list"
  | .scr _ => some "list"
  | .tix _ => some "tuple"
  | .dic _ _ => some "dict"
  | _ => none
def dIsi (t : String) (d : D) : M D := match tyName d with
  | some u => match kitB u t with
    | some b => retD (.bl b)
    | none => badD
  | none => badD
def insI (a : Int) : List Int → List Int
  | [] => [a]
  | b :: r => if a ≤ b then a :: b :: r else b :: insI a r
def sortI : List Int → List Int
  | [] => []
  | a :: r => insI a (sortI r)
def fSorted : D → M D := onInts fun ns => retD (.lst ((sortI ns).map D.int))
end
end VS
namespace VS
open PySem PySem.Spec PyProof.Rows L2
variable [Tables]
section
variable {c : Sta} {Γ Γ' : List Bool} {z : Sit} {D : Ends} {br : Bool}
theorem Sit.Ok.calm (hz : z.Ok c Γ) : Sit.Ok { z with ep := true } { c with ep := true } Γ :=
  ⟨hz.g, ⟨hz.on.prog, hz.on.w, hz.on.K, hz.on.mg, hz.on.base, hz.on.N, hz.on.sc, hz.on.nd, hz.on.room, hz.on.calm, hz.on.cel, hz.on.pass, hz.on.stk, hz.on.frm, hz.on.lam⟩, hz.tk, hz.own, ⟨hz.pu.1, rfl, fun _ => rfl, hz.pu.2.2.2⟩, hz.rel⟩
theorem Step.less {A A' : List Addr} {H H' : Hp} {e : Bool} (s : Step true A H A' H') : Step e A H A' H' := ⟨s.pre, s.new, s.chg.mono fun _ h => by cases h.1⟩
theorem Post.calm {α β : Type} {ok ok' : α → Store → β → List Addr → Hp → Prop} {r : Res α} {Q : β → Hp → Prop} (h : Post z ok r Q) (k : ∀ a S' b A' H', ok' a S' b A' H' → ok a S' b A' H') : Post { z with ep := true } ok' r Q := by
  cases r with
  | ok a S' => exact fun b H' A' s o => h b H' A' s.less (k _ _ _ _ _ o)
  | exc x S' => exact fun cls oe H' A' s r o => h cls oe H' A' s.less r o
  | bad => exact h
def eNew (f : DE) : DE := fun ρ S => match f ρ S with
  | .ok d S' => .ok (.ref S'.length) (S' ++ [d])
  | .exc x S' => .exc x S'
  | .bad => .bad
theorem Step.cell {e : Bool} {A A' : List Addr} {H H' : Hp} {p : Addr} (s : Step e A H A' H') (hp : H p = none) : Step e A H (A' ++ [p]) H' :=
  ⟨s.pre.trans (List.prefix_append _ _), fun a h => (List.mem_append.mp h).elim (s.new a) fun h => by rw [List.mem_singleton.mp h]; exact .inr hp, s.chg⟩
def gApp : List VS.D → List VS.D → Option (List VS.D)
  | l, [d] => if l.length < sz then some (l ++ [d]) else none
  | _, _ => none
def sMut (i : Nat) (g : List VS.D → List VS.D → Option (List VS.D)) (fs : DA) : DS := fun ρ S => match ρ[i]? with
  | some (.lst l) => sLift fs ρ S fun ds S' => match g l ds with
    | some l' => .nx (ρ.set i (.lst l')) S'
    | none => .bad
  | _ => .bad
section
variable {i : Nat} {x name : Str} {id : String} {g : List VS.D → List VS.D → Option (List VS.D)} {r : V → List V → Hp → VK → Prop} {fs : DA} {e : Expr} {es : List Expr} {px apos cpos pos : Pos}
end
end
end VS
namespace VS
open PySem PySem.Spec PyProof.Rows L2
variable [Tables]
def putD (kvs : List (DK × VS.D)) (k : DK) (v : VS.D) : List (DK × VS.D) :=
  if (kvs.any fun p => decide (p.1 = k)) = true then kvs.map (fun p => if p.1 = k then (p.1, v) else p) else kvs ++ [(k, v)]
def dSet : VS.D → VS.D → VS.D → Option VS.D
  | .lst ds, .int k, v => match ixN ds.length k with
    | some j => some (.lst (ds.set j v))
    | none => none
  | .dic t kvs, d, v => match toK d with
    | some k => if k.isRight = t then (if kvs.length < sz then some (.dic t (putD kvs k v)) else none) else none
    | none => none
  | _, _, _ => none
section
variable {H : Hp} {O : Addr → Prop} {A : List Addr}
end
section
variable {c : Sta} {Γ Γ' : List Bool} {z : Sit} {D : Ends} {br : Bool}
theorem getD {X : Cx} (hu : X.A.units + 1 < cLine) : PGet X (fun x y H Q => ∃ a v, x = .ref a ∧ DGet H a y (some v) ∧ Q v H) := by
  intro pins s σ H x y v u Q I rx ry h
  obtain ⟨a, w, rfl, g, q⟩ := h
  obtain rfl : v = Value.ref a := rx
  exact d_getItem hu I g ry fun w' s3 I3 rw' => ⟨w, H, I3, rw', q⟩
end
end VS
namespace VS
open PySem PySem.Spec PyProof.Rows L2
variable [Tables]
def sPut (i : Nat) (fk fv : DE) : DS := fun ρ S => sLift fv ρ S fun v S1 => sLift fk ρ S1 fun k S2 => match ρ[i]? with
  | some d => match dSet d k v with
    | some d' => .nx (ρ.set i d') S2
    | none => .bad
  | none => .bad
def sPutC (i : Nat) (fk fv : DE) : DS := fun ρ S => match ρ[i]? with
  | some (.ref n) => sLift fv ρ S fun v S1 => sLift fk ρ S1 fun k S2 => match S2[n]? with
    | some d => match dSet d k v with
      | some d' => .nx ρ (S2.set n d')
      | none => .bad
    | none => .bad
  | _ => .bad
def sAugC (i : Nat) (fk : DE) (g : VS.D → VS.D → M VS.D) (fv : DE) : DS := fun ρ S => match ρ[i]? with
  | some (.ref n) => sLift fk ρ S fun k S1 => match S1[n]? with
    | some d => sLift (fun _ => dIx d k) ρ S1 fun old S2 => sLift fv ρ S2 fun v S3 => sLift (fun _ => g old v) ρ S3 fun new S4 => match S4[n]? with
      | some d2 => match dSet d2 k new with
        | some d' => .nx ρ (S4.set n d')
        | none => .bad
      | none => .bad
    | none => .bad
  | _ => .bad
section
variable {c : Sta} {Γ Γ' : List Bool} {z : Sit} {D : Ends} {br : Bool} {i : Nat} {x : Str} {px p2 pos : Pos} {k e : Expr} {fk fv : DE}
theorem Rep.step {S : Store} {A A' : List Addr} {H H' : Hp} {d : VS.D} {v : V} (s : Step z.ep A H A' H') (h : Rep H (Ex z.act.O0 A z.own) A d v) : Rep H' (Ex z.act.O0 A' z.own) A' d v := Rep.go s.go d v h
end
end VS
namespace VS
open PySem PySem.Spec PyProof.Rows L2
variable [Tables]
inductive Src where
  | l (a : Addr)
  | t (a : Addr)
  | s (x : Str)
def Src.adr : Src → Option Addr
  | .l a => some a
  | .t a => some a
  | .s _ => none
def Src.v : Src → V
  | .l a => .ref a
  | .t a => .ref a
  | .s x => .str x
def Src.holds (K : PySem.W.Frag) (H : Hp) : Src → List V → Prop
  | .l a, xs => SqL K H a xs
  | .t a, xs => SqT K H a xs
  | .s x, xs => xs = x.cps.toList.map fun c => V.str ⟨#[c]⟩
def Src.st (h : Heap) (it : Addr) (i : Nat) : Src → Prop
  | .l a => h.IsListIter it a i
  | .t a => h.IsTupleIter it a i
  | .s x => ∃ t, h.IsStrIter it (strIterType x) x t i
theorem Src.kept {src : Src} {h h' : Heap} {it : Addr} {i : Nat} (q : src.st h it i) (k : ∀ o, h.get? it = some o → h'.get? it = some o) : src.st h' it i := by
  cases src with
  | l a => obtain ⟨o, ho, r⟩ := q; exact ⟨o, k o ho, r⟩
  | t a => obtain ⟨o, ho, r⟩ := q; exact ⟨o, k o ho, r⟩
  | s x => obtain ⟨t, o, ho, r⟩ := q; exact ⟨t, o, k o ho, r⟩
section
variable {X : Cx} {pins : List (Addr × Obj)} {σ : L2.St} {H : Hp} {s : Shared}
theorem Src.inj (I : Inv X pins σ H s) {src : Src} {xs ys : List V} (h : src.holds X.K H xs) (g : src.holds X.K H ys) : xs = ys := by
  cases src with
  | l a => exact I.list_inj h g
  | t a => exact I.tuple_inj h g
  | s x => exact Eq.trans h (Eq.symm g)
theorem Src.lt (I : Inv X pins σ H s) {src : Src} {xs : List V} (q : src.holds X.K H xs) (a : Addr) (e : src.adr = some a) : a < s.heap.objs.size := by
  cases src with
  | l b => cases e; obtain ⟨its, rv, p, _⟩ := I.list q; exact p.lt
  | t b => cases e; obtain ⟨its, rv, p, _⟩ := I.tuple q; obtain ⟨o, ho, _⟩ := id p; exact Heap.lt_size ho
  | s x => cases e
end
section
variable {prog : Program} {w : World} {A : Around} {E : Value → Shared → Prop} {s : Shared}
end
end VS
namespace VS
open PySem PySem.Spec PyProof.Rows L2
variable [Tables]
section
variable {c : Sta} {Γ : List Bool} {z : Sit} {br : Bool}
def enumL : Nat → List VS.D → List VS.D
  | _, [] => []
  | k, d :: ds => .tup [.int k, d] :: enumL (k + 1) ds
def zipL : List VS.D → List VS.D → List VS.D
  | a :: as, b :: bs => .tup [a, b] :: zipL as bs
  | _, _ => []
def iEnumD (f : DE) : DI := fun ρ => f ρ >>= fun d => dIter d >>= fun ds S => .ok (enumL 0 ds) S
def iZipD (f g : DE) : DI := fun ρ => f ρ >>= fun a => g ρ >>= fun b => dIter a >>= fun as => dIter b >>= fun bs S => .ok (zipL as bs) S
variable {e e2 : Expr} {fe f2 : DE} {p pos tpos : Pos} {elts : List Expr} {kk : Nat}
end
end VS
namespace VS
open PySem PySem.Spec PyProof.Rows L2
variable [Tables]
def asS : VS.D → M (List Nat) := fun d S => match d with
  | .str s => .ok s S
  | _ => .bad
def eM1 (g : List Nat → VS.D → M VS.D) (fo fe : DE) : DE := fun ρ => fo ρ >>= fun d => asS d >>= fun s => fe ρ >>= fun e => g s e
section
variable {c : Sta} {Γ : List Bool} {z : Sit} {br : Bool} {o e : Expr} {fo fe : DE} {name : Str} {id : String} {apos pos : Pos}
def txts : List VS.D → Option (List (List Nat))
  | [] => some []
  | .str s :: r => match txts r with
    | some ss => some (s :: ss)
    | none => none
  | _ :: _ => none
def seqOf : VS.D → Option (List VS.D)
  | .lst ds => some ds
  | .tup ds => some ds
  | _ => none
def sumL (ss : List (List Nat)) : Nat := (ss.map List.length).sum
def dJoin (a : List Nat) (d : VS.D) : M VS.D := match seqOf d with
  | some ds => match txts ds with
    | some ss => if sumL ss + ss.length * a.length ≤ 16777216 then retD (.str (TL.joinL a ss)) else badD
    | none => badD
  | none => badD
end
def sInsPop (i : Nat) (f g : DE) : DS := fun ρ S => match ρ[i]? with
  | some (.lst l) => sLift f ρ S fun a S1 => sLift g ρ S1 fun b S2 => match a, b with
    | .int m, .int j => match seqIndex? j l.length with
      | some k => match l[k]? with
        | some d => if l.length ≤ sz ∧ -(2 ^ 63) ≤ j ∧ j < 2 ^ 63 ∧ 0 ≤ m ∧ m < 2 ^ 63 then .nx (ρ.set i (.lst ((l.eraseIdx k).take m.toNat ++ [d] ++ (l.eraseIdx k).drop m.toNat))) S2 else .bad
        | none => .bad
      | none => .bad
    | _, _ => .bad
  | _ => .bad
theorem RepL.erase {H : Hp} {O : Addr → Prop} {A : List Addr} : ∀ {ds : List VS.D} {vs : List V} (n : Nat), RepL H O A ds vs → RepL H O A (ds.eraseIdx n) (vs.eraseIdx n)
  | [], vs, n, h => by rw [show vs = [] from h]; cases n <;> exact rfl
  | d :: ds, vs, n, h => by
    obtain ⟨v, r, e, h1, h2⟩ := h
    subst e
    cases n with
    | zero => exact h2
    | succ n => exact ⟨v, _, rfl, h1, RepL.erase n h2⟩
section
variable {c : Sta} {Γ : List Bool} {z : Sit} {i : Nat} {x : Str} {e1 e2 : Expr} {f g : DE} {px qx pa pb pc pd pos : Pos}
end
end VS
namespace VS
open PySem PySem.Spec PyProof.Rows L2
variable [Tables]
abbrev Flat2 := Int ⊕ Str
def entW (e : DictEntry) : Option (Str × Flat2) := match e.key, e.val with
  | .str x _, .int i _ => some (x, .inl i)
  | .str x _, .str y _ => some (x, .inr y)
  | _, _ => none
def dicV (K : PySem.W.Frag) (a : Addr) : Option (List (Option (Str × Flat2))) := match K.lookup a with
  | some ⟨_, _, .dict es _, _⟩ => some (es.toList.map entW)
  | _ => none
abbrev TabV : Type := (PySem.W.Frag → Addr) × List (Str × Flat2)
def tabs (tv : List TabV) : List He.Tab := tv.map fun t => (t.1, t.2.map (·.1))
abbrev AlV : Type := He.AlT × List (Option (List (Option (Str × Flat2))))
def obsV (fa : List He.Fa) (fn : List He.DefD) (tv : List TabV) (K : PySem.W.Frag) : AlV := (He.obsT fa fn (tabs tv) K, tv.map fun t => dicV K (t.1 K))
def valV2 (fn : List He.DefD) (tv : List TabV) (w : World) : AlV := (He.valT fn (tabs tv) w, tv.map fun t => some (t.2.map some))
def isL (o : Obj) : Bool := match o.data with
  | .seq _ _ => o.cls == .type "list"
  | _ => false
def NoL (K : PySem.W.Frag) : Prop := ∀ a o, K.lookup a = some o → isL o = false
def frV (g : Addr → Option Obj) (as : List Addr) : PySem.W.Frag := (He.frG g as).filter fun p => !isL p.2
theorem mem_of_look {K : PySem.W.Frag} {a : Addr} {o : Obj} (h : K.lookup a = some o) : (a, o) ∈ K := by
  induction K with
  | nil => cases h
  | cons p r ih =>
    obtain ⟨b, u⟩ := p
    rw [List.lookup_cons] at h
    split at h
    · rename_i e
      rw [eq_of_beq e]; cases h; exact List.mem_cons_self ..
    · exact List.mem_cons_of_mem _ (ih h)
theorem frV_noL {g : Addr → Option Obj} {as : List Addr} : NoL (frV g as) := fun a o h => by
  have q := (List.mem_filter.mp (mem_of_look h)).2
  cases e : isL o with
  | false => rfl
  | true => simp only [e] at q; cases q
theorem frV_in {h : Heap} {as : List Addr} : (frV h.get? as).In h := fun a o e => by
  have q := (List.mem_filter.mp (mem_of_look e)).1
  unfold He.frG at q
  obtain ⟨b, _, hb⟩ := List.mem_filterMap.mp q
  cases e2 : h.get? b with
  | none => rw [e2] at hb; cases hb
  | some u => rw [e2] at hb; cases hb; exact e2
def obsVG (n : Nat) (fa : List He.Fa) (fn : List He.DefD) (tv : List TabV) (g : Addr → Option Obj) : AlV := obsV fa fn tv (frV g (He.asD g n))
def SaysV (fa : List He.Fa) (fn : List He.DefD) (tv : List TabV) (w : World) (K : PySem.W.Frag) : Prop := obsV fa fn tv K = valV2 fn tv w
def hookV (n : Nat) (fa : List He.Fa) (fn : List He.DefD) (tv : List TabV) : PySem.W.Hook where
  α := AlV
  obs := fun s => obsVG n fa fn tv s.heap.get?
  val := fun w => valV2 fn tv w
  says := fun w h => ∃ K : PySem.W.Frag, (K.In h ∧ NoL K) ∧ SaysV fa fn tv w K
  of := fun _ _ e => ⟨_, ⟨frV_in, frV_noL⟩, e⟩
  keeps := fun _ _ _ ⟨K, hK, c⟩ k => ⟨K, ⟨PySem.W.Frag.In.keeps hK.1 k, hK.2⟩, c⟩
theorem obsVG_eq {n : Nat} {fa : List He.Fa} {fn : List He.DefD} {tv : List TabV} {g : Addr → Option Obj} {s : Shared} (h : ∀ a, g a = s.heap.get? a) : obsVG n fa fn tv g = (hookV n fa fn tv).obs s := by
  have e : g = s.heap.get? := funext h
  rw [e] <;> rfl
section
variable {fa : List He.Fa} {fn : List He.DefD} {tv : List TabV} {w : World} {K : PySem.W.Frag}
theorem SaysV.t (c : SaysV fa fn tv w K) : He.SaysT fa fn (tabs tv) w K := congrArg (fun z : AlV => z.1) c
theorem SaysV.tab (c : SaysV fa fn tv w K) (i : Nat) {t : TabV} (h : tv[i]? = some t := by rfl) : (∃ es n, KDict K w (t.1 K) es n) ∧ dicV K (t.1 K) = some (t.2.map some) := by
  refine ⟨c.t.tab (t := (t.1, t.2.map (·.1))) i (by unfold tabs; rw [List.getElem?_map, h]; rfl), ?_⟩
  have e : (tv.map fun t => dicV K (t.1 K)) = tv.map fun t => some (t.2.map some) := congrArg (fun z : AlV => z.2) c
  have e2 : (tv.map fun t => dicV K (t.1 K))[i]? = (tv.map fun t => some (t.2.map some))[i]? := by rw [e]
  rw [List.getElem?_map, List.getElem?_map, h] at e2
  exact Option.some.inj e2
end
section
variable {c : Sta} {Γ : List Bool} {z : Sit} {br : Bool} {x : Str} {kvs : List (Str × Flat2)} {e : Expr} {fe : DE} {p pos : Pos}
end
section
variable {c : Sta} {Γ : List Bool} {z : Sit} {br : Bool} {x : Str} {pos : Pos}
end
end VS
namespace VS
open PySem PySem.Spec PyProof.Rows L2
variable [Tables]
section
variable {c : Sta} {Γ Γ₁ : List Bool} {z : Sit} {D : Ends} {br : Bool} {x : Str} {kvs : List (Str × Flat2)} {e : Expr} {fe : DE} {p pos : Pos} {f : DS} {sts : List Stmt} {st : Stmt}
def dIAdd : VS.D → VS.D → M VS.D
  | .int i, .int j => retD (.int (i + j))
  | _, _ => badD
theorem VFn.of {g : Glo} {name : Str} {params : Arguments} {body : List Stmt} {scope : Scope} {f : Addr} {fd : FuncData} {N ps : List Str} {k : Nat} {fr pu : Bool} {fb : DS} {Γ' : List Bool} (F : FunD g.K name name params body scope [] [] f fd) (S : FnScope N ps scope)
    (hm : g.mg name = some (.ref f)) (hb : Binds g.K fd ps []) (h : VBl ⟨g, N, scope, k, true, fr, pu, pu, none⟩ (List.replicate N.length false) Γ' body fb) : VFn g (k + 1) name ps fr pu (defD N.length fr fb) :=
  ⟨f, fd, fn_ok F S h, hm, F.kp, hb⟩
end
end VS
namespace VS
open PySem PySem.Spec PyProof.Rows L2
variable [Tables]
open Sem (wp)
abbrev IsZipS (h : Heap) (z TI TO : Addr) (f0 : Value) : Prop :=
  h.get? z = some { cls := .type "zip", dict := none, data := .fields #[f0, .bool false, .bool true, .ref TI, .ref TO], slots := #[] }
section
variable {prog : Program} {w : World} {A : Around} {E : Value → Shared → Prop} {s : Shared}
variable {it z TI TO i1 i2 : Addr} {fp fp1 fp2 : List Addr} {n n1 n2 i : Nat} {P P1 P2 : Nat → Value → Prop} {St St1 St2 : Nat → Heap → Prop} {a1 a2 : Value}
theorem noe_item {Q : Option Value → Shared → Prop} (D : Draws prog w A it fp n P St) (hi : i < n) (st : St i s.heap)
    (h : ∀ x H' tk, P i x → St (i + 1) H' → Heap.SameBut it s.heap H' → Q (some x) { s with heap := H', toks := tk }) : wpAny (model prog w) A (Builtin.SmallTypes.nextOrEnd (.ref it)) Q E s := by
  unfold Builtin.SmallTypes.nextOrEnd
  exact wpAny_bind (wpAny_attempt (D.item i s _ _ hi st fun x H' tk a b c => wpAny_pure (h x H' tk a b c)))
theorem noe_end {Q : Option Value → Shared → Prop} (D : Draws prog w A it fp n P St) (st : St n s.heap) (h : ∀ H', Heap.ExtBut it s.heap H' → Q none { s with heap := H' }) :
    wpAny (model prog w) A (Builtin.SmallTypes.nextOrEnd (.ref it)) Q E s := by
  unfold Builtin.SmallTypes.nextOrEnd
  refine wpAny_bind (wpAny_attempt (D.done s _ _ st fun H' e x y => ?_))
  obtain ⟨o, ho, hc⟩ := y
  refine wpAny_bind (wpAny_isInstance (T := "StopIteration") (b := true) ⟨o, ho, hc⟩ isSubtype_stop ?_)
  exact wpAny_pure (h H' x)
theorem stop_it {α : Type} {Q : α → Shared → Prop} (hh : A.handled = none) (h : ∀ H' e, (∀ c o, s.heap.get? c = some o → H'.get? c = some o) → (∃ o, H'.get? e = some o ∧ o.cls = .type "StopIteration") → E (.ref e) { s with heap := H' }) :
    wpAny (model prog w) A (Builtin.SmallTypes.stopIteration : Sem α) Q E s := by
  show wpAny _ _ (newExc (.type "StopIteration") [] >>= _) _ _ _
  refine wpAny_bind ?_
  unfold newExc newTuple
  refine wpAny_bind (wpAny_newObj_type ?_ (by size_fits))
  have e1 : firstArgMember (.type "StopIteration") [] = pure Value.none := by first | rfl | (simp only [firstArgMember]; rfl)
  refine wpAny_bind (m := firstArgMember _ _) (wpAny_of_eq e1 ?_)
  refine wpAny_newObj_type ?_ (by size_fits)
  unfold raiseNew
  refine wpAny_bind (wpAny_handled ?_)
  rw [hh]
  refine wpAny_bind (wpAny_pure (wpAny_throw ?_))
  exact h _ _ (fun c o x => Heap.get?_push_of_some _ (Heap.get?_push_of_some _ x)) ⟨_, Heap.get?_push_size _ rfl, rfl⟩
theorem zs_item {Q : Value → Shared → Prop} (S : ZipSep2 z TI TO i1 i2 fp1 fp2) (D1 : Draws prog w A i1 fp1 n1 P1 St1) (D2 : Draws prog w A i2 fp2 n2 P2 St2)
    (hz : IsZipS s.heap z TI TO .none) (jTI : IsTupOf2 s.heap TI (.ref i1) (.ref i2)) (jTO : IsTupOf2 s.heap TO a1 a2) (st1 : St1 i s.heap) (st2 : St2 i s.heap) (l1 : i < n1) (l2 : i < n2)
    (hQ : ∀ x1 x2 H' tk, P1 i x1 → P2 i x2 → IsZipS H' z TI TO (rawInt s.heap.objs.size) → IsTupOf2 H' TO x1 x2 → St1 (i + 1) H' → St2 (i + 1) H' → IsTupOf2 H' s.heap.objs.size x1 x2 →
      (∀ c o, c ≠ z → c ≠ TO → c ≠ i1 → c ≠ i2 → s.heap.get? c = some o → H'.get? c = some o) → Q (.ref s.heap.objs.size) { s with heap := H', toks := tk }) :
    wpAny (model prog w) A (Builtin.«zip.__next__» ⟨[.ref z], []⟩) (fun r s' => ∃ v, r = .done (.ret v) ∧ Q v s') E s := by
  obtain ⟨hp, gg, dd, tk0, os⟩ := s
  show wpAny _ _ (field (.ref z) 2 >>= _) _ _ _
  refine wpAny_bind (wpAny_field hz rfl (x := .bool true) rfl ?_)
  show wpAny _ _ (field (.ref z) 3 >>= _) _ _ _
  refine wpAny_bind (wpAny_field hz rfl (x := .ref TI) rfl ?_)
  refine wpAny_bind (wpAny_seqItems jTI rfl ?_)
  show wpAny _ _ (Builtin.SmallTypes.ownedTupleIsFree (.ref z) >>= _) _ _ _
  refine wpAny_bind ?_
  unfold Builtin.SmallTypes.ownedTupleIsFree
  refine wpAny_bind (wpAny_field hz rfl (x := .none) rfl (wpAny_pure ?_))
  simp only [if_true]
  refine wpAny_bind (wpAny_rule (wpAny_bind (wpAny_field hz rfl (x := .ref TO) rfl ?_)))
  refine wpAny_bind (wpAny_setField_rec hz (by simp) fun q0 zq0 sq0 => ?_)
  have zq0 : IsZipS q0 z TI TO .ellipsis := zq0
  have sq0 : Heap.SameBut z hp q0 := sq0
  refine wpAny_bind ?_
  simp only [List.zipIdx_cons, List.zipIdx_nil, List.forIn_cons, List.forIn_nil]
  refine wpAny_bind (wpAny_bind (wpAny_onRaise ?_))
  show wpAny _ _ (Builtin.SmallTypes.nextOrEnd (.ref i1)) _ _ ⟨q0, gg, dd, tk0, os⟩
  refine noe_item D1 l1 (D1.over st1 sq0 S.zf1) fun x1 p1 t1 hx1 sn1 hp1 => ?_
  have hp1 : Heap.SameBut i1 q0 p1 := hp1
  have u1 : IsTupOf2 p1 TO a1 a2 := hp1.extBut _ _ S.Ti1 (sq0.extBut _ _ S.TOz jTO)
  refine wpAny_bind (wpAny_seqItems (s := ⟨p1, gg, dd, t1, os⟩) u1 rfl ?_)
  refine wpAny_bind (updateSeq_IsTupOf2 (s := ⟨p1, gg, dd, t1, os⟩) u1 fun q1 T1 sq1 => ?_)
  have T1 : IsTupOf2 q1 TO x1 a2 := T1
  have sq1 : Heap.SameBut TO p1 q1 := sq1
  refine wpAny_bind (wpAny_letGo (wpAny_pure ?_))
  refine wpAny_bind (wpAny_bind (wpAny_onRaise ?_))
  show wpAny _ _ (Builtin.SmallTypes.nextOrEnd (.ref i2)) _ _ ⟨q1, gg, dd, t1, os⟩
  refine noe_item D2 l2 (D2.over (D2.over (D2.over st2 sq0 S.zf2) hp1 S.sep1_2) sq1 S.Tf2) fun x2 p2 t2 hx2 sn2 hp2 => ?_
  have hp2 : Heap.SameBut i2 q1 p2 := hp2
  have u2 : IsTupOf2 p2 TO x1 a2 := hp2.extBut _ _ S.Ti2 T1
  refine wpAny_bind (wpAny_seqItems (s := ⟨p2, gg, dd, t2, os⟩) u2 rfl ?_)
  refine wpAny_bind (updateSeq_IsTupOf2 (s := ⟨p2, gg, dd, t2, os⟩) u2 fun q2 T2 sq2 => ?_)
  have T2 : IsTupOf2 q2 TO x1 x2 := T2
  have sq2 : Heap.SameBut TO p2 q2 := sq2
  refine wpAny_bind (wpAny_letGo (wpAny_pure (wpAny_pure ?_)))
  refine wpAny_bind (wpAny_seqItems (s := ⟨q2, gg, dd, t2, os⟩) T2 rfl ?_)
  refine wpAny_bind (wpAny_newTuple ?_)
  have esz : q2.objs.size = hp.objs.size := by rw [sq2.1, hp2.1, sq1.1, hp1.1, sq0.1]
  have zz : IsZipS q2 z TI TO .ellipsis := sq2.extBut _ _ S.TOz.symm (hp2.extBut _ _ S.zi2 (sq1.extBut _ _ S.TOz.symm (hp1.extBut _ _ S.zi1 zq0)))
  have kk : ∀ c o, c ≠ z → c ≠ TO → c ≠ i1 → c ≠ i2 → hp.get? c = some o → q2.get? c = some o := fun c o cz cT c1 c2 e => sq2.extBut _ _ cT (hp2.extBut _ _ c2 (sq1.extBut _ _ cT (hp1.extBut _ _ c1 (sq0.extBut _ _ cz e))))
  have j1 : St1 (i + 1) q2 := D1.over (D1.over (D1.over sn1 sq1 S.Tf1) hp2 S.sep2_1) sq2 S.Tf1
  have j2 : St2 (i + 1) q2 := D2.over sn2 sq2 S.Tf2
  have zlt : z < q2.objs.size := Heap.lt_size zz
  show wpAny _ _ (Builtin.SmallTypes.ownedTupleHandOut (.ref z) (.ref q2.objs.size) >>= _) _ _ ⟨q2.push { cls := .type "tuple", data := .seq #[x1, x2] }, gg, dd, t2, os⟩
  refine wpAny_bind ?_
  unfold Builtin.SmallTypes.ownedTupleHandOut
  have zz6 : IsZipS (q2.push { cls := .type "tuple", data := .seq #[x1, x2] }) z TI TO .ellipsis := Heap.get?_push_of_some _ zz
  refine wpAny_bind (wpAny_setField_rec zz6 (by simp) fun q7 zz7 s7 => ?_)
  have zz7 : IsZipS q7 z TI TO (rawInt q2.objs.size) := zz7
  refine wpAny_setField_rec zz7 (by simp) fun q8 zz8 s8 => ?_
  have zz8 : IsZipS q8 z TI TO (rawInt q2.objs.size) := zz8
  have s7 : Heap.SameBut z (q2.push { cls := .type "tuple", data := .seq #[x1, x2] }) q7 := s7
  have s8 : Heap.SameBut z q7 q8 := s8
  have up : ∀ c o, c ≠ z → q2.get? c = some o → q8.get? c = some o := fun c o c1 e => s8.extBut _ _ c1 (s7.extBut _ _ c1 (Heap.get?_push_of_some _ e))
  have T8 : IsTupOf2 q8 q2.objs.size x1 x2 := s8.extBut _ _ (Nat.ne_of_gt zlt) (s7.extBut _ _ (Nat.ne_of_gt zlt) (Heap.get?_push_size _ rfl))
  rw [esz] at zz8 T8
  refine wpAny_pure ⟨_, rfl, ?_⟩
  show Q (.ref q2.objs.size) ⟨q8, gg, dd, t2, os⟩
  rw [esz]
  refine hQ x1 x2 q8 t2 hx1 hx2 zz8 (up _ _ S.TOz T2) (D1.frame _ _ _ j1 fun b hb o e => up b o (fun q => S.zf1 (q ▸ hb)) e) ?_ T8 fun c o cz cT c1 c2 e => up c o cz (kk c o cz cT c1 c2 e)
  exact D2.frame _ _ _ j2 fun b hb o e => up b o (fun q => S.zf2 (q ▸ hb)) e
theorem zs_end {Q : Fin → Shared → Prop} (hh : A.handled = none) (S : ZipSep2 z TI TO i1 i2 fp1 fp2) (D1 : Draws prog w A i1 fp1 n1 P1 St1) (D2 : Draws prog w A i2 fp2 n2 P2 St2)
    (hz : IsZipS s.heap z TI TO .none) (jTI : IsTupOf2 s.heap TI (.ref i1) (.ref i2)) (jTO : IsTupOf2 s.heap TO a1 a2) (st1 : St1 n1 s.heap) (st2 : St2 n2 s.heap)
    (hE : ∀ H' e, (∀ c o, c ≠ z → c ≠ TO → c ≠ i1 → c ≠ i2 → s.heap.get? c = some o → H'.get? c = some o) → (∃ o, H'.get? e = some o ∧ o.cls = .type "StopIteration") → E (.ref e) { s with heap := H' }) :
    wpAny (model prog w) A (Builtin.«zip.__next__» ⟨[.ref z], []⟩) Q E s := by
  obtain ⟨hp, gg, dd, tk0, os⟩ := s
  show wpAny _ _ (field (.ref z) 2 >>= _) _ _ _
  refine wpAny_bind (wpAny_field hz rfl (x := .bool true) rfl ?_)
  show wpAny _ _ (field (.ref z) 3 >>= _) _ _ _
  refine wpAny_bind (wpAny_field hz rfl (x := .ref TI) rfl ?_)
  refine wpAny_bind (wpAny_seqItems jTI rfl ?_)
  show wpAny _ _ (Builtin.SmallTypes.ownedTupleIsFree (.ref z) >>= _) _ _ _
  refine wpAny_bind ?_
  unfold Builtin.SmallTypes.ownedTupleIsFree
  refine wpAny_bind (wpAny_field hz rfl (x := .none) rfl (wpAny_pure ?_))
  simp only [if_true]
  refine wpAny_bind (wpAny_rule (wpAny_bind (wpAny_field hz rfl (x := .ref TO) rfl ?_)))
  refine wpAny_bind (wpAny_setField_rec hz (by simp) fun q0 zq0 sq0 => ?_)
  have zq0 : IsZipS q0 z TI TO .ellipsis := zq0
  have sq0 : Heap.SameBut z hp q0 := sq0
  refine wpAny_bind ?_
  simp only [List.zipIdx_cons, List.zipIdx_nil, List.forIn_cons, List.forIn_nil]
  refine wpAny_bind (wpAny_bind (wpAny_onRaise ?_))
  show wpAny _ _ (Builtin.SmallTypes.nextOrEnd (.ref i1)) _ _ ⟨q0, gg, dd, tk0, os⟩
  refine noe_end D1 (D1.over st1 sq0 S.zf1) fun p1 hp1 => ?_
  have hp1 : Heap.ExtBut i1 q0 p1 := hp1
  have zp1 : IsZipS p1 z TI TO .ellipsis := hp1 _ _ S.zi1 zq0
  refine wpAny_bind (wpAny_setField_rec (s := ⟨p1, gg, dd, tk0, os⟩) zp1 (by simp) fun q1 zq1 sq1 => ?_)
  have zq1 : IsZipS q1 z TI TO .none := zq1
  have sq1 : Heap.SameBut z p1 q1 := sq1
  refine wpAny_bind ?_
  show wpAny _ _ (forIn (List.zipIdx [Value.ref i2] 1) _ _ >>= _) _ _ ⟨q1, gg, dd, tk0, os⟩
  simp only [List.zipIdx_cons, List.zipIdx_nil, List.forIn_cons, List.forIn_nil]
  have ov : St2 n2 q1 := by
    have e1 := D2.over st2 sq0 S.zf2
    refine D2.frame _ _ _ e1 fun b hb o e => ?_
    exact sq1.extBut _ _ (fun q => S.zf2 (q ▸ hb)) (hp1 _ _ (fun q => S.sep1_2 (q ▸ hb)) e)
  refine wpAny_bind (wpAny_bind (wpAny_bind (noe_end (s := ⟨q1, gg, dd, tk0, os⟩) D2 ov fun p2 hp2 => ?_)))
  have hp2 : Heap.ExtBut i2 q1 p2 := hp2
  refine wpAny_pure (wpAny_pure (wpAny_bind (wpAny_rule ?_)))
  refine stop_it hh fun H' e k1 k2 => hE H' e (fun c o cz cT c1 c2 x => ?_) k2
  exact k1 _ _ (hp2 _ _ c2 (sq1.extBut _ _ cz (hp1 _ _ c1 (sq0.extBut _ _ cz x))))
end
end VS
namespace VS
open PySem PySem.Spec PyProof.Rows L2
variable [Tables]
section
variable {c : Sta} {Γ : List Bool} {z : Sit} {pos : Pos} {H : Hp} {O : Addr → Prop} {A : List Addr}
def pairsD : List VS.D → Option (List (DK × VS.D))
  | [] => some []
  | .tup [k, v] :: r => match flatK k, pairsD r with
    | some k, some r => some ((.inl k, v) :: r)
    | _, _ => none
  | _ :: _ => none
def fDict : VS.D → M VS.D
  | .lst ds => match pairsD ds with
    | some kvs => retD (.dic false (kvs.foldl (fun acc p => putD acc p.1 p.2) []))
    | none => badD
  | _ => badD
def keysI : List (DK × VS.D) → Option (List Int)
  | [] => some []
  | (.inl (.inl i), _) :: r => match keysI r with
    | some is => some (i :: is)
    | none => none
  | _ :: _ => none
def fSorted2 : VS.D → M VS.D
  | .dic false kvs => match keysI kvs with
    | some is => if is.length < 64 then retD (.lst ((sortI is).map .int)) else badD
    | none => badD
  | d => fSorted d
end
end VS
namespace VS
open PySem PySem.Spec PyProof.Rows L2
variable [Tables]
structure VFnD (g : Glo) (k : Nat) (x : Str) (ps : List Str) (fr pu : Bool) (f : List VS.D → M VS.D) (dd : List VS.D) : Prop where
  ex : ∃ a fd dvs ds, FnOk g.P g.w g.K g.mg g.base (L2.CX g.P g.w) k a fd ps (spV g ps.length fr pu f) ∧ g.mg x = some (.ref a) ∧ PySem.W.keepIn g.K (.ref a) = true ∧ Binds g.K fd ps ds ∧ Vals dvs ds ∧ ∀ H O A, RepL H O A dd dvs
theorem VFnD.of {g : Glo} {name : Str} {params : Arguments} {body : List Stmt} {scope : Scope} {f : Addr} {fd : FuncData} {N ps : List Str} {k : Nat} {fr pu : Bool} {fb : DS} {Γ' : List Bool} {dvs dv2 : List V} {dd : List VS.D} (F : FunD g.K name name params body scope dvs [] f fd) (S : FnScope N ps scope)
    (hm : g.mg name = some (.ref f)) (hb : ∃ ds, Vals dv2 ds ∧ Binds g.K fd ps ds) (hd : ∀ H O A, RepL H O A dd dv2) (h : VBl ⟨g, N, scope, k, true, fr, pu, pu, none⟩ (List.replicate N.length false) Γ' body fb) : VFnD g (k + 1) name ps fr pu (defD N.length fr fb) dd := by
  obtain ⟨ds, hv, hb⟩ := hb
  exact ⟨f, fd, dv2, ds, fn_ok F S h, hm, F.kp, hb, hv, hd⟩
section
variable {c : Sta} {z : Sit} {Γ : List Bool} {x : Str} {ps : List Str} {pu : Bool} {fn : List VS.D → M VS.D} {k : Nat} {e : Expr} {es : List Expr} {fs : DA} {p pos : Pos} {dd : List VS.D}
end
end VS
namespace VS
open PySem PySem.Spec PyProof.Rows L2
variable [Tables]
def insU (k : Int) : List Int → List Int
  | [] => [k]
  | x :: r => if k < x then k :: x :: r else if k = x then x :: r else x :: insU k r
def setI (ns : List Int) : List Int := ns.foldr insU []
theorem mem_insU {k y : Int} : ∀ {l : List Int}, y ∈ insU k l ↔ y = k ∨ y ∈ l
  | [] => by simp [insU]
  | x :: r => by
    unfold insU
    split
    · simp
    · split
      · rename_i e; subst e; simp
      · rw [List.mem_cons, mem_insU (l := r), List.mem_cons]
        constructor
        · rintro (h | h | h)
          · exact .inr (.inl h)
          · exact .inl h
          · exact .inr (.inr h)
        · rintro (h | h | h)
          · exact .inr (.inl h)
          · exact .inl h
          · exact .inr (.inr h)
theorem up_insU {k : Int} : ∀ {l : List Int}, l.Pairwise (· < ·) → (insU k l).Pairwise (· < ·)
  | [], _ => List.pairwise_singleton ..
  | x :: r, h => by
    have h' := List.pairwise_cons.mp h
    unfold insU
    split
    · rename_i q
      refine List.pairwise_cons.mpr ⟨fun y hy => ?_, h⟩
      rcases List.mem_cons.mp hy with e | hy
      · rw [e]; exact q
      · have := h'.1 y hy; omega
    · split
      · exact h
      · refine List.pairwise_cons.mpr ⟨fun y hy => ?_, up_insU h'.2⟩
        rcases mem_insU.mp hy with e | hy
        · omega
        · exact h'.1 y hy
theorem mem_setI {y : Int} : ∀ {ns : List Int}, y ∈ setI ns ↔ y ∈ ns
  | [] => Iff.rfl
  | n :: ns => by
    show y ∈ insU n (setI ns) ↔ _
    rw [mem_insU, mem_setI (ns := ns), List.mem_cons]
theorem up_setI : ∀ {ns : List Int}, (setI ns).Pairwise (· < ·)
  | [] => .nil
  | n :: ns => up_insU (up_setI (ns := ns))
def fSortSet : VS.D → M VS.D := onInts fun ns => if ns.length < 64 then retD (.lst ((setI ns).map D.int)) else badD
section
variable {c : Sta} {Γ : List Bool} {e : Expr} {fe : DE} {p p2 pos pos2 : Pos}
end
end VS
namespace VS
open PySem PySem.Spec PyProof.Rows L2
variable [Tables]
mutual
def nrf : VS.D → Bool
  | .non => true
  | .bl _ => true
  | .int _ => true
  | .str _ => true
  | .tup ds => nrfL ds
  | .lst ds => nrfL ds
  | .scr ds => nrfL ds
  | .tix ds => nrfL ds
  | _ => false
def nrfL : List VS.D → Bool
  | [] => true
  | d :: ds => nrf d && nrfL ds
end
section
variable {H : Hp} {O O' : Addr → Prop} {A A' : List Addr}
mutual
theorem Rep.nrf (oo : ∀ b, O' b → O b) : ∀ (d : VS.D) (v : V), nrf d = true → Rep H O A d v → Rep H O' A' d v
  | .non, v, _, h => h
  | .bl _, v, _, h => h
  | .int _, v, _, h => h
  | .str _, v, _, h => h
  | .tup ds, v, g, h => by
    obtain ⟨a, vs, e, r, l⟩ := h
    exact ⟨a, vs, e, r, RepL.nrf oo ds vs g l⟩
  | .lst ds, v, g, h => by
    obtain ⟨a, vs, e, r, n, l⟩ := h
    exact ⟨a, vs, e, r, fun q => n (oo a q), RepL.nrf oo ds vs g l⟩
  | .scr ds, v, g, h => by
    obtain ⟨a, o, vs, e, r, l⟩ := h
    exact ⟨a, o, vs, e, r, RepL.nrf oo ds vs g l⟩
  | .tix ds, v, g, h => by
    obtain ⟨a, o, vs, e, r, dn, l⟩ := h
    exact ⟨a, o, vs, e, r, dn, RepL.nrf oo ds vs g l⟩
  | .und, _, g, _ => by cases g
  | .dic _ _, _, g, _ => by cases g
  | .fdi _, _, g, _ => by cases g
  | .fdt _, _, g, _ => by cases g
  | .ref _, _, g, _ => by cases g
theorem RepL.nrf (oo : ∀ b, O' b → O b) : ∀ (ds : List VS.D) (vs : List V), nrfL ds = true → RepL H O A ds vs → RepL H O' A' ds vs
  | [], _, _, h => h
  | d :: ds, _, g, h => by
    obtain ⟨v, r, e, h1, h2⟩ := h
    obtain ⟨g1, g2⟩ := Bool.and_eq_true_iff.mp (show (VS.nrf d && nrfL ds) = true from g)
    exact ⟨v, r, e, Rep.nrf oo d v g1 h1, RepL.nrf oo ds r g2 h2⟩
end
end
section
variable {c : Sta} {Γ : List Bool} {t : Expr} {ft : DT} {z : Sit}
end
section
variable {c : Sta} {Γ : List Bool} {o e : Expr} {es : List Expr} {fo : DE} {fs : DA} {name : Str} {id : String} {apos cpos pos : Pos} {r : V → List V → Hp → VK → Prop} {g : List VS.D → List VS.D → Option (List VS.D)}
end
end VS
namespace L2
open PySem PySem.Spec PyProof.Rows
end L2
namespace VS
open PySem PySem.Spec PyProof.Rows L2
variable [Tables]
section
variable {c : Sta} {Γ : List Bool} {br : Bool} {e : Expr} {fe : DE} {p p2 pos pos2 kp kpos : Pos}
def fRange : VS.D → M VS.D
  | .int j => if 0 ≤ j ∧ j ≤ 16777216 then retD (.lst ((List.range j.toNat).map fun k => .int (k : Nat))) else badD
  | _ => badD
end
section
variable {c : Sta} {Γ : List Bool} {z : Sit} {D : Ends} {i j : Nat} {x y : Str} {px py p2 q2 pos tpos : Pos} {kk : Nat} {k l e : Expr} {fk fl fv : DE}
end
end VS
namespace L2
open PySem PySem.Spec PyProof.Rows
structure Mro (mro : List Value) : Prop where
  ne : mro.isEmpty = false
  ob : mro.contains (.type "object") = true
  pass : ∀ self, PySem.refuseLoop self "__setattr__" mro = pure ()
theorem mro_ve {l : List Value} (h : PySem.HandSPX.refsVE l = true) : Mro l := ⟨PySem.HandSPX.refsVE_ne h, (PySem.HandSPX.refsVE_contains "object" _ h).trans (by decide +kernel), fun self => PySem.HandSPX.refsVE_pass self l h⟩
section
open PySem.W PySem.Calls PySem.HandSPX PySem.OEX
open Builtin Builtin.ObjectAttr
variable {prog : Program} {w : World} {R : Result → Shared → Prop} {A : Around} {hp : Heap} {g : Array GenState} {d : Drawn} {t : Nat} {os : OsState}
end
structure OexG (K : PySem.W.Frag) (C : Addr) : Prop where
  cls : ∃ B newId initId bmB, ExcBaseFacts B newId initId bmB ∧ ∃ nm q N bs bm sn sub ab col dd k0 k1 k2 k3 k5, K.lookup C = some (excClassObj nm q C N bs bm true sn sub ab col dd k0 k1 k2 k3 k5 newId) ∧ (∀ X : String, bm.contains (.type X) = bmB.contains (.type X)) ∧ Mro (.ref C :: bm)
  sa : PySem.W.findIn K (.ref C) "__setattr__" = some (some (.builtin "object.__setattr__"))
  exC : PySem.W.subIn K (.ref C) (.type "BaseException") = some true
  tyC : PySem.W.typeIn K (.ref C) = some (.type "type")
  kC : PySem.W.keepIn K (.ref C) = true
theorem OexC.g {K : PySem.W.Frag} {C : Addr} (T : OexC K C) : OexG K C := by
  obtain ⟨nm, q, N, bs, bm, sn, sub, ab, col, dd, k0, k1, k2, k3, k5, hC, hbm⟩ := T.cls
  exact ⟨⟨_, _, _, _, PySem.F.excBase_ValueError, nm, q, N, bs, bm, sn, sub, ab, col, dd, k0, k1, k2, k3, k5, hC, fun Y => PySem.HandSPX.refsVE_contains Y bm hbm, mro_ve (show PySem.HandSPX.refsVE (.ref C :: bm) = true from hbm)⟩, T.sa, T.exC, T.tyC, T.kC⟩
section
variable {X : Cx} {pins : List (Addr × Obj)} {σ : St} {H : Hp} {s : Shared} {a C dx : Addr} {f : Str} {y : V} {u : Value} {fs : List (Str × V)} {Q : Unit → Shared → Prop} {E : Value → Shared → Prop} {A : Around}
end
end L2
namespace L2
open PySem PySem.Spec PyProof.Rows
end L2
namespace L2
open PySem PySem.Spec PyProof.Rows
end L2
namespace VS
open PySem PySem.Spec PyProof.Rows L2
variable [Tables]
abbrev FSrc := List (Str × (List Nat ⊕ Nat))
def srcV (ws : List V) : List Nat ⊕ Nat → V
  | .inl t => .str ⟨t.toArray⟩
  | .inr i => (ws[i]?).getD .non
def putF (ws : List V) : FSrc → List (Str × V) → List (Str × V)
  | [], fs => fs
  | p :: r, fs => putF ws r ((p.1, srcV ws p.2) :: fs)
def IniAt (H1 : Hp) (a C : Addr) (fs : List (Str × V)) (H : Hp) : Prop := (fs = [] ∧ H = H1) ∨ ∃ dx, H1 dx = none ∧ dx ≠ a ∧ H a = some (exo a C (some dx)) ∧ H dx = some (exd dx fs) ∧ ∀ b, b ≠ a → b ≠ dx → H b = H1 b
structure VIni (c : Sta) (C : Addr) (body : List Stmt) (src : FSrc) : Prop where
  run : ∀ X : Cx, On c X → ∀ (D : Ends) (σ : L2.St) (H H1 : Hp) (a : Addr) (fs : List (Str × V)) (ws : List V), σ[0]? = some (some (.ref a)) → (∀ i w, ws[i]? = some w → σ[i + 1]? = some (some w)) → (∀ p ∈ src, ∀ i, p.2 = .inr i → i < ws.length) → H1 a = some (exo a C none) → OexG c.g.K C →
    (∀ p ∈ src, PySem.W.findIn c.g.K (.ref C) p.1 = some none) → fs.length + src.length ≤ 900 → IniAt H1 a C fs H → (∀ H', IniAt H1 a C (putF ws src fs) H' → D.nx σ H') → wpSs X body D σ H
def spI (C : Addr) (n : Nat) (src : FSrc) : Sp := fun vs H Q E => ∃ a ws, vs = .ref a :: ws ∧ ws.length = n ∧ H a = some (exo a C none) ∧ ∀ H', IniAt H a C (putF ws src []) H' → Q .non H'
structure ExM (g : Glo) (k : Nat) (x : Str) (n : Nat) (src : FSrc) : Prop where
  ex : ∃ C fI fd ps, g.mg x = some (.ref C) ∧ OexG g.K C ∧ XfC g.K C ∧ PySem.W.findIn g.K (.ref C) "__init__" = some (some (.ref fI)) ∧ PySem.W.typeIn g.K (.ref fI) = some (.type "function") ∧ FnOk g.P g.w g.K g.mg g.base (L2.CX g.P g.w) k fI fd ps (spI C n src) ∧ Binds g.K fd ps [] ∧
    (∀ p ∈ src, PySem.W.findIn g.K (.ref C) p.1 = some none)
structure ExK (g : Glo) (x : Str) (q : Str) (st : Stmt) (flds : List Str) : Prop where
  ex : ∃ C fI fd, g.mg x = some (.ref C) ∧ OexG g.K C ∧ XfC g.K C ∧ PySem.W.findIn g.K (.ref C) "__init__" = some (some (.ref fI)) ∧ PySem.W.typeIn g.K (.ref fI) = some (.type "function") ∧ (∀ f ∈ flds, PySem.W.findIn g.K (.ref C) f = some none) ∧
    FunD g.K "__init__" q (defArgs st) (defBody st) (defScope st) [] [] fI fd
theorem ExM.of {g : Glo} {k : Nat} {x q : Str} {st : Stmt} {flds ps : List Str} {src : FSrc} (E : ExK g x q st flds) (S : FnScope ps ps (defScope st)) (hp : ps.length = n + 1) (hs : src.all (fun p => (match p.2 with | .inr i => decide (i < n) | .inl _ => true) && decide (p.1 ∈ flds)) = true) (hl : decide (src.length ≤ 900) = true) (hb : ∀ {fI : Addr} {fd : FuncData}, FunD g.K "__init__" q (defArgs st) (defBody st) (defScope st) [] [] fI fd → Binds g.K fd ps [])
    (hi : ∀ C, VIni ⟨g, ps, defScope st, k, true, false, true, true, none⟩ C (defBody st) src) : ExM g (k + 1) x n src := by
  obtain ⟨C, fI, fd, hm, T, xf, iC, tI, hno, F⟩ := E.ex
  have hsrc : ∀ p ∈ src, (∀ i, p.2 = .inr i → i < n) ∧ p.1 ∈ flds := fun p hp => by
    have q := List.all_eq_true.mp hs p hp
    obtain ⟨q1, q2⟩ := Bool.and_eq_true_iff.mp q
    refine ⟨fun i e => ?_, of_decide_eq_true q2⟩
    rw [e] at q1
    exact of_decide_eq_true q1
  refine ⟨C, fI, fd, ps, hm, T, xf, iC, tI, ?_, hb F, fun p hp => hno _ (hsrc p hp).2⟩
  refine F.ok S (fun vs H Q E h => ?_) fun cdv A outer s H vs Q E hr h => ?_
  · obtain ⟨a, ws, rfl, hw, _⟩ := h
    rw [List.length_cons, hw, hp]
  · obtain ⟨a, ws, rfl, hw, ea, h⟩ := h
    refine ⟨_, pss_wp, ?_⟩
    have st0 : ∀ (i : Nat) w, (V.ref a :: ws)[i]? = some w → (L2.start ps (V.ref a :: ws))[i]? = some (some w) := fun i w e => by
      unfold L2.start
      rw [List.getElem?_append_left (by rw [List.length_map]; exact (List.getElem?_eq_some_iff.mp e).1), List.getElem?_map, e]
      rfl
    refine (hi C).run (cxOf (L2.CX g.P g.w) g.P g.w g.K g.mg g.base ps q (defScope st) fI cdv A outer s H E) ⟨rfl, rfl, rfl, rfl, rfl, rfl, rfl, S.nd, hr, rfl, fun _ _ => rfl, passes_of rfl, fun _ => rfl, fun _ => rfl, fun _ q => (by cases q)⟩ _ _ H H a [] ws ?_ ?_ ?_ ea T (fun p hp => hno _ (hsrc p hp).2) ?_ (.inl ⟨rfl, rfl⟩) fun H' q => h H' q
    · exact st0 0 _ rfl
    · exact fun i w e => st0 (i + 1) w e
    · exact fun p hp i e => by rw [hw]; exact (hsrc p hp).1 i e
    · simpa using of_decide_eq_true hl
end VS
namespace VS
open PySem PySem.Spec PyProof.Rows L2
variable [Tables]
section
variable {c : Sta} {Γ Γ' : List Bool} {z : Sit} {D : Ends} {x : Str} {src : FSrc} {n k : Nat} {e : Expr} {es : List Expr} {fs : DA} {p pos pos2 : Pos}
end
structure Clause (g : Glo) (x : Str) (mt : List (Str × Bool)) : Prop where
  ex : ∃ cv, g.mg x = some cv ∧ ∀ y b, (y, b) ∈ mt → ∃ C, g.mg y = some (.ref C) ∧ PySem.W.exmOne g.K (.ref C) cv = some b
section
variable {c : Sta} {Γ Γ' : List Bool} {x nm y : Str} {np py epos pos pos' : Pos} {body : List Stmt} {e : Expr} {fb : DS} {f : Exc → Option VS.D} {i j : Nat} {mt : List (Str × Bool)}
end
end VS
namespace VS
open PySem PySem.Spec PyProof.Rows L2
variable [Tables]
abbrev EvX : Type := PySem.W.Frag → Bool
abbrev AlX : Type := AlV × List Bool
def obsX (fa : List He.Fa) (fn : List He.DefD) (tv : List TabV) (ev : List EvX) (K : PySem.W.Frag) : AlX := (obsV fa fn tv K, ev.map fun c => c K)
def valX (fn : List He.DefD) (tv : List TabV) (ev : List EvX) (w : World) : AlX := (valV2 fn tv w, ev.map fun _ => true)
def SaysX (fa : List He.Fa) (fn : List He.DefD) (tv : List TabV) (ev : List EvX) (w : World) (K : PySem.W.Frag) : Prop := obsX fa fn tv ev K = valX fn tv ev w
section
variable {fa : List He.Fa} {fn : List He.DefD} {tv : List TabV} {ev : List EvX} {w : World} {K : PySem.W.Frag}
theorem SaysX.v (c : SaysX fa fn tv ev w K) : SaysV fa fn tv w K := congrArg (fun z : AlX => z.1) c
theorem SaysX.e (c : SaysX fa fn tv ev w K) (i : Nat) {t : EvX} (h : ev[i]? = some t := by rfl) : t K = true := by
  have e : (ev.map fun c => c K) = ev.map fun _ => true := congrArg (fun z : AlX => z.2) c
  have e2 : (ev.map fun c => c K)[i]? = (ev.map fun _ => true)[i]? := by rw [e]
  rw [List.getElem?_map, List.getElem?_map, h] at e2
  exact Option.some.inj e2
end
end VS
namespace L2
open PySem PySem.Spec PyProof.Rows
end L2
namespace VS
open PySem PySem.Spec PyProof.Rows L2
variable [Tables]
section
variable {c : Sta} {Γ : List Bool} {k v : Expr} {pos : Pos} {fk fv : DE} {br : Bool}
def disp1D : List VS.D → M VS.D
  | [d, e] => match toK d with
    | some (.inr ks) => retD (.dic true [(.inr ks, e)])
    | _ => badD
  | _ => badD
end
end VS
namespace L2
open PySem PySem.Spec PyProof.Rows
end L2
namespace VS
open PySem PySem.Spec PyProof.Rows L2
variable [Tables]
section
variable {c : Sta} {Γ Γ' : List Bool} {e : Expr} {fe : DE} {br : Bool} {p1 p2 p3 pos : Pos} {j : Nat}
def fRevL : VS.D → M VS.D
  | .lst ds => retD (.lst ds.reverse)
  | _ => badD
def fListD : VS.D → M VS.D
  | .dic _ kvs => retD (.lst (kvs.map fun p => ofK p.1))
  | d => fList d
end
end VS
namespace L2
open PySem PySem.Spec PyProof.Rows LamX
def LamGrown (H : Hp) (P : Addr) (q : Str) (H1 : Hp) : Prop := H1 = H ∨ ∃ (ps more : Array Value) (c : Addr), H P = some (.tbl ps) ∧ H c = none ∧ H1 = upd (upd H P (.tbl (ps ++ more))) c (CodeO c q)
section
variable {X : Cx} {pins : List (Addr × Obj)} {σ : L2.St} {H : Hp} {s : Shared}
theorem LamGrown.keeps {H1 : Hp} {P : Addr} {q : Str} (g : LamGrown H P q H1) {b : Addr} {o : HO} (e : H b = some o) (n : ∀ ps, o ≠ .tbl ps) : H1 b = some o := by
  rcases g with rfl | ⟨ps, more, c, hP, hc, rfl⟩
  · exact e
  · rw [upd_ne (ne_of_none e hc), upd_ne (fun z => by subst z; rw [hP] at e; exact n ps (Option.some.inj e).symm)]
    exact e
end
end L2
namespace VS
open PySem PySem.Spec PyProof.Rows L2
section
variable {P : Program} {w : World} {K : PySem.W.Frag} {mg mb : Str → Option Value} {s : Shared} {a : Addr} {vs : List Value} {xs : List V} {cs : List (Addr × Addr)}
abbrev tabO : Obj := { cls := .none, data := .fields #[] }
end
end VS
namespace VS
open PySem PySem.Spec PyProof.Rows L2
def isT (o : Obj) : Bool := match o with
  | ⟨.none, none, .fields vs, os⟩ => vs.isEmpty && os.isEmpty
  | _ => false
theorem isT_eq {o : Obj} (h : isT o = true) : o = tabO := by
  unfold isT at h
  split at h
  · rename_i vs os
    obtain ⟨h1, h2⟩ := Bool.and_eq_true_iff.mp h
    have e1 : vs = #[] := Array.isEmpty_iff.mp h1
    have e2 : os = #[] := Array.isEmpty_iff.mp h2
    rw [e1, e2]
  · cases h
def cpOf (K : PySem.W.Frag) (f : Addr) : Option (Addr × Addr) := match K.lookup f with
  | some ⟨_, _, .func fd, _⟩ => (match fd.code with
    | .ref c => (match K.lookup c with
      | some ⟨_, _, .fields vs, _⟩ => (match (vs[11]? : Option Value) with
        | some (.ref P) => some (c, P)
        | _ => none)
      | _ => none)
    | _ => none)
  | _ => none
def lamB (K : PySem.W.Frag) (g : Addr → Option Obj) (x : Option (Addr × Addr)) : Bool := match x with
  | some (c, P) => PySem.W.codeHdIn K c P && (match g P with | some o => isT o | none => false)
  | none => false
abbrev LamF : Type := PySem.W.Frag → Addr
def cpsOf (K : PySem.W.Frag) (ls : List LamF) : List (Option (Addr × Addr)) := ls.map fun l => cpOf K (l K)
def okL (K : PySem.W.Frag) (g : Addr → Option Obj) (ls : List LamF) : Bool := (cpsOf K ls).all (lamB K g) && decide ((cpsOf K ls).filterMap fun x => x.map (·.2)).Nodup
def LamH (K : PySem.W.Frag) (h : Heap) (ls : List LamF) : Prop := okL K h.get? ls = true
theorem LamH.keeps {K : PySem.W.Frag} {h h' : Heap} {ls : List LamF} (c : LamH K h ls) (k : ∀ b o, h.get? b = some o → h'.get? b = some o) : LamH K h' ls := by
  unfold LamH okL at *
  obtain ⟨c1, c2⟩ := Bool.and_eq_true_iff.mp c
  refine Bool.and_eq_true_iff.mpr ⟨List.all_eq_true.mpr fun x hx => ?_, c2⟩
  have q := List.all_eq_true.mp c1 x hx
  unfold lamB at q ⊢
  match x, q with
  | some (c, P), q =>
    dsimp only at q ⊢
    obtain ⟨q1, q2⟩ := Bool.and_eq_true_iff.mp q
    refine Bool.and_eq_true_iff.mpr ⟨q1, ?_⟩
    cases e : h.get? P with
    | none => rw [e] at q2; cases q2
    | some o => rw [e] at q2; rw [k P o e]; exact q2
def NoT (K : PySem.W.Frag) : Prop := ∀ a o, K.lookup a = some o → isT o = false
section
variable {K : PySem.W.Frag} {h : Heap} {ls : List LamF}
theorem LamH.at (c : LamH K h ls) (i : Nat) {l : LamF} (hl : ls[i]? = some l := by rfl) : ∃ x, cpOf K (l K) = some x ∧ PySem.W.codeHdIn K x.1 x.2 = true ∧ h.get? x.2 = some tabO := by
  unfold LamH okL at c
  obtain ⟨c1, _⟩ := Bool.and_eq_true_iff.mp c
  have hm : cpOf K (l K) ∈ cpsOf K ls := List.mem_map.mpr ⟨l, List.mem_of_getElem? hl, rfl⟩
  have q := List.all_eq_true.mp c1 _ hm
  cases e : cpOf K (l K) with
  | none => rw [e] at q; cases q
  | some x =>
    rw [e] at q
    obtain ⟨cx, P⟩ := x
    obtain ⟨q1, q2⟩ := Bool.and_eq_true_iff.mp q
    refine ⟨_, rfl, q1, ?_⟩
    cases e2 : h.get? P with
    | none => rw [e2] at q2; cases q2
    | some o => rw [e2] at q2; rw [isT_eq q2]
theorem NoT.none (n : NoT K) (k : K.In h) {P : Addr} (e : h.get? P = some tabO) : K.lookup P = none := by
  cases q : K.lookup P with
  | none => rfl
  | some o =>
    have z := k P o q
    rw [e] at z; cases z
    have := n P _ q
    cases this
end
end VS
namespace VS
open PySem PySem.Spec PyProof.Rows L2
variable [Tables]
def sPop (j i : Nat) : DS := fun ρ S => match ρ[i]? with
  | some (.lst l) => match l[l.length - 1]? with
    | some d => .nx ((ρ.set i (.lst l.dropLast)).set j d) S
    | none => .bad
  | _ => .bad
section
variable {c : Sta} {Γ : List Bool} {i j : Nat} {x y : Str} {px pos' apos cpos pos : Pos}
end
end VS
namespace VS
open PySem PySem.Spec PyProof.Rows L2
variable [Tables]
section
variable {H H' : Hp} {p : Addr} {ob : Obj} {u : HO}
end
section
variable {H : Hp} {O O' : Addr → Prop} {A A' : List Addr} {p : Addr} {ob : Obj} {u u' : HO}
mutual
theorem Rep.unl (hp : H p = some (.frz ob u)) (hu : ∀ vs, u ≠ .lst vs ∧ u ≠ .tup vs) (oo : ∀ b, O' b → O b ∨ b = p) : ∀ (d : VS.D) (v : V), nrf d = true → Rep H O A d v → Rep (upd H p u') O' A' d v
  | .non, v, _, h => h
  | .bl _, v, _, h => h
  | .int _, v, _, h => h
  | .str _, v, _, h => h
  | .tup ds, v, g, h => by
    obtain ⟨a, vs, e, r, l⟩ := h
    exact ⟨a, vs, e, by rw [upd_ne (fun z => by rw [z, hp] at r; cases r)]; exact r, RepL.unl hp hu oo ds vs g l⟩
  | .lst ds, v, g, h => by
    obtain ⟨a, vs, e, r, n, l⟩ := h
    have ne : a ≠ p := fun z => by rw [z, hp] at r; cases r
    exact ⟨a, vs, e, by rw [upd_ne ne]; exact r, fun q => (oo a q).elim n ne, RepL.unl hp hu oo ds vs g l⟩
  | .scr ds, v, g, h => by
    obtain ⟨a, o, vs, e, r, l⟩ := h
    exact ⟨a, o, vs, e, by rw [upd_ne (fun z => by rw [z, hp] at r; cases r; exact (hu vs).1 rfl)]; exact r, RepL.unl hp hu oo ds vs g l⟩
  | .tix ds, v, g, h => by
    obtain ⟨a, o, vs, e, r, dn, l⟩ := h
    exact ⟨a, o, vs, e, by rw [upd_ne (fun z => by rw [z, hp] at r; cases r; exact (hu vs).2 rfl)]; exact r, dn, RepL.unl hp hu oo ds vs g l⟩
  | .und, _, g, _ => by cases g
  | .dic _ _, _, g, _ => by cases g
  | .fdi _, _, g, _ => by cases g
  | .fdt _, _, g, _ => by cases g
  | .ref _, _, g, _ => by cases g
theorem RepL.unl (hp : H p = some (.frz ob u)) (hu : ∀ vs, u ≠ .lst vs ∧ u ≠ .tup vs) (oo : ∀ b, O' b → O b ∨ b = p) : ∀ (ds : List VS.D) (vs : List V), nrfL ds = true → RepL H O A ds vs → RepL (upd H p u') O' A' ds vs
  | [], _, _, h => h
  | d :: ds, _, g, h => by
    obtain ⟨v, r, e, h1, h2⟩ := h
    obtain ⟨g1, g2⟩ := Bool.and_eq_true_iff.mp (show (VS.nrf d && nrfL ds) = true from g)
    exact ⟨v, r, e, Rep.unl hp hu oo d v g1 h1, RepL.unl hp hu oo ds r g2 h2⟩
end
end
section
variable {c : Sta} {Γ : List Bool} {e : Expr} {fe : DE} {z : Sit} {br : Bool}
end
section
variable {c : Sta} {Γ : List Bool} {e tg : Expr} {fe : DE} {br : Bool}
end
end VS
namespace VS
open PySem PySem.Spec PyProof.Rows L2
variable [Tables]
structure VMe (g : Glo) (k : Nat) (x m : Str) (ps : List Str) (fr pu : Bool) (f : List VS.D → M VS.D) : Prop where
  ex : ∃ a fd, FnOk g.P g.w g.K g.mg g.base (L2.CX g.P g.w) k a fd ps (spV g ps.length fr pu f) ∧ L2.Meth g.K (Tables.C x) m a ∧ Binds g.K fd ps []
structure VMk (g : Glo) (k : Nat) (x : Str) (ps : List Str) (f : List VS.D → M VS.D) : Prop where
  ex : ∃ a fd, FnOk g.P g.w g.K g.mg g.base (L2.CX g.P g.w) k a fd ps (spV g ps.length false false f) ∧ L2.Mk g.K (Tables.C x) a ∧ Binds g.K fd ps []
theorem VMe.of {g : Glo} {x name qual : Str} {params : Arguments} {body : List Stmt} {scope : Scope} {f : Addr} {fd : FuncData} {N ps : List Str} {k : Nat} {fr pu : Bool} {fb : DS} {Γ' : List Bool} (F : FunD g.K name qual params body scope [] [] f fd) (S : FnScope N ps scope)
    (hm : L2.Meth g.K (Tables.C x) name f) (hb : Binds g.K fd ps []) (h : VBl ⟨g, N, scope, k, true, fr, pu, pu, none⟩ (List.replicate N.length false) Γ' body fb) : VMe g (k + 1) x name ps fr pu (defD N.length fr fb) :=
  ⟨f, fd, fn_ok F S h, hm, hb⟩
theorem VMk.of {g : Glo} {x name qual : Str} {params : Arguments} {body : List Stmt} {scope : Scope} {f : Addr} {fd : FuncData} {N ps : List Str} {k : Nat} {fb : DS} {Γ' : List Bool} (F : FunD g.K name qual params body scope [] [] f fd) (S : FnScope N ps scope)
    (hm : L2.Mk g.K (Tables.C x) f) (hb : Binds g.K fd ps []) (h : VBl ⟨g, N, scope, k, true, false, false, false, none⟩ (List.replicate N.length false) Γ' body fb) : VMk g (k + 1) x ps (defD N.length false fb) :=
  ⟨f, fd, fn_ok F S h, hm, hb⟩
section
variable {c : Sta} {Γ Γ' Γ₁ : List Bool} {z : Sit} {D : Ends} {br : Bool} {x m : Str} {as : List Str} {o e : Expr} {es : List Expr} {fo fe : DE} {fs : DA} {pos p p2 p3 apos : Pos} {ps : List Str} {pu : Bool} {fn : List VS.D → M VS.D} {k : Nat}
end
end VS
namespace L2
open PySem PySem.Spec PyProof.Rows
inductive TyC (H : Hp) : V → Value → Prop where
  | str (x : Str) : TyC H (.str x) (.type "str")
  | lst {a : Addr} {xs : List V} (e : H a = some (.lst xs)) : TyC H (.ref a) (.type "list")
  | ins {a C dx : Addr} {fs : List (Str × V)} (e : H a = some (.ins C dx fs)) : TyC H (.ref a) (.ref C)
section
variable {X : Cx} {CX : CXT} {pins : List (Addr × Obj)} {σ : L2.St} {H : Hp} {s : Shared} {a C dx g : Addr} {f : Str} {n : Nat} {sp : Sp} {fd : FuncData} {ps : List Str}
end
end L2
namespace VS
open PySem PySem.Spec PyProof.Rows L2
variable [Tables]
def tyC (x : Str) (S : Store) (e : VS.D) : Bool := match e with
  | .lst _ => true
  | .str _ => true
  | .ref n => (match S[n]? with
    | some (.ins y _) => decide (y = x)
    | _ => false)
  | _ => false
section
variable {c : Sta} {Γ : List Bool} {z : Sit} {x : Str} {as ps : List Str} {fn : List VS.D → M VS.D} {k : Nat} {a b : Expr} {fa fb : DE} {pos : Pos} {br : Bool}
end
end VS
namespace L2
open PySem PySem.Spec PyProof.Rows PySem.Calls
section
variable {X : Cx} {CX : CXT} {pins : List (Addr × Obj)} {σ : L2.St} {H : Hp} {s : Shared} {a C dx g : Addr} {fs : List (Str × V)} {n : Nat} {sp : Sp} {fd : FuncData} {ps : List Str}
end
end L2
namespace VS
open PySem PySem.Spec PyProof.Rows L2
variable [Tables]
section
variable {c : Sta} {Γ : List Bool} {z : Sit} {x : Str} {as ps : List Str} {fn : List VS.D → M VS.D} {k : Nat} {a b e : Expr} {fa fb fe : DE} {pos p : Pos} {br : Bool}
inductive VJ (c : Sta) (Γ : List Bool) : List Expr → List DE → Prop where
  | nil : VJ c Γ [] []
  | cons {e : Expr} {es : List Expr} {f : DE} {fs : List DE} (h : VE c Γ false e f) (r : VJ c Γ es fs) : VJ c Γ (e :: es) (f :: fs)
end
end VS
namespace VS
open PySem PySem.Spec PyProof.Rows L2
variable [Tables]
mutual
def imm : VS.D → Bool
  | .non => true
  | .bl _ => true
  | .int _ => true
  | .str _ => true
  | .tup ds => immL ds
  | _ => false
def immL : List VS.D → Bool
  | [] => true
  | d :: ds => imm d && immL ds
end
section
variable {H : Hp} {O O' : Addr → Prop} {A A' : List Addr}
mutual
theorem Rep.imm : ∀ (d : VS.D) (v : V), imm d = true → Rep H O A d v → Rep H O' A' d v
  | .non, v, _, h => h
  | .bl _, v, _, h => h
  | .int _, v, _, h => h
  | .str _, v, _, h => h
  | .tup ds, v, g, h => by
    obtain ⟨a, vs, e, r, l⟩ := h
    exact ⟨a, vs, e, r, RepL.imm ds vs g l⟩
  | .lst _, _, g, _ => by cases g
  | .scr _, _, g, _ => by cases g
  | .tix _, _, g, _ => by cases g
  | .und, _, g, _ => by cases g
  | .dic _ _, _, g, _ => by cases g
  | .fdi _, _, g, _ => by cases g
  | .fdt _, _, g, _ => by cases g
  | .ref _, _, g, _ => by cases g
  | .ins _ _, _, g, _ => by cases g
theorem RepL.imm : ∀ (ds : List VS.D) (vs : List V), immL ds = true → RepL H O A ds vs → RepL H O' A' ds vs
  | [], _, _, h => h
  | d :: ds, _, g, h => by
    obtain ⟨v, r, e, h1, h2⟩ := h
    obtain ⟨g1, g2⟩ := Bool.and_eq_true_iff.mp (show (VS.imm d && immL ds) = true from g)
    exact ⟨v, r, e, Rep.imm d v g1 h1, RepL.imm ds r g2 h2⟩
end
end
section
variable {c : Sta} {Γ : List Bool} {t : Expr} {fe : DE} {z : Sit}
end
section
variable {c : Sta} {Γ : List Bool} {z : Sit} {D : Ends} {x n : Str} {e l : Expr} {fk fe : DE} {pos p1 py p2 p3 : Pos} {i j k : Nat}
end
end VS
namespace L2
open PySem PySem.Spec PyProof.Rows
abbrev Suite := Addr → Value → Option Addr → TS
inductive HdM (X : Cx) : ExceptHandler → Value × Option Nat × Suite → Prop
  | bare {x : Str} {cv : Value} {ts : Suite} {st : Stmt} {sts : List Stmt} {p1 p2 : Pos} (nx : Names X x cv)
      (su : ∀ (a : Addr) (o : Obj) (cls : Value) (d : Option Addr) (pn : List (Addr × Obj)), Zc cls d o → (∃ us, o.data = .fields us) → PSs (X.suite a ((a, o) :: pn)) (st :: sts) (ts a cls d)) :
      HdM X (.ExceptHandler (some (.Name x p1)) none (st :: sts) p2) (cv, none, ts)
  | named {x n : Str} {i : Nat} {cv : Value} {ts : Suite} {st : Stmt} {sts : List Stmt} {p1 p2 : Pos} (hi : X.N[i]? = some n) (hn : X.env.kindOf n = some .local) (nx : Names X x cv)
      (su : ∀ (a : Addr) (o : Obj) (cls : Value) (d : Option Addr) (pn : List (Addr × Obj)), Zc cls d o → (∃ us, o.data = .fields us) → PSs (X.suite a ((a, o) :: pn)) (st :: sts) (ts a cls d)) :
      HdM X (.ExceptHandler (some (.Name x p1)) (some n) (st :: sts) p2) (cv, some i, ts)
inductive HdsM (X : Cx) : List ExceptHandler → List (Value × Option Nat × Suite) → Prop
  | nil : HdsM X [] []
  | cons {h : ExceptHandler} {q : Value × Option Nat × Suite} {hs : List ExceptHandler} {l : List (Value × Option Nat × Suite)} (a : HdM X h q) (r : HdsM X hs l) : HdsM X (h :: hs) (q :: l)
theorem HdM.test {X : Cx} {h : ExceptHandler} {q : Value × Option Nat × Suite} (hh : HdM X h q) : ∃ x p n sts p2, h = .ExceptHandler (some (.Name x p)) n sts p2 ∧ Names X x q.1 := by
  cases hh with
  | bare nx su => exact ⟨_, _, _, _, _, rfl, nx⟩
  | named hi hn nx su => exact ⟨_, _, _, _, _, rfl, nx⟩
end L2
namespace VS
open PySem PySem.Spec PyProof.Rows L2
variable [Tables]
structure VZ (c : Sta) (io : Option Nat) (e : Expr) (f : Exc → Option VS.D) : Prop where
  run : ∀ X : Cx, On c X → ∀ (a : Addr) (oe : Obj) (cls : Value) (d : Option Addr) (pn : List (Addr × Obj)), Zc cls d oe → (∃ vs, oe.data = .fields vs) → ∀ (x : Exc) (H : Hp) (O : Addr → Prop) (A : List Addr) (σ : L2.St), ExcOk c.g H O A x cls d → (∀ i, io = some i → σ[i]? = some (some (.ref a))) → ∀ r, f x = some r →
    ∀ Q : VK, (∀ v H', Chg (fun _ => False) H H' → (∀ b, O b → H b ≠ none) → Rep H' O A r v → Q v H') → (∀ b, O b → H b ≠ none) → wpE (X.suite a ((a, oe) :: pn)) e σ H Q
section
variable {c : Sta} {io : Option Nat} {i : Nat} {n : Str} {e : Expr} {es : List Expr} {f : Exc → Option VS.D} {fs : Exc → Option (List VS.D)} {pos : Pos} {j : Nat}
theorem ExcOk.go {g : Glo} {H H' : Hp} {O : Addr → Prop} {A : List Addr} {x : Exc} {cls : Value} {oe : Option Addr} (cg : Chg (fun _ => False) H H') (tr : ∀ b, O b → H b ≠ none) (h : ExcOk g H O A x cls oe) : ExcOk g H' O A x cls oe := by
  obtain ⟨C, e1, e2, d, fs, e3, e4, hq⟩ := h
  refine ⟨C, e1, e2, d, fs, e3, cg.imm _ _ e4 fun z => z, fun f v hm => ?_⟩
  obtain ⟨u, h1, h2⟩ := hq f v hm
  exact ⟨u, h1, Rep.go ⟨cg, fun _ z => z.elim, fun b q => .inl q, fun _ _ e => e⟩ _ _ h2⟩
end
abbrev HQ := List (Str × Bool) × Option Nat × Nat × (Exc → Option VS.D)
inductive HdV (c : Sta) : ExceptHandler → HQ → Prop
  | bare {x y : Str} {mt : List (Str × Bool)} {j : Nat} {e : Expr} {f : Exc → Option VS.D} {np py epos p2 : Pos} (hx : glob c x = true) (hc : Clause c.g x mt) (hj : stored c j y = true) (he : VZ c none e f) (hs : ∀ env n, swapsWith e (some (.Name y py)) n env = pure false) :
      HdV c (.ExceptHandler (some (.Name x np)) none [.Assign [.Name y py] e epos] p2) (mt, none, j, f)
  | named {x y nm : Str} {mt : List (Str × Bool)} {i j : Nat} {e : Expr} {f : Exc → Option VS.D} {np py epos p2 : Pos} (hx : glob c x = true) (hc : Clause c.g x mt) (hi : stored c i nm = true) (hil : (c.sc.names.lookup nm == some .local) = true) (hij : decide (i ≠ j) = true) (hj : stored c j y = true) (he : VZ c (some i) e f) (hs : ∀ env n, swapsWith e (some (.Name y py)) n env = pure false) :
      HdV c (.ExceptHandler (some (.Name x np)) (some nm) [.Assign [.Name y py] e epos] p2) (mt, some i, j, f)
inductive HdsV (c : Sta) : List ExceptHandler → List HQ → Prop
  | nil : HdsV c [] []
  | cons {h : ExceptHandler} {q : HQ} {hs : List ExceptHandler} {l : List HQ} (a : HdV c h q) (r : HdsV c hs l) : HdsV c (h :: hs) (q :: l)
section
variable {z : Sit} {c : Sta} {Γ : List Bool}
end
end VS
namespace VS
open PySem PySem.Spec PyProof.Rows L2
variable [Tables]
structure VMkK (g : Glo) (k : Nat) (x : Str) (ps : List Str) (kw : Str) (f : List VS.D → M VS.D) : Prop where
  ex : ∃ a fd gg, FnOk g.P g.w g.K g.mg g.base (L2.CX g.P g.w) k a fd ps (spV g ps.length false false f) ∧ L2.Mk g.K (Tables.C x) a ∧ KBn g.K fd ps (ps.length - 1) [kw] gg (fun vs zs => vs ++ zs)
theorem VMkK.of {g : Glo} {x name qual kw : Str} {params : Arguments} {body : List Stmt} {scope : Scope} {f : Addr} {fd : FuncData} {N ps : List Str} {k : Nat} {fb : DS} {Γ' : List Bool} {dvs : List V} (F : FunD g.K name qual params body scope dvs [] f fd) (S : FnScope N ps scope)
    (hm : L2.Mk g.K (Tables.C x) f) (hd : dvs ≠ [])
    (hb : ∀ (T : Addr) (kV doc pm : Value) (an : Option Addr) (cdv ct : Value) (us its ws : List Value), us.length = ps.length - 1 → its.length = dvs.length → ws.length = 1 →
      ∃ k, bindArgs (PySem.W.fnOf name qual params body scope (.ref T) kV doc pm an cdv ct) ⟨us, [kw].zip ws⟩ = seqItems? (.ref T) >>= k ∧ k (some its.toArray) = pure (ps.zip (us ++ ws)))
    (h : VBl ⟨g, N, scope, k, true, false, false, false, none⟩ (List.replicate N.length false) Γ' body fb) : VMkK g (k + 1) x ps kw (defD N.length false fb) := by
  obtain ⟨its, hk⟩ := F.kbindsD (ps := ps) (ps.length - 1) [kw] (fun vs _ zs => vs ++ zs) hd (fun r1 _ r3 => r1.append r3) hb
  exact ⟨f, fd, _, fn_ok F S h, hm, hk⟩
section
variable {c : Sta} {Γ : List Bool} {z : Sit} {br : Bool} {x kw : Str} {as : List Str} {e e2 : Expr} {es : List Expr} {fs : DA} {fe : DE} {pos p : Pos} {kp : Pos} {ps : List Str} {fn : List VS.D → M VS.D} {k : Nat}
end
end VS
namespace L2
open PySem PySem.Spec PyProof.Rows
abbrev WX.at (W : WX) (σ : St) : WX := fun cls d _ H => W cls d σ H
end L2
namespace VS
open PySem PySem.Spec PyProof.Rows L2
variable [Tables]
def isLC : VS.D → M Unit
  | .ref n => fun S => match S[n]? with
    | some (.lst _) => .ok () S
    | _ => .bad
  | _ => fun _ => .bad
def popIC : VS.D → VS.D → M VS.D
  | .ref n, .int i => fun S => match S[n]? with
    | some (.lst l) => match seqIndex? i l.length with
      | some k => match l[k]? with
        | some d => if -(2 ^ 63) ≤ i ∧ i < 2 ^ 63 then .ok d (S.set n (.lst (l.eraseIdx k))) else .bad
        | none => .bad
      | none => .bad
    | _ => .bad
  | _, _ => fun _ => .bad
def ePopI (fo fi : DE) : DE := fun ρ => fo ρ >>= fun o => isLC o >>= fun _ => fi ρ >>= fun k => popIC o k
section
variable {c : Sta} {Γ : List Bool} {z : Sit} {br : Bool} {o e : Expr} {fo fi : DE} {apos cpos pos : Pos}
end
end VS
namespace ZL
open PySem PySem.Spec PyProof.Rows L2
section
variable {prog : Program} {w : World} {A : Around} {E : Value → Shared → Prop} {s : Shared} {z TI TO i1 i2 : Addr} {fp1 fp2 : List Addr} {n1 n2 i : Nat} {P1 P2 : Nat → Value → Prop} {St1 St2 : Nat → Heap → Prop}
end
section
variable {prog : Program} {w : World} {A : Around} {E : Value → Shared → Prop} {s : Shared} {z TI TO i1 i2 : Addr} {fp1 fp2 : List Addr} {n1 n2 i : Nat} {P1 P2 : Nat → Value → Prop} {St1 St2 : Nat → Heap → Prop} {L : Addr}
def ZSt (h : Heap) (z TI TO i1 i2 L : Addr) (St1 St2 : Nat → Heap → Prop) (i : Nat) : Prop :=
  IsTupOf2 h TI (.ref i1) (.ref i2) ∧ St1 i h ∧ St2 i h ∧ ((i = 0 ∧ IsZip h z TI TO .none ∧ ∃ a b, IsTupOf2 h TO a b) ∨ ∃ T f oT, IsZipHeld h z TI TO T f ∧ h.get? T = some oT ∧ T ≠ L ∧ T ≠ z ∧ T ≠ i1 ∧ T ≠ i2)
theorem ZSt.keep {h h' : Heap} (x : ZSt h z TI TO i1 i2 L St1 St2 i) (k : ∀ b o, b ≠ L → h.get? b = some o → h'.get? b = some o) (f1 : ∀ h h', St1 i h → (∀ b ∈ fp1, ∀ o, h.get? b = some o → h'.get? b = some o) → St1 i h')
    (f2 : ∀ h h', St2 i h → (∀ b ∈ fp2, ∀ o, h.get? b = some o → h'.get? b = some o) → St2 i h') (a : z ≠ L) (b : TI ≠ L) (c : TO ≠ L) (d1 : L ∉ fp1) (d2 : L ∉ fp2) : ZSt h' z TI TO i1 i2 L St1 St2 i := by
  obtain ⟨x1, x2, x3, x4⟩ := x
  refine ⟨k _ _ b x1, f1 _ _ x2 fun b hb o e => k b o (fun q => d1 (q ▸ hb)) e, f2 _ _ x3 fun b hb o e => k b o (fun q => d2 (q ▸ hb)) e, ?_⟩
  rcases x4 with ⟨e, y1, u, v, y2⟩ | ⟨T, f, oT, y1, y2, y3, y4⟩
  · exact .inl ⟨e, k _ _ a y1, u, v, k _ _ c y2⟩
  · exact .inr ⟨T, f, oT, k _ _ a y1, k _ _ y3 y2, y3, y4⟩
end
section
variable {prog : Program} {w : World} {A : Around} {s : Shared} {R : Result → Shared → Prop} {z TI TO i1 i2 L : Addr} {fp1 fp2 : List Addr} {n1 n2 n : Nat} {P1 P2 : Nat → Value → Prop} {St1 St2 : Nat → Heap → Prop}
end
section
variable {prog : Program} {w : World} {A : Around} {E : Value → Shared → Prop} {s : Shared} {z TI TO i1 i2 : Addr} {fp1 fp2 : List Addr} {n1 n2 n : Nat} {P1 P2 : Nat → Value → Prop} {St1 St2 : Nat → Heap → Prop}
end
end ZL
namespace VS
open PySem PySem.Spec PyProof.Rows L2
variable [Tables]
abbrev HA := List (Str × Bool) × Option Nat × (Exc → Option VS.D)
structure AppC (xs : Str) (px apos cpos : Pos) (e : Expr) : Prop where
  base : ∀ env, attributeBase (.Name xs px) "append" env (eval (.Name xs px) env) = eval (.Name xs px) env
  few : ∀ env, ((backTo cpos (starEach [e] env)).all (fun x => !x.1) && (backToKw cpos (keywordEach [] env)).all (fun x => x.1.isSome) && decide ([e].length + ([] : List Keyword).length + (if ([] : List Keyword).isEmpty then 0 else 1) < 30)) = true
  line : (apos.endLine == cpos.line) = true
  one : ∀ env, starEach [e] env = (false, eval e env) :: starEach [] env
  swap : ∀ env n, swapsWith (.Call (.Attribute (.Name xs px) "append" apos) [e] [] cpos) none n env = pure false
inductive HdA (c : Sta) (Γ : List Bool) (k : Nat) : ExceptHandler → HA → Prop
  | bare {x xs : Str} {mt : List (Str × Bool)} {e : Expr} {f : Exc → Option VS.D} {np px apos cpos pos p2 : Pos} (hx : glob c x = true) (hc : Clause c.g x mt) (hk : seen c k xs = true) (he : VZ c none e f) (ap : AppC xs px apos cpos e) :
      HdA c Γ k (.ExceptHandler (some (.Name x np)) none [.Expr (.Call (.Attribute (.Name xs px) "append" apos) [e] [] cpos) pos] p2) (mt, none, f)
  | named {x xs nm : Str} {mt : List (Str × Bool)} {i : Nat} {e : Expr} {f : Exc → Option VS.D} {np px apos cpos pos p2 : Pos} (hx : glob c x = true) (hc : Clause c.g x mt) (hi : stored c i nm = true) (hil : (c.sc.names.lookup nm == some .local) = true) (hik : decide (i ≠ k) = true) (hg : Γ[i]? = some false) (hk : seen c k xs = true) (he : VZ c (some i) e f) (ap : AppC xs px apos cpos e) :
      HdA c Γ k (.ExceptHandler (some (.Name x np)) (some nm) [.Expr (.Call (.Attribute (.Name xs px) "append" apos) [e] [] cpos) pos] p2) (mt, some i, f)
inductive HdsA (c : Sta) (Γ : List Bool) (k : Nat) : List ExceptHandler → List HA → Prop
  | nil : HdsA c Γ k [] []
  | cons {h : ExceptHandler} {q : HA} {hs : List ExceptHandler} {l : List HA} (a : HdA c Γ k h q) (r : HdsA c Γ k hs l) : HdsA c Γ k (h :: hs) (q :: l)
section
variable {z : Sit} {c : Sta} {Γ : List Bool} {k : Nat}
end
end VS
namespace L2
open PySem PySem.Spec PyProof.Rows
section
variable {prog : Program} {w : World} {A : Around} {R : Result → Shared → Prop} {I : Addr} {fp wr : List Addr} {n : Nat} {P : Nat → Value → Prop} {St : Nat → Heap → Prop}
end
section
variable {X : Cx} {i o : Expr} {pos apos mpos : Pos} {ty td : TE}
end
end L2
namespace VS
open PySem PySem.Spec PyProof.Rows L2
variable [Tables]
def intsV : List (DK × VS.D) → Option (List Int)
  | [] => some []
  | (_, .int i) :: ps => (intsV ps).map (i :: ·)
  | _ => none
def dNotVals : VS.D → VS.D → M VS.D
  | .int j, .dic false kvs => match intsV kvs with
    | some is => retD (.bl (!decide (j ∈ is)))
    | none => badD
  | _, _ => badD
section
variable {c : Sta} {Γ : List Bool} {br : Bool} {a o : Expr} {fa fo : DE} {pos apos mpos : Pos}
end
end VS
namespace L2
open PySem PySem.Spec PyProof.Rows
section
variable {X : Cx}
end
end L2
namespace VS
open PySem PySem.Spec PyProof.Rows L2
variable [Tables]
section
variable {c : Sta} {H : Hp} {O : Addr → Prop} {A : List Addr}
def pairsT : List VS.D → Option (List (DK × VS.D))
  | [] => some []
  | .tup [.tup ks, v] :: r => match flatKs ks, pairsT r with
    | some k, some r => some ((.inr k, v) :: r)
    | _, _ => none
  | _ :: _ => none
def fDictT : VS.D → M VS.D
  | .lst ds => match pairsT ds with
    | some kvs => retD (.dic true (kvs.foldl (fun acc p => putD acc p.1 p.2) []))
    | none => badD
  | _ => badD
end
end VS
namespace VS
open PySem PySem.Spec PyProof.Rows L2
variable [Tables]
def dKeysT : VS.D → M (List VS.D) := fun d S => match d with
  | .fdt kvs => .ok (kvs.map fun p => ofK p.1) S
  | _ => .bad
def iKeyT (f : DE) : DI := fun ρ => f ρ >>= dKeysT
section
variable {c : Sta} {Γ : List Bool} {e tg : Expr} {fe : DE} {br : Bool}
end
def sFrzT (i : Nat) (f : List VS.D → Store → Out) : List VS.D → Store → Out := fun ρ S => match ρ[i]? with
  | some (.dic true kvs) => f (ρ.set i (.fdt kvs)) S
  | _ => .bad
section
variable {c : Sta} {Γ Γ₁ : List Bool} {z : Sit} {st : Stmt} {f : List VS.D → Store → Out}
end
end VS
namespace L2
open PySem PySem.Spec PyProof.Rows
section
variable {prog : Program} {w : World} {A : Around} {R : Result → Shared → Prop} {I : Addr} {fp wr : List Addr} {n : Nat} {P : Nat → Value → Prop} {St : Nat → Heap → Prop}
end
section
variable {X : Cx}
end
end L2
namespace VS
open PySem PySem.Spec PyProof.Rows L2
variable [Tables]
section
variable {c : Sta} {Γ : List Bool} {e e2 : Expr} {fs : DA}
def lstsD : List VS.D → Option (List (List VS.D))
  | [] => some []
  | .lst ds :: r => (lstsD r).map (ds :: ·)
  | _ => none
def fSumL : VS.D → VS.D → M VS.D
  | .lst ds, .lst [] => match lstsD ds with
    | some xs => if ds ≠ [] ∧ xs.flatten.length ≤ sz then retD (.lst xs.flatten) else badD
    | none => badD
  | _, _ => badD
end
end VS
namespace L2
open PySem PySem.Spec PyProof.Rows
end L2
namespace VS
open PySem PySem.Spec PyProof.Rows L2
variable [Tables]
def dMulE : VS.D → VS.D → M VS.D
  | .tup ds, .int j => if j = 1 then retD (.tup ds) else if j = 0 then retD (.tup []) else badD
  | _, _ => badD
end VS
set_option maxHeartbeats 0
namespace HT
open PySem PySem.Spec PyProof.Rows L2
def top (i : Nat) : Stmt := PySem.Challenge.pw_tracklay_k15_families_judged.main.body.getD i (.Pass ⟨0, 0, 0, 0⟩)
def d_nets : He.DefD := ⟨("nets", none), "nets", "nets", defArgs (top 1), defBody (top 1), defScope (top 1), [], []⟩
def d_masks : He.DefD := ⟨("masks", none), "masks", "masks", defArgs (top 3), defBody (top 3), defScope (top 3), [], []⟩
def d_load_between : He.DefD := ⟨("load_between", none), "load_between", "load_between", defArgs (top 4), defBody (top 4), defScope (top 4), [], []⟩
def d_choices : He.DefD := ⟨("choices", none), "choices", "choices", defArgs (top 5), defBody (top 5), defScope (top 5), [], []⟩
def d_next_sets : He.DefD := ⟨("next_sets", none), "next_sets", "next_sets", defArgs (top 6), defBody (top 6), defScope (top 6), [], []⟩
def d_placing_back : He.DefD := ⟨("placing_back", none), "placing_back", "placing_back", defArgs (top 7), defBody (top 7), defScope (top 7), [], []⟩
def d_size_of : He.DefD := ⟨("size_of", none), "size_of", "size_of", defArgs (top 8), defBody (top 8), defScope (top 8), [], []⟩
def d_reached : He.DefD := ⟨("reached", none), "reached", "reached", defArgs (top 9), defBody (top 9), defScope (top 9), [], []⟩
def d_placed : He.DefD := ⟨("placed", none), "placed", "placed", defArgs (top 10), defBody (top 10), defScope (top 10), [], []⟩
def d_bars : He.DefD := ⟨("bars", none), "bars", "bars", defArgs (top 11), defBody (top 11), defScope (top 11), [], []⟩
def d__law_box : He.DefD := ⟨("_law_box", none), "_law_box", "_law_box", defArgs (top 13), defBody (top 13), defScope (top 13), [], []⟩
def d__law_take : He.DefD := ⟨("_law_take", none), "_law_take", "_law_take", defArgs (top 14), defBody (top 14), defScope (top 14), [], []⟩
def d__law_same : He.DefD := ⟨("_law_same", none), "_law_same", "_law_same", defArgs (top 15), defBody (top 15), defScope (top 15), [], []⟩
def d__law_names : He.DefD := ⟨("_law_names", none), "_law_names", "_law_names", defArgs (top 16), defBody (top 16), defScope (top 16), [], []⟩
def d__law_bits : He.DefD := ⟨("_law_bits", none), "_law_bits", "_law_bits", defArgs (top 17), defBody (top 17), defScope (top 17), [], []⟩
def d__law_some_net : He.DefD := ⟨("_law_some_net", none), "_law_some_net", "_law_some_net", defArgs (top 18), defBody (top 18), defScope (top 18), [], []⟩
def d__law_nets : He.DefD := ⟨("_law_nets", none), "_law_nets", "_law_nets", defArgs (top 19), defBody (top 19), defScope (top 19), [], []⟩
def d__law_pegs : He.DefD := ⟨("_law_pegs", none), "_law_pegs", "_law_pegs", defArgs (top 20), defBody (top 20), defScope (top 20), [], []⟩
def d__law_steps : He.DefD := ⟨("_law_steps", none), "_law_steps", "_law_steps", defArgs (top 21), defBody (top 21), defScope (top 21), [], []⟩
def d__law_size : He.DefD := ⟨("_law_size", none), "_law_size", "_law_size", defArgs (top 22), defBody (top 22), defScope (top 22), [], []⟩
def d__law_reached : He.DefD := ⟨("_law_reached", none), "_law_reached", "_law_reached", defArgs (top 23), defBody (top 23), defScope (top 23), [], []⟩
def d__law_bars : He.DefD := ⟨("_law_bars", none), "_law_bars", "_law_bars", defArgs (top 24), defBody (top 24), defScope (top 24), [], []⟩
def d_law : He.DefD := ⟨("law", none), "law", "law", defArgs (top 25), defBody (top 25), defScope (top 25), [], []⟩
def fn : List He.DefD := [d_nets, d_masks, d_load_between, d_choices, d_next_sets, d_placing_back, d_size_of, d_reached, d_placed, d_bars, d__law_box, d__law_take, d__law_same, d__law_names, d__law_bits, d__law_some_net, d__law_nets, d__law_pegs, d__law_steps, d__law_size, d__law_reached, d__law_bars, d_law]
def fa : List He.Fa := [.glo "nets", .glo "masks", .glo "load_between", .glo "choices", .glo "next_sets", .glo "placing_back", .glo "size_of", .glo "reached", .glo "placed", .glo "bars", .glo "_law_box", .glo "_law_take", .glo "_law_same", .glo "_law_names", .glo "_law_bits", .glo "_law_some_net", .glo "_law_nets", .glo "_law_pegs", .glo "_law_steps", .glo "_law_size", .glo "_law_reached", .glo "_law_bars", .glo "law", .free "len", .free "range", .free "list", .free "all", .free "any", .free "isinstance", .free "zip", .free "int", .free "str", .free "tuple", .free "ValueError", .free "bool", .free "sorted", .free "set", .free "dict", .free "enumerate", .free "min", .free "max", .free "sum", .free "repr"]
def tv : List VS.TabV := []
abbrev R : PySem.W.OpenRow := PySem.W.OpenLaw.row PySem.Challenge.rw_tracklay_k15_families_judged
abbrev hk : PySem.W.Hook := VS.hookV 4 fa fn tv
def ob (s : PySem.W.SharedT) : VS.AlV := VS.obsVG 4 fa fn tv (HandSHeadRun.getT s)
theorem ob_eq (s : PySem.W.SharedT) : ob s = hk.obs s.abs := VS.obsVG_eq (HandSHeadRun.getT_eq s)
def loose : List PySem.Str := "__name__" :: "nets" :: "masks" :: "load_between" :: "choices" :: "next_sets" :: "placing_back" :: "size_of" :: "reached" :: "placed" :: "bars" :: "_law_box" :: "_law_take" :: "_law_same" :: "_law_names" :: "_law_bits" :: "_law_some_net" :: "_law_nets" :: "_law_pegs" :: "_law_steps" :: "_law_size" :: "_law_reached" :: "_law_bars" :: []
theorem join3 {α β γ δ : Type} {r : Option α} {f : α → β} {g : α → γ} {h : α → δ} {a : β} {b : γ} {c : δ} (h1 : r.map (fun s => (f s, g s)) = some (a, b)) (h2 : r.map h = some c) : r.map (fun s => (f s, g s, h s)) = some (a, b, c) := by
  cases r with
  | none => cases h1
  | some s =>
    cases h1
    cases h2
    rfl
section
open PySem PySem.W PySem.Calls PyProof.Rows HandSHeadRun
theorem run_fa (w : World) (os : PySem.OsState) : (HandSHeadRun.endF (HandSHeadRun.stepQ (HandSHeadRun.denQ HandSHeadRun.tabQ) R.prog (w.withFollow "special-get-raises" false)) 12000 R.prog (w.withFollow "special-get-raises" false) os).map (fun s => (HandSHeadRun.looksF R.prog (boot_heap (w.withFollow "special-get-raises" false).params) s.abs, HandSHeadRun.seenQ (PySem.W.view R.prog [25]) loose (importedModules R.prog.main.body) (fun s => PySem.W.xlAt (PySem.W.view R.prog [25]) [] s && PySem.W.recOk R.toRowW.records s) s.abs)) = some (true, openGood (PySem.W.view R.prog [25]) loose) := by kernel_rfl
theorem run_fb (w : World) (os : PySem.OsState) : (HandSHeadRun.endF (HandSHeadRun.stepQ (HandSHeadRun.denQ HandSHeadRun.tabQ) R.prog (w.withFollow "special-get-raises" false)) 12000 R.prog (w.withFollow "special-get-raises" false) os).map (fun s => ob s) = some (hk.val (w.withFollow "special-get-raises" false)) := by kernel_rfl
theorem run_f (w : World) : HandSHeadRun.RunEq R (PySem.W.view R.prog [25]) hk ob 12000 loose (w.withFollow "special-get-raises" false) := fun os => join3 (run_fa w os) (run_fb w os)
theorem run_ta (w : World) (os : PySem.OsState) : (HandSHeadRun.endF (HandSHeadRun.stepQ (HandSHeadRun.denQ HandSHeadRun.tabQ) R.prog (w.withFollow "special-get-raises" true)) 12000 R.prog (w.withFollow "special-get-raises" true) os).map (fun s => (HandSHeadRun.looksF R.prog (boot_heap (w.withFollow "special-get-raises" true).params) s.abs, HandSHeadRun.seenQ (PySem.W.view R.prog [25]) loose (importedModules R.prog.main.body) (fun s => PySem.W.xlAt (PySem.W.view R.prog [25]) [] s && PySem.W.recOk R.toRowW.records s) s.abs)) = some (true, openGood (PySem.W.view R.prog [25]) loose) := by kernel_rfl
theorem run_tb (w : World) (os : PySem.OsState) : (HandSHeadRun.endF (HandSHeadRun.stepQ (HandSHeadRun.denQ HandSHeadRun.tabQ) R.prog (w.withFollow "special-get-raises" true)) 12000 R.prog (w.withFollow "special-get-raises" true) os).map (fun s => ob s) = some (hk.val (w.withFollow "special-get-raises" true)) := by kernel_rfl
theorem run_t (w : World) : HandSHeadRun.RunEq R (PySem.W.view R.prog [25]) hk ob 12000 loose (w.withFollow "special-get-raises" true) := fun os => join3 (run_ta w os) (run_tb w os)
end
theorem run (w : World) : HandSHeadRun.RunEq R (PySem.W.view R.prog [25]) hk ob 12000 loose w :=
  PySem.W.byRow2 "special-get-raises" (P := fun w => HandSHeadRun.RunEq R (PySem.W.view R.prog [25]) hk ob 12000 loose w) run_f run_t w
end HT
set_option maxHeartbeats 4000000
namespace VS
open PySem PySem.Spec PyProof.Rows L2
theorem k1_inj : ∀ {a b : Key}, k1 a = k1 b → a = b
  | .inl i, .inl j, h => by cases h; rfl
  | .inr x, .inr y, h => by
    have h1 : x.cps.toList = y.cps.toList := Sum.inr.inj h
    have h2 : x.cps = y.cps := Array.toList_inj.mp h1
    cases x; cases y; cases h2; rfl
  | .inl i, .inr y, h => by cases h
  | .inr i, .inl y, h => by cases h
variable [Tables]
theorem chg_upd {Mt : Addr → Prop} {H : Hp} {p : Addr} {o : HO} (hm : Mt p) (h : Mut (H p)) : Chg Mt H (upd H p o) :=
  ⟨fun b u e n _ => (by rw [upd_ne (fun z => n (by rw [z]; exact hm))]; exact e), fun b u e n _ => (by rw [upd_ne (fun z => n (by rw [← e, z]; exact h))]; exact e), fun b h => upd_dom h, fun t p hp => tab_upd (.inr h) (t p hp)⟩
section
variable {H H' : Hp} {O O' : Addr → Prop} {A A' : List Addr} {Mt : Addr → Prop}
end
end VS
namespace VS
open PySem PySem.Spec PyProof.Rows L2
variable [Tables]
section
variable (X : Cx)
end
section
variable {X : Cx}
theorem pe_wp {e : Expr} : PE X e (wpE X e) := ⟨fun pins s _ _ _ I h => h pins s I⟩
theorem pt_wp {e : Expr} : PT X e (wpT X e) := ⟨fun pins s _ _ _ I h => h pins s I⟩
theorem pw_wp {e : Expr} : PW X e (wpW X e) := ⟨fun wh pins s _ _ _ I h => h wh pins s I⟩
theorem pa_wp {e : List Expr} : PA X e (wpA X e) := ⟨fun pos pins s _ _ _ I h => h pos pins s I⟩
theorem ps_wp {st : Stmt} : PS X st (wpS X st) := ⟨fun pins s _ _ _ I h => h pins s I⟩
theorem pg_wp {tg : Expr} : PG X tg (wpG X tg) := ⟨fun pins s _ _ _ u _ I r h => h pins s u I r⟩
theorem pi_wp {tg iter : Expr} : PI X tg iter (wpI X tg iter) := ⟨fun pins s _ _ _ I h => h pins s I⟩
theorem wpE_of {e : Expr} {t : TE} (h : PE X e t) {σ H Q} (q : t σ H Q) : wpE X e σ H Q := fun pins s I => h.run pins s σ H Q I q
theorem wpT_of {e : Expr} {t : TT} (h : PT X e t) {σ H Q} (q : t σ H Q) : wpT X e σ H Q := fun pins s I => h.run pins s σ H Q I q
theorem wpW_of {e : Expr} {t : TT} (h : PW X e t) {σ H Q} (q : t σ H Q) : wpW X e σ H Q := fun wh pins s I => h.run wh pins s σ H Q I q
theorem wpA_of {e : List Expr} {t : TA} (h : PA X e t) {σ H Q} (q : t σ H Q) : wpA X e σ H Q := fun pos pins s I => h.run pos pins s σ H Q I q
theorem wpS_of {e : Stmt} {t : TS} (h : PS X e t) {σ H D} (q : t D σ H) : wpS X e D σ H := fun pins s I => h.run pins s σ H D I q
theorem wpSs_of {e : List Stmt} {t : TS} (h : PSs X e t) {σ H D} (q : t D σ H) : wpSs X e D σ H := fun pins s I => h.run pins s σ H D I q
theorem wpG_of {e : Expr} {t : TG} (h : PG X e t) {v σ H Q} (q : t v σ H Q) : wpG X e v σ H Q := fun pins s u I r => h.run pins s σ H v u Q I r q
theorem wpI_of {tg e : Expr} {t : TI} (h : PI X tg e t) {σ H R} (q : t σ H R) : wpI X tg e σ H R := fun pins s I => h.run pins s σ H R I q
theorem wpC_of {e : List Expr} {t : TT} (h : PTs X e t) {σ H Q} (q : t σ H Q) : wpC X e σ H Q := fun pins s I => h.run pins s σ H Q I q
end
end VS
namespace VS
open PySem PySem.Spec PyProof.Rows L2
variable [Tables]
section
variable {H H' : Hp} {O : Addr → Prop} {A : List Addr}
theorem RepL.repeat (n : Nat) {ds : List D} {vs : List V} (h : RepL H O A ds vs) : RepL H O A (List.replicate n ds).flatten (List.replicate n vs).flatten := by
  induction n with
  | zero => exact rfl
  | succ n ih =>
    rw [List.replicate_succ, List.replicate_succ, List.flatten_cons, List.flatten_cons]
    exact h.append ih
end
section
variable {z : Sit} {br : Bool} {v : V} {A : List Addr} {H : Hp}
end
section
variable {z : Sit} {c : Sta} {Γ : List Bool}
theorem Sit.Ok.nO (hz : z.Ok c Γ) {p : Addr} (hp : z.H p = none) : ¬ z.O p := fun q => hz.rel.trk p q hp
theorem Sit.Ok.nA (hz : z.Ok c Γ) {p : Addr} (hp : z.H p = none) : p ∉ z.A := fun q => hz.rel.trk p (.inr (.inl q)) hp
theorem Post.newT (hz : z.Ok c Γ) {br : Bool} {ds : List D} {vs : List V} {Q : VK} {p : Addr} (hp : z.H p = none) (l : RepL z.H z.O z.A ds vs) (h : Post z (okE z br) (.ok (.tup ds) z.S) Q) : Q (.ref p) (upd z.H p (.tup vs)) :=
  h.fresh hz hp ⟨p, vs, rfl, upd_same, l.new hp⟩
theorem Post.newL (hz : z.Ok c Γ) {ds : List D} {vs : List V} {Q : VK} {p : Addr} (hp : z.H p = none) (l : RepL z.H z.O z.A ds vs) (h : Post z (okF z) (.ok (.lst ds) z.S) Q) : Q (.ref p) (upd z.H p (.lst vs)) := by
  refine h _ _ z.A (step_new hp) ⟨p, rfl, hp, hz.nA hp, hz.rel.plus hp (chg_new hp) (by rw [upd_same]; exact fun x => by cases x), vs, upd_same, ?_⟩
  refine RepL.go (Mt := fun _ => False) (O := z.O) ⟨chg_new hp, fun _ x => x.elim, fun b q => ?_, fun _ _ e => e⟩ _ _ l
  rcases q with (q | q) | q
  · exact .inl (.inl q)
  · exact .inr (q ▸ hp)
  · exact .inl (.inr q)
end
def wpOp (X : Cx) (f : Value → Value → Sem Value) : R2 := fun x y H Q => ∀ pins s σ v u, Inv X pins σ H s → RelV x v → RelV y u → wpAny (model X.prog X.w) X.A (f v u) (EP X pins σ Q) X.xe s
theorem opR_wp {X : Cx} {f : Value → Value → Sem Value} : OpR X f (wpOp X f) := fun pins s σ H x y v u Q I r1 r2 h => h pins s σ v u I r1 r2
theorem wpOp_of {X : Cx} {f : Value → Value → Sem Value} {r : R2} (h : OpR X f r) {x y H Q} (q : r x y H Q) : wpOp X f x y H Q := fun pins s σ v u I r1 r2 => h pins s σ H x y v u Q I r1 r2 q
def wpUn (X : Cx) (f : Value → Sem Value) : V → Hp → VK → Prop := fun x H Q => ∀ pins s σ v, Inv X pins σ H s → RelV x v → wpAny (model X.prog X.w) X.A (f v) (EP X pins σ Q) X.xe s
theorem unR_wp {X : Cx} {f : Value → Sem Value} : UnR X f (wpUn X f) := fun pins s σ H x v Q I r1 h => h pins s σ v I r1
theorem wpUn_of {X : Cx} {f : Value → Sem Value} {r : V → Hp → VK → Prop} (h : UnR X f r) {x H Q} (q : r x H Q) : wpUn X f x H Q := fun pins s σ v I r1 => h pins s σ H x v Q I r1 q
def VOp (c : Sta) (f : Value → Value → Sem Value) (g : D → D → M D) : Prop := ∀ (Γ : List Bool) (z : Sit), z.Ok c Γ → ∀ d e v u, VOk z true d v z.A z.H → VOk z true e u z.A z.H → ∀ Q : VK, Post z (okE z false) (g d e z.S) Q → wpOp z.X f v u z.H Q
def VUn (c : Sta) (f : Value → Sem Value) (g : D → M D) : Prop := ∀ (Γ : List Bool) (z : Sit), z.Ok c Γ → ∀ d v, VOk z true d v z.A z.H → ∀ Q : VK, Post z (okE z false) (g d z.S) Q → wpUn z.X f v z.H Q
theorem sz_line : sz = sizeLine := sizeLine_eq.symm
section
variable {c : Sta}
theorem vi2 {f : Value → Value → Sem Value} {g : D → D → M D} {r : Cx → R2} (ho : ∀ X, OpR X f (r X)) (hg : ∀ {z : Sit} {d e Q}, Post z (okE z false) (g d e z.S) Q → ∃ i j k, d = .int i ∧ e = .int j ∧ g d e z.S = .ok (.int k) z.S ∧ (Q (.int k) z.H → r z.X (.int i) (.int j) z.H Q)) : VOp c f g := by
  intro Γ z hz d e v u h1 h2 Q h
  obtain ⟨i, j, k, e1, e2, e3, q⟩ := hg h
  subst e1 e2
  rw [h1.int, h2.int]
  rw [e3] at h
  exact wpOp_of (ho _) (q (h.val hz rfl))
theorem vop_sub : VOp c (binaryOp .Sub) dSub := vi2 (fun X => op_sub) fun {z d e Q} h => by
  unfold dSub at h; split at h
  · exact ⟨_, _, _, rfl, rfl, rfl, fun q => ⟨_, _, rfl, rfl, q⟩⟩
  · exact h.elim
theorem vop_fdiv : VOp c (binaryOp .FloorDiv) dFdiv := vi2 (fun X => op_fdiv) fun {z d e Q} h => by
  unfold dFdiv at h; split at h
  · split at h
    · rename_i hc; exact ⟨_, _, _, rfl, rfl, by dsimp only [dFdiv]; rw [if_pos hc]; rfl, fun q => ⟨_, _, rfl, rfl, hc, q⟩⟩
    · exact h.elim
  · exact h.elim
theorem vop_mod : VOp c (binaryOp .Mod) dMod := vi2 (fun X => op_mod) fun {z d e Q} h => by
  unfold dMod at h; split at h
  · split at h
    · rename_i hc; exact ⟨_, _, _, rfl, rfl, by dsimp only [dMod]; rw [if_pos hc]; rfl, fun q => ⟨_, _, rfl, rfl, hc, q⟩⟩
    · exact h.elim
  · exact h.elim
theorem vop_pow : VOp c (binaryOp .Pow) dPow := vi2 (fun X => op_pow) fun {z d e Q} h => by
  unfold dPow at h; split at h
  · split at h
    · rename_i hc; exact ⟨_, _, _, rfl, rfl, by dsimp only [dPow]; rw [if_pos hc]; rfl, fun q => ⟨_, _, rfl, rfl, hc, q⟩⟩
    · exact h.elim
  · exact h.elim
theorem vop_shl : VOp c (binaryOp .LShift) dShl := vi2 (fun X => op_shl) fun {z d e Q} h => by
  unfold dShl at h; split at h
  · split at h
    · rename_i hc; exact ⟨_, _, _, rfl, rfl, by dsimp only [dShl]; rw [if_pos hc]; rfl, fun q => ⟨_, _, rfl, rfl, hc, q⟩⟩
    · exact h.elim
  · exact h.elim
theorem vop_shr : VOp c (binaryOp .RShift) dShr := vi2 (fun X => op_shr) fun {z d e Q} h => by
  unfold dShr at h; split at h
  · split at h
    · rename_i hc; exact ⟨_, _, _, rfl, rfl, by dsimp only [dShr]; rw [if_pos hc]; rfl, fun q => ⟨_, _, rfl, rfl, hc, q⟩⟩
    · exact h.elim
  · exact h.elim
theorem vop_ishr : VOp c (inplaceOp .RShift) dShr := vi2 (fun X => iop_shr) fun {z d e Q} h => by
  unfold dShr at h; split at h
  · split at h
    · rename_i hc; exact ⟨_, _, _, rfl, rfl, by dsimp only [dShr]; rw [if_pos hc]; rfl, fun q => ⟨_, _, rfl, rfl, hc, q⟩⟩
    · exact h.elim
  · exact h.elim
theorem vop_and : VOp c (binaryOp .BitAnd) dAnd := vi2 (fun X => op_and) fun {z d e Q} h => by
  unfold dAnd at h; split at h
  · exact ⟨_, _, _, rfl, rfl, rfl, fun q => ⟨_, _, rfl, rfl, q⟩⟩
  · exact h.elim
theorem vop_or : VOp c (binaryOp .BitOr) dOr := vi2 (fun X => op_or) fun {z d e Q} h => by
  unfold dOr at h; split at h
  · exact ⟨_, _, _, rfl, rfl, rfl, fun q => ⟨_, _, rfl, rfl, q⟩⟩
  · exact h.elim
theorem vop_add : VOp c (binaryOp .Add) dAdd := by
  intro Γ z hz d e v u h1 h2 Q h
  unfold dAdd at h
  split at h
  · rw [h1.int, h2.int]; exact wpOp_of op_add ⟨_, _, rfl, rfl, h.val hz rfl⟩
  · rename_i b
    rw [h1.int, h2.bl]; refine wpOp_of op_add_ib ⟨_, b, rfl, rfl, ?_⟩
    cases b <;> exact h.val hz rfl
  · rename_i a b
    unfold strD at h; split at h
    · rename_i hl
      rw [List.length_append] at hl
      obtain ⟨e1, s1⟩ := h1.str
      obtain ⟨e2, s2⟩ := h2.str
      rw [e1, e2]
      refine wpOp_of op_add_str ⟨_, _, rfl, rfl, ?_, h.val hz ⟨?_, s1.append s2 hl⟩⟩
      · rw [← sz_line]; simpa [Str.length] using hl
      · show V.str ⟨a.toArray ++ b.toArray⟩ = _
        simp
    · exact h.elim
  · rename_i a b
    unfold tupD at h; split at h
    · rename_i hl
      rw [List.length_append, sz_line] at hl
      obtain ⟨p, vs, e1, r1, l1⟩ := h1.tup
      obtain ⟨q, us, e2, r2, l2⟩ := h2.tup
      have n1 := l1.len
      have n2 := l2.len
      rw [e1, e2]
      refine wpOp_of op_catA ⟨_, _, _, _, rfl, rfl, .of r1, .of r2, by omega, fun e => ?_, fun ne e => ?_, fun ne ne2 t nt => ?_⟩
      · rw [e] at n1
        have e3 : a = [] := List.eq_nil_of_length_eq_zero n1.symm
        subst e3
        exact h.val hz ⟨q, us, rfl, r2, l2⟩
      · rw [e] at n2
        have e3 : b = [] := List.eq_nil_of_length_eq_zero n2.symm
        subst e3
        rw [List.append_nil] at h
        exact h.val hz ⟨p, vs, rfl, r1, l1⟩
      · exact h.newT hz nt (l1.append l2)
    · exact h.elim
  · exact h.elim
def VOpF (c : Sta) (f : Value → Value → Sem Value) (g : D → D → M D) : Prop := ∀ (Γ : List Bool) (z : Sit), z.Ok c Γ → ∀ d e v u, VOk z true d v z.A z.H → VOk z true e u z.A z.H → ∀ Q : VK, Post z (okF z) (g d e z.S) Q → wpOp z.X f v u z.H Q
theorem vopF_add : VOpF c (binaryOp .Add) fAdd := by
  intro Γ z hz d e v u h1 h2 Q h
  unfold fAdd at h
  split at h
  · rename_i a b
    unfold lstD at h; split at h
    · rename_i hl
      rw [List.length_append, sz_line] at hl
      obtain ⟨p, vs, e1, r1, l1⟩ := h1.lst
      obtain ⟨q, us, e2, r2, l2⟩ := h2.lst
      rw [e1, e2]
      exact wpOp_of op_cat ⟨_, _, _, _, rfl, rfl, r1, r2, by rw [l1.len, l2.len]; exact hl, fun t nt => h.newL hz nt (l1.append l2)⟩
    · exact h.elim
  · exact h.elim
theorem vopF_mul : VOpF c (binaryOp .Mult) fMul := by
  intro Γ z hz d e v u h1 h2 Q h
  unfold fMul at h
  split at h
  · rename_i a j
    split at h
    · rename_i hl
      rw [sz_line] at hl
      obtain ⟨p, vs, e1, r1, l1⟩ := h1.lst
      rw [e1, h2.int]
      exact wpOp_of op_rep ⟨_, _, _, rfl, rfl, r1, hl.1, hl.2.1, by rw [l1.len]; exact hl.2.2, fun t nt => h.newL hz nt (l1.repeat _)⟩
    · exact h.elim
  · exact h.elim
theorem vop_mul : VOp c (binaryOp .Mult) dMul := by
  intro Γ z hz d e v u h1 h2 Q h
  unfold dMul at h
  split at h
  · split at h
    · rename_i i j hc
      rw [h1.int, h2.int]
      refine wpOp_of op_mul ⟨_, _, rfl, rfl, ?_, h.val hz rfl⟩
      simp only [lim64, Bool.or_eq_true, Bool.and_eq_true, decide_eq_true_eq] at hc
      exact hc
    · exact h.elim
  · exact h.elim
end
end VS
namespace VS
open PySem PySem.Spec PyProof.Rows L2
variable [Tables]
section
variable {K : PySem.W.Frag} {H : Hp} {O : Addr → Prop} {A : List Addr}
end
theorem VOk.dp {z : Sit} {K : PySem.W.Frag} {br : Bool} {d : D} {v : V} {A : List Addr} {H : Hp} (g : d.plain = true) (h : VOk z br d v A H) : Dp K H v (toPy d) ∧ (toPy d).canLay0 = true := by
  rcases h with h | ⟨_, a, e, _, o⟩
  · exact dp_of d v g h
  · cases d with
    | lst ds =>
      obtain ⟨vs, r, l⟩ := o
      rw [e]
      obtain ⟨q1, q2⟩ := dpL_of (K := K) ds vs g l
      exact ⟨.lst (.of r) q1, q2⟩
    | dic _ _ => cases g
    | ins _ _ => cases g
    | _ => exact o.elim
theorem shaped_of {z : Sit} {br : Bool} {d : D} {v : V} {A : List Addr} {H : Hp} (g : okq d = true) (h : VOk z br d v A H) : SeqAt.shaped (toPy d) = true := by
  obtain ⟨g1, g2⟩ := Bool.and_eq_true_iff.mp g
  unfold SeqAt.shaped
  rw [(h.dp (K := []) g1).2, dep_eq]
  exact g2
section
variable {c : Sta}
theorem vop_eq : VOp c (compareOp .Eq) dEq := by
  intro Γ z hz d e v u h1 h2 Q h
  unfold dEq at h; split at h
  · rename_i hc
    obtain ⟨g1, g2⟩ := Bool.and_eq_true_iff.mp hc
    have p1 := (Bool.and_eq_true_iff.mp g1).1
    have p2 := (Bool.and_eq_true_iff.mp g2).1
    refine wpOp_of (op_eqD hz.on.room.units) ⟨_, _, (h1.dp p1).1, (h2.dp p2).1, shaped_of g1 h1, shaped_of g2 h2, ?_⟩
    rw [eqv_eq d e p1 p2]
    exact h.val hz rfl
  · exact h.elim
theorem vop_ne : VOp c (compareOp .NotEq) dNe := by
  intro Γ z hz d e v u h1 h2 Q h
  unfold dNe at h; split at h
  · rename_i hc
    obtain ⟨g1, g2⟩ := Bool.and_eq_true_iff.mp hc
    have p1 := (Bool.and_eq_true_iff.mp g1).1
    have p2 := (Bool.and_eq_true_iff.mp g2).1
    refine wpOp_of (op_neD hz.on.room.units) ⟨_, _, (h1.dp p1).1, (h2.dp p2).1, shaped_of g1 h1, shaped_of g2 h2, ?_⟩
    rw [eqv_eq d e p1 p2]
    exact h.val hz rfl
  · exact h.elim
theorem vcmp {f : Value → Value → Sem Value} {p : Int → Int → Bool} (ho : ∀ X : Cx, OpR X f (rI0 fun i j => .bl (p i j))) : VOp c f (dCmp p) := by
  intro Γ z hz d e v u h1 h2 Q h
  unfold dCmp at h; split at h
  · rw [h1.int, h2.int]
    exact wpOp_of (ho _) ⟨_, _, rfl, rfl, h.val hz rfl⟩
  · exact h.elim
theorem vop_lt : VOp c (compareOp .Lt) dLt := vcmp fun _ => op_lt
theorem vop_le : VOp c (compareOp .LtE) dLe := vcmp fun _ => op_le
theorem vop_gt : VOp c (compareOp .Gt) dGt := vcmp fun _ => op_gt
theorem vop_ge : VOp c (compareOp .GtE) dGe := vcmp fun _ => op_ge
theorem isNon_ok {z : Sit} {br : Bool} {d : D} {v : V} {A : List Addr} {H : Hp} (h : VOk z br d v A H) : decide (v = .non) = isNon d := by
  cases d with
  | und => exact h.und.elim
  | non => rw [h.non]; rfl
  | bl b => rw [h.bl]; rfl
  | int b => rw [h.int]; rfl
  | str s => rw [h.str.1]; rfl
  | tup ds => obtain ⟨a, vs, e, _⟩ := h.tup; rw [e]; rfl
  | lst ds => obtain ⟨a, vs, e, _⟩ := h.lst; rw [e]; rfl
  | scr ds => obtain ⟨a, vs, e, _⟩ := h.scr; rw [e]; rfl
  | tix ds => obtain ⟨a, o, vs, e, _⟩ := h.tix; rw [e]; rfl
  | dic t ds => obtain ⟨a, e, _⟩ := h.dic; rw [e]; rfl
  | fdi ds => obtain ⟨a, o, l, e, _⟩ := h.fdi; rw [e]; rfl
  | fdt ds => obtain ⟨a, o, l, e, _⟩ := h.fdt; rw [e]; rfl
  | ref n => obtain ⟨a, _, e⟩ := h.ref; rw [e]; rfl
  | fnc x => rcases h with h | ⟨_, _, _, _, h⟩
             · have h : v = V.ref (Tables.C x) := h
               rw [h]; rfl
             · exact h.elim
  | ins x fs => obtain ⟨a, e, _⟩ := h.ins; rw [e]; rfl
theorem vop_is : VOp c (compareOp .Is) dIsN := by
  intro Γ z hz d e v u h1 h2 Q h
  unfold dIsN at h; split at h
  · exact h.elim
  · refine wpOp_of op_isN ⟨h2.non, ?_⟩
    rw [isNon_ok h1]
    exact h.val hz rfl
  · exact h.elim
theorem vop_isnot : VOp c (compareOp .IsNot) dNotN := by
  intro Γ z hz d e v u h1 h2 Q h
  unfold dNotN at h; split at h
  · exact h.elim
  · refine wpOp_of op_notN ⟨h2.non, ?_⟩
    rw [isNon_ok h1]
    exact h.val hz rfl
  · exact h.elim
section
variable {H : Hp} {O : Addr → Prop} {A : List Addr}
theorem flatKs_ok : ∀ {ds : List D} {ks : List K1} {vs : List V}, flatKs ds = some ks → RepL H O A ds vs → ∃ ys : List Key, ys.map k1 = ks ∧ vs = ys.map kV ∧ ∀ y ∈ ys, keyOk y
  | [], ks, vs, e, h => by
    cases e
    rw [show vs = [] from h]
    exact ⟨[], rfl, rfl, fun _ z => by cases z⟩
  | d :: ds, ks, vs, e, h => by
    obtain ⟨v, r, e1, h1, h2⟩ := h
    unfold flatKs at e
    split at e
    · rename_i k ks' ek eks
      cases e
      obtain ⟨y, a1, a2, a3⟩ := flatK_ok ek h1
      obtain ⟨ys, b1, b2, b3⟩ := flatKs_ok eks h2
      refine ⟨y :: ys, by rw [List.map_cons, a1, b1], by rw [e1, a2, b2, List.map_cons], fun x hx => ?_⟩
      rcases List.mem_cons.mp hx with q | q
      · rw [q]; exact a3
      · exact b3 x q
    · cases e
theorem lookK_K {k : Key} : ∀ {kvs : List (DK × D)} {l : List (Key × V)}, RepK H O A kvs l → match lookK (.inl (k1 k)) kvs with | some d => ∃ v, valV l k = some v ∧ Rep H O A d v | none => valV l k = none
  | [], l, h => by rw [show l = [] from h]; rfl
  | (k', d) :: ps, l, h => by
    obtain ⟨y, v, r, e, ⟨_, e2, h1⟩, h2⟩ := h
    subst e e2
    have ih := lookK_K (k := k) h2
    unfold lookK
    by_cases q : y = k
    · subst q
      rw [if_pos rfl]
      exact ⟨v, valV_pos rfl, h1⟩
    · rw [if_neg (fun z => q (k1_inj (Sum.inl.inj z))), valV_neg q]
      exact ih
theorem lookK_T {k : List Key} : ∀ {kvs : List (DK × D)} {l : List (List Key × V)}, RepT H O A kvs l → match lookK (.inr (k.map k1)) kvs with | some d => ∃ v, valV l k = some v ∧ Rep H O A d v | none => valV l k = none
  | [], l, h => by rw [show l = [] from h]; rfl
  | (k', d) :: ps, l, h => by
    obtain ⟨y, v, r, e, ⟨_, e2, h1⟩, h2⟩ := h
    subst e e2
    have ih := lookK_T (k := k) h2
    unfold lookK
    by_cases q : y = k
    · subst q
      rw [if_pos rfl]
      exact ⟨v, valV_pos rfl, h1⟩
    · have inj : ∀ {a b : List Key}, a.map k1 = b.map k1 → a = b := fun {a b} z => by
        induction a generalizing b with
        | nil => cases b with
          | nil => rfl
          | cons _ _ => cases z
        | cons x xs ih => cases b with
          | nil => cases z
          | cons w ws =>
            rw [List.map_cons, List.map_cons] at z
            injection z with z1 z2
            rw [k1_inj z1, ih z2]
      rw [if_neg (fun z => q (inj (Sum.inr.inj z))), valV_neg q]
      exact ih
end
end
end VS
namespace VS
open PySem PySem.Spec PyProof.Rows L2
variable [Tables]
section
variable {H : Hp} {O : Addr → Prop} {A : List Addr}
theorem flat_v {d : D} {v : V} (f : d.flat = true) (h : Rep H O A d v) : flatV v = true := by
  cases d with
  | non => rw [show v = .non from h]; rfl
  | bl b => rw [show v = .bl b from h]; rfl
  | int b => rw [show v = .int b from h]; rfl
  | str s => rw [h.1]; rfl
  | _ => cases f
theorem eqV_eq {d e : D} {v u : V} (f : d.flat = true) (g : e.flat = true) (h : Rep H O A d v) (k : Rep H O A e u) : eqV v u = eqb d e := by
  cases d with
  | non => rw [show v = .non from h]; cases e with
    | non => rw [show u = .non from k]; rfl
    | bl b => rw [show u = .bl b from k]; rfl
    | int b => rw [show u = .int b from k]; rfl
    | str s => rw [k.1]; rfl
    | _ => cases g
  | bl b => rw [show v = .bl b from h]; cases e with
    | non => rw [show u = .non from k]; rfl
    | bl b => rw [show u = .bl b from k]; rfl
    | int b => rw [show u = .int b from k]; rfl
    | str s => rw [k.1]; rfl
    | _ => cases g
  | int b => rw [show v = .int b from h]; cases e with
    | non => rw [show u = .non from k]; rfl
    | bl b => rw [show u = .bl b from k]; rfl
    | int b => rw [show u = .int b from k]; rfl
    | str s => rw [k.1]; rfl
    | _ => cases g
  | str s => rw [h.1]; cases e with
    | non => rw [show u = .non from k]; rfl
    | bl b => rw [show u = .bl b from k]; rfl
    | int b => rw [show u = .int b from k]; rfl
    | str s => rw [k.1]; exact str_beq _ _
    | _ => cases g
  | _ => cases f
theorem flat_all : ∀ {ds : List D} {vs : List V}, ds.all D.flat = true → RepL H O A ds vs → vs.all flatV = true
  | [], vs, _, h => by rw [show vs = [] from h]; rfl
  | d :: ds, vs, f, h => by
    obtain ⟨v, r, e, h1, h2⟩ := h
    rw [List.all_cons, Bool.and_eq_true] at f
    rw [e, List.all_cons, flat_v f.1 h1, flat_all f.2 h2]; rfl
theorem inV_eq {d : D} {v : V} (fd : d.flat = true) (hd : Rep H O A d v) : ∀ {ds : List D} {vs : List V}, ds.all D.flat = true → RepL H O A ds vs → inV v vs = ds.any fun y => eqb y d
  | [], vs, _, h => by rw [show vs = [] from h]; rfl
  | e :: ds, vs, f, h => by
    obtain ⟨u, r, e1, h1, h2⟩ := h
    rw [List.all_cons, Bool.and_eq_true] at f
    have ih := inV_eq fd hd f.2 h2
    rw [e1]
    show (eqV u v || inV v r) = (eqb e d || ds.any fun y => eqb y d)
    rw [ih, eqV_eq f.1 fd h1 hd]
end
theorem any_eqv (d : D) (pd : d.plain = true) : ∀ ds : List D, plainL ds = true → ((toPyL ds).any fun z => PyData.eqv z (toPy d)) = ds.any fun y => eqb y d
  | [], _ => rfl
  | e :: ds, h => by
    obtain ⟨h1, h2⟩ := Bool.and_eq_true_iff.mp (show (e.plain && plainL ds) = true from h)
    show (PyData.eqv (toPy e) (toPy d) || (toPyL ds).any fun z => PyData.eqv z (toPy d)) = (eqb e d || ds.any fun y => eqb y d)
    rw [any_eqv d pd ds h2, eqv_eq e d h1 pd]
section
variable {c : Sta}
theorem toK_l {d : D} {k : K1} (h : toK d = some (.inl k)) : flatK d = some k := by
  unfold toK at h
  split at h
  · cases h; rfl
  · cases h; rfl
  · split at h <;> cases h
  · cases h
theorem toK_r {d : D} {ks : List K1} (h : toK d = some (.inr ks)) : ∃ ds, d = .tup ds ∧ flatKs ds = some ks := by
  unfold toK at h
  split at h
  · cases h
  · cases h
  · rename_i ds
    split at h
    · rename_i ks' e; cases h; exact ⟨ds, rfl, e⟩
    · cases h
  · cases h
theorem dget_of {z : Sit} {br br' : Bool} {t : Bool} {kvs : List (DK × D)} {d : D} {v u : V} {A : List Addr} {H : Hp} (h1 : VOk z br (.dic t kvs) u A H) (h2 : VOk z br' d v A H) {k : DK} (e : toK d = some k) (kt : k.isRight = t) :
    ∃ (a : Addr) (o : Option V), u = .ref a ∧ DGet H a v o ∧ match lookK k kvs with
      | some x => ∃ w, o = some w ∧ Rep H (Ex z.act.O0 A z.own) A x w
      | none => o = none := by
  obtain ⟨a, ea, q⟩ := h1.dic
  cases k with
  | inl k =>
    subst kt
    obtain ⟨l, hl, r⟩ := q
    obtain ⟨y, e1, e2, _⟩ := h2.key (toK_l e)
    refine ⟨a, valV l y, ea, by rw [e2]; exact DGet.k hl, ?_⟩
    have q := lookK_K (k := y) r
    rw [← e1]
    exact q
  | inr ks =>
    subst kt
    obtain ⟨l, hl, r⟩ := q
    obtain ⟨ds, ed, ek⟩ := toK_r e
    subst ed
    obtain ⟨b, vs, e3, e4, rl⟩ := h2.tup
    obtain ⟨ys, f1, f2, _⟩ := flatKs_ok ek rl
    subst f2
    refine ⟨a, valV l ys, ea, by rw [e3]; exact DGet.t hl e4, ?_⟩
    have q := lookK_T (k := ys) r
    rw [← f1]
    exact q
theorem dget_fdi {z : Sit} {br br' : Bool} {kvs : List (DK × D)} {d : D} {v u : V} {A : List Addr} {H : Hp} (h1 : VOk z br (.fdi kvs) u A H) (h2 : VOk z br' d v A H) {k : K1} (e : toK d = some (.inl k)) :
    ∃ (a : Addr) (o : Option V), u = .ref a ∧ DGet H a v o ∧ match lookK (.inl k) kvs with
      | some x => ∃ w, o = some w ∧ Rep H (Ex z.act.O0 A z.own) A x w
      | none => o = none := by
  obtain ⟨a, ob, l, ea, hl, r⟩ := h1.fdi
  obtain ⟨y, e1, e2, _⟩ := h2.key (toK_l e)
  refine ⟨a, valV l y, ea, .inl ⟨l, y, .inr ⟨ob, hl⟩, e2, rfl⟩, ?_⟩
  have q := lookK_K (k := y) r
  rw [← e1]
  exact q
theorem dget_fdt {z : Sit} {br br' : Bool} {kvs : List (DK × D)} {d : D} {v u : V} {A : List Addr} {H : Hp} (h1 : VOk z br (.fdt kvs) u A H) (h2 : VOk z br' d v A H) {k : List K1} (e : toK d = some (.inr k)) :
    ∃ (a : Addr) (o : Option V), u = .ref a ∧ DGet H a v o ∧ match lookK (.inr k) kvs with
      | some x => ∃ w, o = some w ∧ Rep H (Ex z.act.O0 A z.own) A x w
      | none => o = none := by
  obtain ⟨a, ob, l, ea, hl, r⟩ := h1.fdt
  obtain ⟨ds, ed, ek⟩ := toK_r e
  subst ed
  obtain ⟨b, vs, e3, e4, rl⟩ := h2.tup
  obtain ⟨ys, f1, f2, _⟩ := flatKs_ok ek rl
  subst f2
  refine ⟨a, valV l ys, ea, by rw [e3]; exact .inr ⟨l, ys, b, .inr ⟨ob, hl⟩, rfl, e4, rfl⟩, ?_⟩
  have q := lookK_T (k := ys) r
  rw [← f1]
  exact q
theorem units1 {k : Nat} {A : Around} (r : Room k A) : A.units + 1 < cLine := by have := r.units; omega
theorem units65 {k : Nat} {A : Around} (r : Room k A) : A.units + 65 < cLine := by have := r.un; omega
theorem in_ok {z : Sit} {Γ : List Bool} (hz : z.Ok c Γ) {d e : D} {v u : V} (h1 : VOk z true d v z.A z.H) (h2 : VOk z true e u z.A z.H) {b : Bool} (hb : inB d e = some b) {Q : VK} :
    (Q (.bl b) z.H → wpOp z.X (compareOp .In) v u z.H Q) ∧ (Q (.bl (!b)) z.H → wpOp z.X (compareOp .NotIn) v u z.H Q) := by
  unfold inB at hb
  split at hb
  · rename_i x s
    cases hb
    rw [h1.str.1, h2.str.1]
    exact ⟨fun q => wpOp_of op_in_sign ⟨x, _, rfl, rfl, by simpa using q⟩, fun q => wpOp_of op_notIn_sign ⟨x, _, rfl, rfl, by simpa using q⟩⟩
  · rename_i ds
    split at hb
    · rename_i hc
      cases hb
      obtain ⟨g1, g2⟩ := Bool.and_eq_true_iff.mp hc
      have p1 := (Bool.and_eq_true_iff.mp g1).1
      have p2 := (Bool.and_eq_true_iff.mp g2).1
      have a1 := any_eqv d p1 ds p2
      exact ⟨fun q => wpOp_of (op_inD (units65 hz.on.room)) ⟨_, _, (h1.dp p1).1, (h2.dp p2).1, shaped_of g1 h1, shaped_of g2 h2, by rw [a1]; exact q⟩,
        fun q => wpOp_of (op_notInD (units65 hz.on.room)) ⟨_, _, (h1.dp p1).1, (h2.dp p2).1, shaped_of g1 h1, shaped_of g2 h2, by rw [a1]; exact q⟩⟩
    · cases hb
  · rename_i ds
    split at hb
    · rename_i hc
      cases hb
      obtain ⟨g1, g2⟩ := Bool.and_eq_true_iff.mp hc
      obtain ⟨a, vs, e1, r1, l1⟩ := h2.tup
      have h1' : Rep z.H z.O z.A d v := by
        rcases h1 with h1 | ⟨_, a, _, _, o⟩
        · exact h1
        · cases d with
          | lst _ => cases g1
          | dic _ _ => cases g1
          | ins _ _ => cases g1
          | _ => exact o.elim
      have e2 := inV_eq g1 h1' g2 l1
      rw [e1]
      exact ⟨fun q => wpOp_of op_in_seq ⟨a, vs, rfl, .inr (.of r1), flat_v g1 h1', flat_all g2 l1, by rw [e2]; exact q⟩,
        fun q => wpOp_of op_notIn_seq ⟨a, vs, rfl, .inr (.of r1), flat_v g1 h1', flat_all g2 l1, by rw [e2]; exact q⟩⟩
    · cases hb
  · rename_i kvs
    split at hb
    · rename_i k ek
      cases hb
      obtain ⟨a, o, ea, g, m⟩ := dget_of h2 h1 ek rfl
      have ho : o.isSome = hasK (.inl k) kvs := by
        unfold hasK
        cases q : lookK (.inl k) kvs with
        | none => rw [q] at m; rw [show o = none from m]; rfl
        | some x => rw [q] at m; obtain ⟨w, m, _⟩ := m; rw [m]; rfl
      subst ea
      refine ⟨fun q pins s σ v' u' I r1 r2 => ?_, fun q pins s σ v' u' I r1 r2 => ?_⟩
      · obtain rfl : u' = Value.ref a := r2
        exact d_in (units1 hz.on.room) I g r1 fun s' I' => ⟨.bl _, z.H, I', rfl, by rw [ho]; exact q⟩
      · obtain rfl : u' = Value.ref a := r2
        exact d_notIn (units1 hz.on.room) I g r1 fun s' I' => ⟨.bl _, z.H, I', rfl, by rw [ho]; exact q⟩
    · cases hb
  · rename_i kvs
    split at hb
    · rename_i k ek
      cases hb
      obtain ⟨a, o, ea, g, m⟩ := dget_of h2 h1 ek rfl
      have ho : o.isSome = hasK (.inr k) kvs := by
        unfold hasK
        cases q : lookK (.inr k) kvs with
        | none => rw [q] at m; rw [show o = none from m]; rfl
        | some x => rw [q] at m; obtain ⟨w, m, _⟩ := m; rw [m]; rfl
      subst ea
      refine ⟨fun q pins s σ v' u' I r1 r2 => ?_, fun q pins s σ v' u' I r1 r2 => ?_⟩
      · obtain rfl : u' = Value.ref a := r2
        exact d_in (units1 hz.on.room) I g r1 fun s' I' => ⟨.bl _, z.H, I', rfl, by rw [ho]; exact q⟩
      · obtain rfl : u' = Value.ref a := r2
        exact d_notIn (units1 hz.on.room) I g r1 fun s' I' => ⟨.bl _, z.H, I', rfl, by rw [ho]; exact q⟩
    · cases hb
  · rename_i kvs
    split at hb
    · rename_i k ek
      cases hb
      obtain ⟨a, o, ea, g, m⟩ := dget_fdi h2 h1 ek
      have ho : o.isSome = hasK (.inl k) kvs := by
        unfold hasK
        cases q : lookK (.inl k) kvs with
        | none => rw [q] at m; rw [show o = none from m]; rfl
        | some x => rw [q] at m; obtain ⟨w, m, _⟩ := m; rw [m]; rfl
      subst ea
      refine ⟨fun q pins s σ v' u' I r1 r2 => ?_, fun q pins s σ v' u' I r1 r2 => ?_⟩
      · obtain rfl : u' = Value.ref a := r2
        exact d_in (units1 hz.on.room) I g r1 fun s' I' => ⟨.bl _, z.H, I', rfl, by rw [ho]; exact q⟩
      · obtain rfl : u' = Value.ref a := r2
        exact d_notIn (units1 hz.on.room) I g r1 fun s' I' => ⟨.bl _, z.H, I', rfl, by rw [ho]; exact q⟩
    · cases hb
  · rename_i kvs
    split at hb
    · rename_i k ek
      cases hb
      obtain ⟨a, o, ea, g, m⟩ := dget_fdt h2 h1 ek
      have ho : o.isSome = hasK (.inr k) kvs := by
        unfold hasK
        cases q : lookK (.inr k) kvs with
        | none => rw [q] at m; rw [show o = none from m]; rfl
        | some x => rw [q] at m; obtain ⟨w, m, _⟩ := m; rw [m]; rfl
      subst ea
      refine ⟨fun q pins s σ v' u' I r1 r2 => ?_, fun q pins s σ v' u' I r1 r2 => ?_⟩
      · obtain rfl : u' = Value.ref a := r2
        exact d_in (units1 hz.on.room) I g r1 fun s' I' => ⟨.bl _, z.H, I', rfl, by rw [ho]; exact q⟩
      · obtain rfl : u' = Value.ref a := r2
        exact d_notIn (units1 hz.on.room) I g r1 fun s' I' => ⟨.bl _, z.H, I', rfl, by rw [ho]; exact q⟩
    · cases hb
  · cases hb
theorem vop_in : VOp c (compareOp .In) dIn := by
  intro Γ z hz d e v u h1 h2 Q h
  unfold dIn at h
  cases hb : inB d e with
  | some b => rw [hb] at h; exact (in_ok hz h1 h2 hb).1 (h.val hz rfl)
  | none => rw [hb] at h; exact h.elim
theorem vop_notin : VOp c (compareOp .NotIn) dNotIn := by
  intro Γ z hz d e v u h1 h2 Q h
  unfold dNotIn at h
  cases hb : inB d e with
  | some b => rw [hb] at h; exact (in_ok hz h1 h2 hb).2 (h.val hz rfl)
  | none => rw [hb] at h; exact h.elim
end
theorem isEmpty_len {α β : Type} {a : List α} {b : List β} (h : a.length = b.length) : a.isEmpty = b.isEmpty := by
  cases a with
  | nil => cases b with
    | nil => rfl
    | cons _ _ => cases h
  | cons _ _ => cases b with
    | nil => cases h
    | cons _ _ => rfl
theorem repK_len {H : Hp} {O : Addr → Prop} {A : List Addr} : ∀ {kvs : List (DK × D)} {l : List (Key × V)}, RepK H O A kvs l → l.length = kvs.length
  | [], l, h => by rw [show l = [] from h]; rfl
  | p :: ps, l, h => by
    obtain ⟨k, v, r, e, _, h2⟩ := h
    rw [e, List.length_cons, List.length_cons, repK_len h2]
theorem repT_len {H : Hp} {O : Addr → Prop} {A : List Addr} : ∀ {kvs : List (DK × D)} {l : List (List Key × V)}, RepT H O A kvs l → l.length = kvs.length
  | [], l, h => by rw [show l = [] from h]; rfl
  | p :: ps, l, h => by
    obtain ⟨k, v, r, e, _, h2⟩ := h
    rw [e, List.length_cons, List.length_cons, repT_len h2]
theorem tru_of {z : Sit} {br : Bool} {d : D} {v : V} {A : List Addr} {H : Hp} {b : Bool} (K : PySem.W.Frag) (h : VOk z br d v A H) (e : truB d = some b) : TruV K v H b := by
  cases d with
  | non => cases e; rw [h.non]; rfl
  | bl k => cases e; rw [h.bl]; rfl
  | int i => cases e; rw [h.int]; rfl
  | str s =>
    cases e
    obtain ⟨e1, ok⟩ := h.str
    rw [e1]
    refine ⟨by rw [sizeLine_eq]; exact ok.1, ?_⟩
    cases s <;> rfl
  | tup ds =>
    cases e
    obtain ⟨a, vs, e1, r, l⟩ := h.tup
    rw [e1]
    exact .inr (.inl ⟨vs, .of r, by rw [isEmpty_len l.len]⟩)
  | lst ds =>
    cases e
    obtain ⟨a, vs, e1, r, l⟩ := h.lst
    rw [e1]
    exact .inl ⟨vs, .of r, by rw [isEmpty_len l.len]⟩
  | dic t kvs =>
    cases t with
    | true => cases e
    | false =>
      cases e
      obtain ⟨a, e1, l, r, q⟩ := h.dic
      rw [e1]
      exact .inr (.inr ⟨l, r, by rw [isEmpty_len (repK_len q)]⟩)
  | _ => cases e
def wpIx (X : Cx) : R2 := fun x y H Q => ∀ (value slice : Expr) pins s σ v u, Inv X pins σ H s → RelV x v → RelV y u → subscripted slice false v u = operate [v, u] (getItem v u) → wpAny (model X.prog X.w) X.A (subscriptTail value slice v u) (EP X pins σ Q) X.xe s
theorem ixR_wp {X : Cx} : IxR X (wpIx X) := fun value slice pins s σ H x y v u Q I r1 r2 h e => h value slice pins s σ v u I r1 r2 e
theorem wpIx_of {X : Cx} {r : R2} (h : IxR X r) {x y H Q} (q : r x y H Q) : wpIx X x y H Q := fun value slice pins s σ v u I r1 r2 e => h value slice pins s σ H x y v u Q I r1 r2 q e
theorem subTail {prog : Program} {w : World} {A : Around} {E : Value → Shared → Prop} {s : Shared} {value slice : Expr} {o i : Value} {T id : String} {Q : Value → Shared → Prop} (hT : s.TypeIs o T)
    (hl : typeLookup (.type T) "__getitem__" = pure (some (.builtin id))) (h : wpAny (model prog w) A (getItem o i) Q E s)
    (hs : subscripted slice false o i = operate [o, i] (getItem o i)) : wpAny (model prog w) A (subscriptTail value slice o i) Q E s := by
  unfold subscriptTail
  refine wpAny_bind ?_
  rw [getitemInPython_of_ne hT.not_modules]
  refine wpAny_bind (wpAny_specialOf hT hl ?_)
  have fin : wpAny (model prog w) A (subscripted slice false o i) (fun r s₃ => wpAny (model prog w) A (letTemporaryGo value o r >>= fun _ => pure r) Q E s₃) E s := by
    rw [hs]
    exact wpAny_operating (wpAny_mono h (fun r s₃ h₃ => wpAny_bind (wpAny_letTemporaryGo (wpAny_pure h₃))) fun _ _ x => x)
  first
    | exact wpAny_pure (wpAny_bind fin)
    | exact wpAny_bind (wpAny_pure (wpAny_bind fin))
    | exact wpAny_bind fin
theorem ix_dic {X : Cx} (hu : X.A.units + 1 < cLine) : IxR X (fun x y H Q => ∃ a v, x = .ref a ∧ DGet H a y (some v) ∧ Q v H) := by
  intro value slice pins s σ H x y v u Q I rx ry h hs
  obtain ⟨a, w, rfl, g, q⟩ := h
  obtain rfl : v = Value.ref a := rx
  exact subTail (dict_typeIs I g) PySem.F.slot_dict_getitem.lookup (d_getItem hu I g ry fun w' s3 I3 rw' => ⟨w, H, I3, rw', q⟩) hs
theorem atI_mem {α : Type} {xs : List α} {i : Int} {a : α} (h : atI xs i = some a) : a ∈ xs := by
  obtain ⟨j, _, e, _⟩ := atI_get h
  exact List.mem_of_getElem? e
section
variable {c : Sta}
theorem vix {Γ : List Bool} {z : Sit} (hz : z.Ok c Γ) {d e : D} {v u : V} (h1 : VOk z true d v z.A z.H) (h2 : VOk z true e u z.A z.H) {Q : VK} (h : Post z (okE z false) (dIx d e z.S) Q) : wpIx z.X v u z.H Q := by
  cases d with
  | lst ds =>
    cases e with
    | int i =>
      dsimp only [dIx] at h
      cases ed : atI ds i with
      | none => rw [ed] at h; exact h.elim
      | some d =>
        rw [ed] at h
        obtain ⟨a, vs, e1, r, l⟩ := h1.lst
        obtain ⟨w, e2, k⟩ := l.atI ed
        rw [e1, h2.int]
        exact wpIx_of ix_list ⟨a, vs, i, w, rfl, rfl, .of r, e2, h.val hz k⟩
    | _ => exact h.elim
  | tup ds =>
    cases e with
    | int i =>
      dsimp only [dIx] at h
      cases ed : atI ds i with
      | none => rw [ed] at h; exact h.elim
      | some d =>
        rw [ed] at h
        obtain ⟨a, vs, e1, r, l⟩ := h1.tup
        obtain ⟨w, e2, k⟩ := l.atI ed
        rw [e1, h2.int]
        exact wpIx_of ix_tup ⟨a, vs, i, w, rfl, rfl, .of r, e2, h.val hz k⟩
    | _ => exact h.elim
  | tix ds =>
    cases e with
    | int i =>
      dsimp only [dIx] at h
      cases ed : atI ds i with
      | none => rw [ed] at h; exact h.elim
      | some d =>
        rw [ed] at h
        obtain ⟨a, ob, vs, e1, r, _, l⟩ := h1.tix
        obtain ⟨w, e2, k⟩ := l.atI ed
        rw [e1, h2.int]
        exact wpIx_of ix_tup ⟨a, vs, i, w, rfl, rfl, .inl (.inr ⟨ob, r⟩), e2, h.val hz k⟩
    | _ => exact h.elim
  | scr ds =>
    cases e with
    | int i =>
      dsimp only [dIx] at h
      cases ed : atI ds i with
      | none => rw [ed] at h; exact h.elim
      | some d =>
        rw [ed] at h
        obtain ⟨a, vs, e1, r, l⟩ := h1.scr
        obtain ⟨w, e2, k⟩ := l.atI ed
        rw [e1, h2.int]
        exact wpIx_of ix_list ⟨a, vs, i, w, rfl, rfl, .inl r, e2, h.val hz k⟩
    | _ => exact h.elim
  | str s =>
    cases e with
    | int i =>
      dsimp only [dIx] at h
      cases ed : atI s i with
      | none => rw [ed] at h; exact h.elim
      | some x =>
        rw [ed] at h
        obtain ⟨e1, ok⟩ := h1.str
        rw [e1, h2.int]
        exact wpIx_of ix_str ⟨_, i, x, rfl, rfl, by rw [sizeLine_eq]; exact ok.1, by simpa using ed, h.val hz ⟨rfl, by show 1 ≤ 16777216; decide, fun y hy => (by rw [List.mem_singleton.mp hy]; exact ok.2 x (atI_mem ed))⟩⟩
    | _ => exact h.elim
  | dic t kvs =>
    dsimp only [dIx] at h
    cases ek : toK e with
    | none => rw [ek] at h; exact h.elim
    | some k =>
      rw [ek] at h
      dsimp only at h
      by_cases kt : k.isRight = t
      · rw [if_pos kt] at h
        obtain ⟨a, o, ea, g, m⟩ := dget_of h1 h2 ek kt
        cases ex : lookK k kvs with
        | none => rw [ex] at h; exact h.elim
        | some x =>
          rw [ex] at h m
          obtain ⟨w, m1, m2⟩ := m
          subst m1
          rw [ea]
          exact wpIx_of (ix_dic (units1 hz.on.room)) ⟨a, w, rfl, g, h.val hz m2⟩
      · rw [if_neg kt] at h; exact h.elim
  | fdi kvs =>
    dsimp only [dIx] at h
    cases ek : toK e with
    | none => rw [ek] at h; exact h.elim
    | some k =>
      rw [ek] at h
      cases k with
      | inr _ => exact h.elim
      | inl k =>
        dsimp only at h
        obtain ⟨a, o, ea, g, m⟩ := dget_fdi h1 h2 ek
        cases ex : lookK (.inl k) kvs with
        | none => rw [ex] at h; exact h.elim
        | some x =>
          rw [ex] at h m
          obtain ⟨w, m1, m2⟩ := m
          subst m1
          rw [ea]
          exact wpIx_of (ix_dic (units1 hz.on.room)) ⟨a, w, rfl, g, h.val hz m2⟩
  | _ => exact h.elim
end
theorem cut_mem {α : Type} {xs : List α} {lo hi : Option Int} {a : α} (h : a ∈ cut xs lo hi) : a ∈ xs := List.mem_of_mem_drop (List.mem_of_mem_take h)
theorem cut_le {α : Type} (xs : List α) (lo hi : Option Int) : (cut xs lo hi).length ≤ xs.length := by
  unfold cut
  rw [List.length_take, List.length_drop]
  omega
def rSlAny (K : PySem.W.Frag) : V → Option Int → Option Int → Hp → VK → Prop := fun x lo hi H Q => rSlS x lo hi H Q ∨ rSlA K x lo hi H Q
theorem sl_any {X : Cx} : SlR X (rSlAny X.K) := sl_str.or sl_tupA
section
variable {c : Sta}
theorem vsl {Γ : List Bool} {z : Sit} (hz : z.Ok c Γ) {d : D} {v : V} (h1 : VOk z true d v z.A z.H) {lo hi : Option Int} {Q : VK} (h : Post z (okE z false) (dSl d lo hi z.S) Q) : rSlAny z.X.K v lo hi z.H Q := by
  cases d with
  | str s =>
    obtain ⟨e1, ok⟩ := h1.str
    refine .inl ⟨_, e1, by rw [sizeLine_eq]; exact ok.1, ?_⟩
    refine h.val hz ⟨?_, Nat.le_trans (cut_le s _ _) ok.1, fun x hx => ok.2 x (cut_mem hx)⟩
    unfold cutS VS.cut
    simp [Str.length]
  | tup ds =>
    obtain ⟨a, vs, e1, r, l⟩ := h1.tup
    refine .inr ⟨a, vs, e1, .of r, fun q => ?_, fun _ p hp => h.newT hz hp (l.cut _ _)⟩
    rw [l.len] at q
    have e : VS.cut ds lo hi = ds := by
      unfold VS.cut
      rw [q.1, q.2]
      simp
    dsimp only [dSl] at h
    rw [e] at h
    exact h.val hz ⟨a, vs, rfl, r, l⟩
  | _ => exact h.elim
theorem vslF {Γ : List Bool} {z : Sit} (hz : z.Ok c Γ) {d : D} {v : V} (h1 : VOk z true d v z.A z.H) {lo hi : Option Int} {Q : VK} (h : Post z (okF z) (fSl d lo hi z.S) Q) : rSlL z.X.K v lo hi z.H Q := by
  cases d with
  | lst ds =>
    obtain ⟨a, vs, e1, r, l⟩ := h1.lst
    exact ⟨a, vs, e1, .of r, fun p hp => h.newL hz hp (l.cut _ _)⟩
  | scr ds =>
    obtain ⟨a, vs, e1, r, l⟩ := h1.scr
    exact ⟨a, vs, e1, .inl r, fun p hp => h.newL hz hp (l.cut _ _)⟩
  | _ => exact h.elim
end
end VS
namespace VS
open PySem PySem.Spec PyProof.Rows L2
variable [Tables]
def eOrT (f g : DE) : DE := fun ρ => f ρ >>= fun d => dTru d >>= fun k => if k = true then retD d else g ρ
theorem seen_ok {c : Sta} {i : Nat} {x : Str} (h : seen c i x = true) : c.N[i]? = some x ∧ Vis c.sc x ∧ (x == ("__debug__" : Str)) = false ∧ (x == ("__classdict__" : Str)) = false := by
  unfold seen at h
  simp only [Bool.and_eq_true, Bool.or_eq_true, decide_eq_true_eq, beq_iff_eq, Bool.not_eq_true'] at h
  exact ⟨h.1, h.2.1.elim (fun q => q.elim .inl fun q => .inr (.inl q)) fun q => .inr (.inr q), h.2.2.1, h.2.2.2⟩
section
variable {c : Sta} {Γ : List Bool} {br : Bool}
theorem own_get {z : Sit} (hz : z.Ok c Γ) {i : Nat} {b : Bool} (h : Γ[i]? = some b) : ∃ o, z.own[i]? = some o ∧ o.isSome = b := by
  have e := hz.own
  rw [← e, List.getElem?_map] at h
  cases q : z.own[i]? with
  | none => rw [q] at h; cases h
  | some o => rw [q] at h; exact ⟨o, rfl, Option.some.inj h⟩
theorem ve_var0 {i : Nat} {x : Str} {pos : Pos} (h : seen c i x = true) (hb : br = true ∨ Γ[i]? = some false) : VE c Γ br (.Name x pos) (eVar i) := by
  constructor
  intro z hz Q p
  obtain ⟨hN, hv, hd, hcd⟩ := seen_ok h
  refine wpE_of (pe_var (i := i) (by rw [hz.on.N]; exact hN) (by rw [hz.on.sc]; exact hv) hd hcd) ?_
  have q : Post z (okE z br) (eVar i z.ρ z.S) Q := p
  unfold eVar at q
  cases e : z.ρ[i]? with
  | none => rw [e] at q; exact q.elim
  | some d =>
    rw [e] at q
    have hi := (List.getElem?_eq_some_iff.mp e).1
    have l1 := hz.rel.len1
    have l2 := hz.rel.len2
    have ho : z.own[i]? = some z.own[i] := List.getElem?_eq_getElem (by omega)
    have hs : z.σ[i]? = some z.σ[i] := List.getElem?_eq_getElem (by omega)
    have sl := hz.rel.slot i d _ _ e ho hs
    have key : d = .und ∨ ∃ v, z.σ[i]? = some (some v) ∧ VOk z br d v z.A z.H := by
      cases eo : z.own[i] with
      | none =>
        rw [eo] at sl
        rcases sl with sl | ⟨v, e1, r⟩
        · exact .inl sl
        · exact .inr ⟨v, by rw [hs, e1], .inl r⟩
      | some a =>
        rw [eo] at sl
        refine .inr ⟨.ref a, by rw [hs, sl.1], .inr ⟨?_, a, rfl, ?_, sl.2⟩⟩
        · rcases hb with hb | hb
          · exact hb
          · obtain ⟨o, e1, e2⟩ := own_get hz hb
            rw [ho, eo] at e1
            cases e1
            cases e2
        · rw [← eo]; exact .inl (List.getElem_mem _)
    rcases key with e1 | ⟨v, e1, o⟩
    · subst e1; exact q.elim
    · have q2 : Post z (okE z br) (.ok d z.S) Q := by
        cases d <;> first | exact q | exact q.elim
      exact ⟨v, e1, q2 v z.H z.A Step.refl ⟨hz.rel, o⟩⟩
theorem ve_var {i : Nat} {x : Str} {pos : Pos} (h : seen c i x = true) : VE c Γ true (.Name x pos) (eVar i) := ve_var0 h (.inl rfl)
theorem ve_varS {i : Nat} {x : Str} {pos : Pos} (h : seen c i x = true) (hg : Γ[i]? = some false) : VE c Γ br (.Name x pos) (eVar i) := ve_var0 h (.inr hg)
theorem ve_any {i : Nat} {x : Str} {pos : Pos} (h : seen c i x = true) (he : c.ep = true) : VE c Γ true (.Name x pos) (eAny i) := by
  constructor
  intro z hz Q p
  by_cases hr : ∃ n, z.ρ[i]? = some (.ref n)
  · obtain ⟨n, hr⟩ := hr
    refine ve_var h z hz Q ?_
    have e1 : eVar i z.ρ z.S = .ok (.ref n) z.S := by unfold eVar; rw [hr]
    have q : Post z (okE z true) (eAny i z.ρ z.S) Q := p
    unfold eAny at q
    rw [hr] at q
    dsimp only at q
    rw [e1]
    intro v H' A' s o
    rcases o.2 with q2 | ⟨_, _, _, _, q2⟩
    · obtain ⟨a, ha, ev⟩ := q2
      subst ev
      cases es : z.S[n]? with
      | none => rw [es] at q; exact q.elim
      | some d =>
        rw [es] at q
        have hn : d ≠ .und := fun e => by subst e; exact q.elim
        have q2 : Post z (okE z true) (.ok d z.S) Q := by cases d <;> first | exact q | exact q.elim
        refine q2 _ H' A' s ⟨o.1, .inr ⟨rfl, a, rfl, .inr ⟨by rw [hz.pu.2.1]; exact he, List.mem_of_getElem? ha⟩, ?_⟩⟩
        exact (o.1.cell n d a es ha).elim (fun e => absurd e hn) id
    · exact q2.elim
  · refine ve_var h z hz Q ?_
    have q : Post z (okE z true) (eAny i z.ρ z.S) Q := p
    have e1 : eAny i z.ρ z.S = eVar i z.ρ z.S := by
      unfold eAny eVar
      cases e : z.ρ[i]? with
      | none => rfl
      | some d => cases d <;> first | rfl | exact absurd ⟨_, e⟩ hr
    rw [e1] at q
    exact q
theorem ve_int {i : Int} {j pos} : VE c Γ br (.Constant (.int i) j pos) (eC (.int i)) := VE.mk <| fun z hz Q p => wpE_of pe_int (p.val hz rfl)
theorem ve_bl {b : Bool} {j pos} : VE c Γ br (.Constant (.bool b) j pos) (eC (.bl b)) := VE.mk <| fun z hz Q p => wpE_of pe_bl (p.val hz rfl)
theorem ve_non {j pos} : VE c Γ br (.Constant .none j pos) (eC .non) := VE.mk <| fun z hz Q p => wpE_of pe_non (p.val hz rfl)
def isTxt (x : Str) (s : List Nat) : Bool := decide (x.cps.toList = s) && (decide (s.length ≤ 16777216) && s.all fun y => decide (y < 1114112))
theorem isTxt_ok {x : Str} {s : List Nat} (h : isTxt x s = true) : x = ⟨s.toArray⟩ ∧ StrOk s := by
  unfold isTxt at h
  simp only [Bool.and_eq_true, decide_eq_true_eq, List.all_eq_true] at h
  refine ⟨?_, h.2.1, h.2.2⟩
  obtain ⟨a⟩ := x
  have e : a.toList = s := h.1
  rw [← e]
theorem ve_str {x : Str} {s : List Nat} {j pos} (h : isTxt x s = true) : VE c Γ br (.Constant (.str x) j pos) (eC (.str s)) := VE.mk <| fun z hz Q p => by
  obtain ⟨e, ok⟩ := isTxt_ok h
  subst e
  exact wpE_of pe_str (p.val hz ⟨rfl, ok⟩)
theorem glob_ok {c : Sta} {x : Str} (h : glob c x = true) : c.sc.names.lookup x = some .globalImplicit ∧ (x == ("__debug__" : Str)) = false ∧ x ≠ "__name__" := by
  unfold glob at h
  simp only [Bool.and_eq_true, beq_iff_eq, Bool.not_eq_true'] at h
  exact ⟨h.1, h.2.1, fun e => by have h2 := h.2.2; rw [e] at h2; simp at h2⟩
theorem Sit.Ok.gl {z : Sit} (hz : z.Ok c Γ) {x : Str} (h : glob c x = true) : Gl z.X x := by
  show z.X.env.scope.names.lookup x = _
  rw [hz.on.sc]
  exact (glob_ok h).1
theorem Post.nobr {br : Bool} {z : Sit} {r : Res D} {Q : VK} (h : Post z (okE z br) r Q) : Post z (okE z false) r Q := h.imp fun _ _ _ _ _ _ o => ⟨o.1, o.2.elim .inl fun x => by cases x.1⟩
variable {a b e : Expr} {fa fb fc : DE} {g g' : D → D → M D} {pos : Pos}
theorem ve_bin {op : Operator} (ho : VOp c (binaryOp op) g) (ha : VE c Γ true a fa) (hb : VE c Γ true b fb) : VE c Γ br (.BinOp a op b pos) (eBin g fa fb) := VE.mk <| fun z hz Q h =>
  wpE_of (pe_op opR_wp pe_wp pe_wp) (two hz ha hb h fun S' A' H' x y v u hz' o1 o2 h' => ho Γ (z.to S' A' H') hz' x y v u o1 o2 Q (Post.nobr (br := br) h'))
theorem okF.back {z : Sit} {S1 : Store} {A1 : List Addr} {H1 : Hp} (s : Step z.ep z.A z.H A1 H1) {d : D} {S' : Store} {v : V} {A' : List Addr} {H' : Hp} (s' : Step z.ep A1 H1 A' H') (o : okF (z.to S1 A1 H1) d S' v A' H') : okF z d S' v A' H' := by
  obtain ⟨p, e1, n, na, r, ow⟩ := o
  change H1 p = none at n
  refine ⟨p, e1, ?_, na, r, ow⟩
  cases q : z.H p with
  | none => rfl
  | some o =>
    by_cases hp : p ∈ z.A
    · exact absurd (pre_mem s.pre hp) fun z2 => na (pre_mem s'.pre z2)
    · exact absurd n (s.chg.dom p (by rw [q]; exact fun z => by cases z))
theorem Post.back {z : Sit} {S1 : Store} {A1 : List Addr} {H1 : Hp} (s : Step z.ep z.A z.H A1 H1) {r : Res D} {Q : VK} (h : Post (z.to S1 A1 H1) (okF z) r Q) : Post (z.to S1 A1 H1) (okF (z.to S1 A1 H1)) r Q :=
  h.imp fun _ _ _ _ _ s' o => okF.back s s' o
theorem vf_bin {op : Operator} (ho : VOpF c (binaryOp op) g) (ha : VE c Γ true a fa) (hb : VE c Γ true b fb) : VF c Γ (.BinOp a op b pos) (eBin g fa fb) := by
  constructor
  intro z hz Q h
  refine wpE_of (pe_op opR_wp pe_wp pe_wp) ?_
  refine ha z hz _ (Post.bind h fun x v S1 A1 H1 s1 o1 h1 => ?_)
  have hz1 := hz.to o1.1
  refine hb (z.to S1 A1 H1) hz1 _ (Post.bind h1 fun y u S2 A2 H2 s2 o2 h2 => ?_)
  exact ho Γ (z.to S2 A2 H2) (hz1.to o2.1) x y v u (o1.2.step o1.1 s2) o2.2 Q (h2.back (s1.trans s2))
theorem ve_un {op : UnaryOp} {g : D → M D} (ho : VUn c (unaryOp op) g) (ha : VE c Γ true a fa) : VE c Γ br (.UnaryOp op a pos) (eUn g fa) := VE.mk <| fun z hz Q h =>
  wpE_of (pe_un unR_wp pe_wp) (ha z hz _ (Post.bind h fun x v S1 A1 H1 s1 o1 h1 => ho Γ (z.to S1 A1 H1) (hz.to o1.1) x v o1.2 Q (Post.nobr (br := br) h1)))
theorem vun_neg : VUn c (unaryOp .USub) dNeg := by
  intro Γ z hz d v h1 Q h
  cases d with
  | int i => rw [h1.int]; exact wpUn_of un_neg ⟨i, rfl, h.val hz rfl⟩
  | _ => exact h.elim
theorem vun_inv : VUn c (unaryOp .Invert) dInv := by
  intro Γ z hz d v h1 Q h
  cases d with
  | int i => rw [h1.int]; exact wpUn_of un_inv ⟨i, rfl, h.val hz rfl⟩
  | _ => exact h.elim
theorem ve_cmp {op : CmpOp} (ho : VOp c (compareOp op) g) (ha : VE c Γ true a fa) (hb : VE c Γ true b fb) (hm : behindInMarks op b = false) : VE c Γ br (.Compare a [op] [b] pos) (eBin g fa fb) := VE.mk <| fun z hz Q h =>
  wpE_of (pe_cmpR opR_wp pe_wp pe_wp hm) (two hz ha hb h fun S' A' H' x y v u hz' o1 o2 h' => ho Γ (z.to S' A' H') hz' x y v u o1 o2 Q (Post.nobr (br := br) h'))
theorem asB_post {z : Sit} {m : M D} {Q : Bool → Hp → Prop} (h : Post z (okT z) ((m >>= asB) z.S) Q) : Post z (okE z false) (m z.S) fun x H' => ∃ k, x = .bl k ∧ Q k H' := by
  refine Post.bind h fun d v S' A' H' s o h' => ?_
  cases d with
  | bl k => exact ⟨k, o.2.bl, h' k H' A' Step.refl ⟨o.1, rfl⟩⟩
  | _ => exact h'.elim
theorem bind_assoc' {α β γ : Type} (m : M α) (f : α → M β) (g : β → M γ) : (m >>= f) >>= g = m >>= fun a => f a >>= g := by
  funext S
  show M.bind (M.bind m f) g S = M.bind m (fun a => M.bind (f a) g) S
  unfold M.bind
  cases m S <;> rfl
theorem vt_cmp {op : CmpOp} (ho : VOp c (compareOp op) g) (ha : VE c Γ true a fa) (hb : VE c Γ true b fb) (hm : behindInMarks op b = false) : VT c Γ (.Compare a [op] [b] pos) (tBin g fa fb) := VT.mk <| fun z hz Q h =>
  wpT_of (pt_cmpR opR_wp pe_wp pe_wp hm) (two hz ha hb (f := fun x y => g x y >>= asB) h fun S' A' H' x y v u hz' o1 o2 h' => ho Γ (z.to S' A' H') hz' x y v u o1 o2 _ (asB_post h'))
theorem chain_post {op op' : CmpOp} {e3 : Expr} (ho : VOp c (compareOp op) g) (ho' : VOp c (compareOp op') g') (ha : VE c Γ true a fa) (hb : VE c Γ true b fb) (he : VE c Γ true e3 fc) {z : Sit} (hz : z.Ok c Γ) {Q : VK} (h : Post z (okE z br) (eChain g g' fa fb fc z.ρ z.S) Q) :
    tChain (wpOp z.X (compareOp op)) (wpOp z.X (compareOp op')) (wpE z.X a) (wpE z.X b) (wpE z.X e3) z.σ z.H Q := by
  refine two hz ha hb (f := fun x y => g x y >>= asB >>= fun k => if k = true then fc z.ρ >>= fun w => g' y w else retD (.bl false)) h fun S' A' H' x y v u hz' o1 o2 h' => ?_
  refine ho Γ (z.to S' A' H') hz' x y v u o1 o2 _ ?_
  rw [bind_assoc'] at h'
  refine Post.bind h' fun d w S2 A2 H2 s2 o3 h2 => ?_
  cases d with
  | bl k =>
    refine ⟨k, o3.2.bl, ?_⟩
    have hz2 := hz'.to (z := z.to S' A' H') o3.1
    have h3 : Post (z.to S2 A2 H2) (okE z br) ((if k = true then fc z.ρ >>= fun w => g' y w else retD (.bl false)) S2) Q := h2
    cases k with
    | true =>
      rw [if_pos rfl]
      rw [if_pos rfl] at h3
      refine he (z.to S2 A2 H2) hz2 _ (Post.bind h3 fun w' u' S3 A3 H3 s3 o4 h4 => ?_)
      exact ho' Γ (z.to S3 A3 H3) (hz2.to o4.1) y w' u u' ((o2.step hz'.rel s2).step o3.1 s3) o4.2 Q (Post.nobr (br := br) h4)
    | false =>
      rw [if_neg Bool.false_ne_true]
      rw [if_neg Bool.false_ne_true] at h3
      exact Post.val (br := br) hz2 h3 rfl
  | _ => exact h2.elim
theorem vt_chain {op op' : CmpOp} {e3 : Expr} (ho : VOp c (compareOp op) g) (ho' : VOp c (compareOp op') g') (ha : VE c Γ true a fa) (hb : VE c Γ true b fb) (he : VE c Γ true e3 fc) (hm : lastMarks [op, op'] [b, e3] = false) : VT c Γ (.Compare a [op, op'] [b, e3] pos) (tChain' g g' fa fb fc) := VT.mk <| fun z hz Q h =>
  wpT_of (pt_chain (hm := hm) opR_wp opR_wp pe_wp pe_wp pe_wp) (chain_post (br := false) ho ho' ha hb he hz (asB_post h))
theorem vt_of (ha : VE c Γ true a fa) (he : ∀ (env : PySem.Env) whole, isTrue a env whole = (do let v ← whole; standAt a.pos; holding [v] (truthy v))) : VT c Γ a (tOf fa) := VT.mk <| fun z hz Q h =>
  wpT_of (pt_truth pe_wp (he _)) (ha z hz _ (Post.bind h fun d v S1 A1 H1 s1 o1 h1 => by
    unfold dTru at h1
    cases e : truB d with
    | none => rw [e] at h1; exact h1.elim
    | some b => rw [e] at h1; exact ⟨b, tru_of z.X.K o1.2 e, h1 b H1 A1 Step.refl ⟨o1.1, rfl⟩⟩))
section
variable {ta tb : DT} {rest : List Expr}
theorem vw_and1 (ha : VT c Γ a ta) : VW c Γ (.BoolOp .And [a] pos) ta := VW.mk <| fun z hz Q h => wpW_of (pw_and1 pt_wp) (ha z hz Q h)
theorem vw_or1 (ha : VT c Γ a ta) : VW c Γ (.BoolOp .Or [a] pos) ta := VW.mk <| fun z hz Q h => wpW_of (pw_or1 pt_wp) (ha z hz Q h)
theorem vw_and (ha : VT c Γ a ta) (hb : VW c Γ (.BoolOp .And (b :: rest) pos) tb) : VW c Γ (.BoolOp .And (a :: b :: rest) pos) (tAnd' ta tb) := VW.mk <| fun z hz Q h =>
  wpW_of (pw_and pt_wp pw_wp) (ha z hz _ (Post.bind h fun k k' S1 A1 H1 s1 o1 h1 => by
    obtain ⟨r, e⟩ := o1
    subst e
    have hz1 := hz.to r
    cases k with
    | true => rw [if_pos rfl] at h1 ⊢; exact hb (z.to S1 A1 H1) hz1 _ h1
    | false => rw [if_neg Bool.false_ne_true] at h1 ⊢; exact h1 false H1 A1 Step.refl ⟨r, rfl⟩))
theorem vw_or (ha : VT c Γ a ta) (hb : VW c Γ (.BoolOp .Or (b :: rest) pos) tb) : VW c Γ (.BoolOp .Or (a :: b :: rest) pos) (tOr' ta tb) := VW.mk <| fun z hz Q h =>
  wpW_of (pw_or pt_wp pw_wp) (ha z hz _ (Post.bind h fun k k' S1 A1 H1 s1 o1 h1 => by
    obtain ⟨r, e⟩ := o1
    subst e
    have hz1 := hz.to r
    cases k with
    | true => rw [if_pos rfl] at h1 ⊢; exact h1 true H1 A1 Step.refl ⟨r, rfl⟩
    | false => rw [if_neg Bool.false_ne_true] at h1 ⊢; exact hb (z.to S1 A1 H1) hz1 _ h1))
theorem vw_t (h : VW c Γ a ta) : VT c Γ a ta := VT.mk <| fun z hz Q p pins s I => h z hz Q p _ pins s I
theorem vt_not (ha : VT c Γ a ta) : VT c Γ (.UnaryOp .Not a pos) (tNot' ta) := VT.mk <| fun z hz Q h =>
  wpT_of (pt_not pt_wp) (ha z hz _ (Post.bind h fun k k' S1 A1 H1 s1 o1 h1 => h1 _ H1 A1 Step.refl ⟨o1.1, by rw [o1.2]⟩))
theorem ve_one {op} (h : VE c Γ br a fa) : VE c Γ br (.BoolOp op [a] pos) fa := VE.mk <| fun z hz Q p => wpE_of (pe_one pe_wp) (h z hz Q p)
theorem tru_post {z : Sit} {k : Bool → M D} {d : D} {v : V} {S1 : Store} {A1 : List Addr} {H1 : Hp} (o1 : okE z br d S1 v A1 H1) {ok : D → Store → V → List Addr → Hp → Prop} {Q : VK} (h : Post (z.to S1 A1 H1) ok ((dTru d >>= k) S1) Q) (K : PySem.W.Frag) :
    ∃ b, TruV K v H1 b ∧ Post (z.to S1 A1 H1) ok (k b S1) Q := by
  have e0 : (dTru d >>= k) S1 = match truB d with | some b => k b S1 | none => .bad := by
    show M.bind (dTru d) k S1 = _
    unfold M.bind dTru
    cases truB d <;> rfl
  rw [e0] at h
  cases e : truB d with
  | none => rw [e] at h; exact h.elim
  | some b => rw [e] at h; exact ⟨b, tru_of K o1.2 e, h⟩
theorem ve_andT (ha : VE c Γ br a fa) (hb : VE c Γ br (.BoolOp .And (b :: rest) pos) fb) : VE c Γ br (.BoolOp .And (a :: b :: rest) pos) (eAndT fa fb) := VE.mk <| fun z hz Q h =>
  wpE_of (pe_andT pe_wp pe_wp) (ha z hz _ (Post.bind h fun d v S1 A1 H1 s1 o1 h1 => by
    obtain ⟨k, tv, h2⟩ := tru_post o1 h1 z.X.K
    refine ⟨k, tv, ?_⟩
    cases k with
    | true => rw [if_pos rfl] at h2 ⊢; exact hb (z.to S1 A1 H1) (hz.to o1.1) _ h2
    | false => rw [if_neg Bool.false_ne_true] at h2 ⊢; exact h2 v H1 A1 Step.refl o1))
theorem ve_notT (ha : VE c Γ true a fa) : VE c Γ br (.UnaryOp .Not a pos) (eNotT fa) := VE.mk <| fun z hz Q h =>
  wpE_of (pe_notT pe_wp) (ha z hz _ (Post.bind h fun d v S1 A1 H1 s1 o1 h1 => by
    obtain ⟨k, tv, h2⟩ := tru_post o1 h1 z.X.K
    exact ⟨k, tv, Post.val (br := br) (hz.to o1.1) h2 rfl⟩))
theorem ve_if {t : Expr} (ht : VT c Γ t ta) (ha : VE c Γ br a fa) (hb : VE c Γ br b fb) : VE c Γ br (.IfExp t a b pos) (eIf ta fa fb) := VE.mk <| fun z hz Q h =>
  wpE_of (pe_ifExp pt_wp pe_wp pe_wp) (ht z hz _ (Post.bind h fun k k' S1 A1 H1 s1 o1 h1 => by
    obtain ⟨r, e⟩ := o1
    subst e
    have hz1 := hz.to r
    cases k with
    | true => rw [if_pos rfl] at h1 ⊢; exact ha (z.to S1 A1 H1) hz1 _ h1
    | false => rw [if_neg Bool.false_ne_true] at h1 ⊢; exact hb (z.to S1 A1 H1) hz1 _ h1))
end
theorem va_nil : VA c Γ br [] aNil := VA.mk <| fun z hz Q h => wpA_of pa_nil (h [] z.H z.A Step.refl ⟨hz.rel, .nil⟩)
theorem va_cons {es : List Expr} {fs : DA} (ha : VE c Γ br a fa) (hr : VA c Γ br es fs) (hs : ∀ env, starEach (a :: es) env = (false, eval a env) :: starEach es env) : VA c Γ br (a :: es) (aCons fa fs) := VA.mk <| fun z hz Q h =>
  wpA_of (pa_cons pe_wp pa_wp (hs _)) (ha z hz _ (Post.bind h fun d v S1 A1 H1 s1 o1 h1 =>
    hr (z.to S1 A1 H1) (hz.to o1.1) _ (Post.bind h1 fun ds vs S2 A2 H2 s2 o2 h2 => h2 (v :: vs) H2 A2 Step.refl ⟨o2.1, .cons (o1.2.step o1.1 s2) o2.2⟩)))
theorem repL_of {z : Sit} {A : List Addr} {H : Hp} : ∀ {ds : List D} {vs : List V}, Paired (fun d v => VOk z false d v A H) ds vs → RepL H (Ex z.act.O0 A z.own) A ds vs
  | _, _, .nil => rfl
  | _, _, .cons h t => .cons (h.elim id fun x => by cases x.1) (repL_of t)
theorem ve_tup {es : List Expr} {fs : DA} {j : Nat} (h : VA c Γ false es fs) : VE c Γ br (.Tuple es j pos) (eTup fs) := VE.mk <| fun z hz Q p =>
  wpE_of (pe_tup pa_wp) (h z hz _ (Post.bind p fun ds vs S1 A1 H1 s1 o1 h1 => by
    have l := repL_of o1.2
    unfold tupD at h1
    split at h1
    · rename_i hl
      exact ⟨by rw [l.len, ← sz_line]; exact hl, fun q hq => Post.newT (z := z.to S1 A1 H1) (hz.to o1.1) hq l h1⟩
    · exact h1.elim))
theorem vf_lst {es : List Expr} {fs : DA} (h : VA c Γ false es fs) : VF c Γ (.List es pos) (eLst fs) := VF.mk <| fun z hz Q p =>
  wpE_of (pe_lst pa_wp) (h z hz _ (Post.bind p fun ds vs S1 A1 H1 s1 o1 h1 => by
    have l := repL_of o1.2
    unfold lstD at h1
    split at h1
    · rename_i hl
      exact ⟨by rw [l.len, ← sz_line]; exact hl, fun q hq => Post.newL (z := z.to S1 A1 H1) (hz.to o1.1) hq l (Post.back s1 h1)⟩
    · exact h1.elim))
theorem ve_ix (ha : VE c Γ true a fa) (hb : VE c Γ true b fb) (hs : PlainIx b) : VE c Γ br (.Subscript a b pos) (eBin dIx fa fb) := VE.mk <| fun z hz Q h =>
  wpE_of (pe_ix ixR_wp pe_wp pe_wp hs) (two hz ha hb h fun S' A' H' x y v u hz' o1 o2 h' => vix (z := z.to S' A' H') hz' o1 o2 (Post.nobr (br := br) h'))
theorem po_wp {X : Cx} {e : Option Expr} : PO X e (wpO X e) := ⟨fun pins s _ _ _ I h => h pins s I⟩
theorem wpO_of {X : Cx} {e : Option Expr} {t : TO} (h : PO X e t) {σ H Q} (q : t σ H Q) : wpO X e σ H Q := fun pins s I => h.run pins s σ H Q I q
theorem vo_none : VO c Γ none oNone := VO.mk <| fun z hz Q h => wpO_of po_none (h none z.H z.A Step.refl ⟨hz.rel, rfl⟩)
theorem vo_some (ha : VE c Γ true a fa) : VO c Γ (some a) (oSome fa) := VO.mk <| fun z hz Q h => wpO_of (po_some pe_wp) (ha z hz _ (Post.bind h fun d v S1 A1 H1 s1 o1 h1 => by
  cases d with
  | int i => exact ⟨i, o1.2.int, h1 (some i) H1 A1 Step.refl ⟨o1.1, rfl⟩⟩
  | _ => exact h1.elim))
theorem ve_sl {lo hi : Option Expr} {fl fh : DO} {p2 : Pos} (ha : VE c Γ true a fa) (hl : VO c Γ lo fl) (hh : VO c Γ hi fh) : VE c Γ br (.Subscript a (.Slice lo hi none p2) pos) (eSl dSl fa fl fh) := VE.mk <| fun z hz Q h =>
  wpE_of (pe_slice sl_any pe_wp po_wp po_wp) (ha z hz _ (Post.bind h fun d v S1 A1 H1 s1 o1 h1 => hl (z.to S1 A1 H1) (hz.to o1.1) _ (Post.bind h1 fun l l' S2 A2 H2 s2 o2 h2 => by
    obtain ⟨r2, e2⟩ := o2
    subst e2
    exact hh (z.to S2 A2 H2) ((hz.to o1.1).to r2) _ (Post.bind h2 fun u u' S3 A3 H3 s3 o3 h3 => by
      obtain ⟨r3, e3⟩ := o3
      subst e3
      exact vsl (z := z.to S3 A3 H3) (((hz.to o1.1).to r2).to r3) ((o1.2.step o1.1 s2).step r2 s3 |> fun q => (show VOk (z.to S3 A3 H3) true d v A3 H3 from q)) (Post.nobr (br := br) h3)))))
theorem vf_sl {lo hi : Option Expr} {fl fh : DO} {p2 : Pos} (ha : VE c Γ true a fa) (hl : VO c Γ lo fl) (hh : VO c Γ hi fh) : VF c Γ (.Subscript a (.Slice lo hi none p2) pos) (eSl fSl fa fl fh) := VF.mk <| fun z hz Q h =>
  wpE_of (pe_slice sl_list pe_wp po_wp po_wp) (ha z hz _ (Post.bind h fun d v S1 A1 H1 s1 o1 h1 => hl (z.to S1 A1 H1) (hz.to o1.1) _ (Post.bind h1 fun l l' S2 A2 H2 s2 o2 h2 => by
    obtain ⟨r2, e2⟩ := o2
    subst e2
    exact hh (z.to S2 A2 H2) ((hz.to o1.1).to r2) _ (Post.bind h2 fun u u' S3 A3 H3 s3 o3 h3 => by
      obtain ⟨r3, e3⟩ := o3
      subst e3
      exact vslF (z := z.to S3 A3 H3) (((hz.to o1.1).to r2).to r3) ((o1.2.step o1.1 s2).step r2 s3 |> fun q => (show VOk (z.to S3 A3 H3) true d v A3 H3 from q)) (Post.back ((s1.trans s2).trans s3) h3)))))
end
end VS
namespace VS
open PySem PySem.Spec PyProof.Rows L2
variable [Tables]
section
variable {act : Act} {own : Own} {ρ : List D} {S : Store} {A : List Addr} {σ : L2.St} {H : Hp}
theorem Rel.setVal (r : Rel act own ρ S A σ H) {i : Nat} {d : D} {v : V} (h : d = .und ∨ Rep H (Ex act.O0 A own) A d v) : Rel act (own.set i none) (ρ.set i d) S A (σ.set i (some v)) H := by
  have g : Go (fun _ => False) H H (Ex act.O0 A own) (Ex act.O0 A (own.set i none)) A A := ⟨Chg.refl, fun _ z => z.elim, fun a z => .inl (ex_set z), fun _ _ e => e⟩
  refine ⟨by simp [r.len1], by simp [r.len2], fun j d' o v' h1 h2 h3 => ?_, fun j k a h1 h2 => ?_, r.lenA, fun n d' a h1 h2 => ?_, r.nodA, fun a ha => r.apart a ((mem_set_own ha).elim (fun e => by cases e) id), fun a ha => r.apart0 a ((mem_set_own ha).elim (fun e => by cases e) id), r.pre, r.newA, fun a ha => r.newO a ((mem_set_own ha).elim (fun e => by cases e) id), fun b hb => r.trk b (ex_set hb), r.chg⟩
  · by_cases hj : i = j
    · subst hj
      have l1 := (List.getElem?_eq_some_iff.mp h1).1
      rw [List.length_set] at l1
      have hl1 := r.len1
      have hl2 := r.len2
      rw [List.getElem?_set_self (by omega)] at h1 h2 h3
      cases h1; cases h2; cases h3
      exact h.imp id fun q => ⟨v, rfl, Rep.go g _ _ q⟩
    · rw [List.getElem?_set_ne hj] at h1 h2 h3
      have q := r.slot j d' o v' h1 h2 h3
      cases o with
      | none => exact q.imp id fun ⟨x, e, z⟩ => ⟨x, e, Rep.go g _ _ z⟩
      | some a => exact ⟨q.1, OwnOk.go g (fun z => z) q.2⟩
  · by_cases hj : i = j
    · subst hj
      have l1 := (List.getElem?_eq_some_iff.mp h1).1
      rw [List.length_set] at l1
      rw [List.getElem?_set_self l1] at h1; cases h1
    · by_cases hk : i = k
      · subst hk
        have l1 := (List.getElem?_eq_some_iff.mp h2).1
        rw [List.length_set] at l1
        rw [List.getElem?_set_self l1] at h2; cases h2
      · rw [List.getElem?_set_ne hj] at h1
        rw [List.getElem?_set_ne hk] at h2
        exact r.inj j k a h1 h2
  · exact (r.cell n d' a h1 h2).imp id fun z => OwnOk.go g (fun z => z) z
theorem Rel.setOwn {a : Addr} (r : Rel (act.plus a) own ρ S A σ H) {i : Nat} {d : D} (h : OwnOk H (Ex (act.plus a).O0 A own) A a d) (h0 : act.H0 a = none) (hA : a ∉ A) (ho : some a ∉ own) (hO : ¬ act.O0 a) (hi : i < own.length) :
    Rel act (own.set i (some a)) (ρ.set i d) S A (σ.set i (some (.ref a))) H := by
  have ex : ∀ b, Ex act.O0 A (own.set i (some a)) b → Ex (act.plus a).O0 A own b := fun b q => by
    rcases q with q | q | q
    · exact .inl (.inl q)
    · exact .inr (.inl q)
    · rcases mem_set_own q with e | q
      · cases e; exact .inl (.inr rfl)
      · exact .inr (.inr q)
  have g : Go (fun _ => False) H H (Ex (act.plus a).O0 A own) (Ex act.O0 A (own.set i (some a))) A A := ⟨Chg.refl, fun _ z => z.elim, fun b z => .inl (ex b z), fun _ _ e => e⟩
  have hl1 := r.len1
  have hl2 := r.len2
  refine ⟨by simp [r.len1], by simp [r.len2], fun j d' o v' h1 h2 h3 => ?_, fun j k b h1 h2 => ?_, r.lenA, fun n d' b h1 h2 => ?_, r.nodA, fun b hb => ?_, fun b hb => ?_, r.pre, r.newA, fun b hb => ?_, fun b hb => r.trk b (ex b hb), r.chg⟩
  · by_cases hj : i = j
    · subst hj
      rw [List.getElem?_set_self (by omega)] at h1 h2 h3
      cases h1; cases h2; cases h3
      exact ⟨rfl, OwnOk.go g (fun z => z) h⟩
    · rw [List.getElem?_set_ne hj] at h1 h2 h3
      have q := r.slot j d' o v' h1 h2 h3
      cases o with
      | none => exact q.imp id fun ⟨x, e, z⟩ => ⟨x, e, Rep.go g _ _ z⟩
      | some b => exact ⟨q.1, OwnOk.go g (fun z => z) q.2⟩
  · by_cases hj : i = j
    · subst hj
      rw [List.getElem?_set_self hi] at h1
      cases h1
      by_cases hk : i = k
      · exact hk
      · rw [List.getElem?_set_ne hk] at h2
        exact absurd (List.mem_of_getElem? h2) ho
    · by_cases hk : i = k
      · subst hk
        rw [List.getElem?_set_self hi] at h2
        cases h2
        rw [List.getElem?_set_ne hj] at h1
        exact absurd (List.mem_of_getElem? h1) ho
      · rw [List.getElem?_set_ne hj] at h1
        rw [List.getElem?_set_ne hk] at h2
        exact r.inj j k b h1 h2
  · exact (r.cell n d' b h1 h2).imp id fun z => OwnOk.go g (fun z => z) z
  · rcases mem_set_own hb with e | q
    · cases e; exact hA
    · exact r.apart b q
  · rcases mem_set_own hb with e | q
    · cases e; exact hO
    · exact fun z => r.apart0 b q (.inl z)
  · rcases mem_set_own hb with e | q
    · cases e; exact h0
    · exact r.newO b q
theorem Rel.mutate (r : Rel act own ρ S A σ H) {i : Nat} {a : Addr} (hi : own[i]? = some (some a)) (hm : Mut (H a)) {u : HO} {d : D} (h : OwnOk (upd H a u) (Ex act.O0 A own) A a d) : Rel act own (ρ.set i d) S A σ (upd H a u) := by
  have mem : some a ∈ own := List.mem_of_getElem? hi
  have cg : Chg (fun b => b = a) H (upd H a u) := chg_upd rfl hm
  have g : Go (fun b => b = a) H (upd H a u) (Ex act.O0 A own) (Ex act.O0 A own) A A := ⟨cg, fun b e => by rw [e]; exact .inr (.inr mem), fun b z => .inl z, fun _ _ e => e⟩
  refine ⟨by simp [r.len1], r.len2, fun j d' o v' h1 h2 h3 => ?_, r.inj, r.lenA, fun n d' b h1 h2 => ?_, r.nodA, r.apart, r.apart0, r.pre, r.newA, r.newO, fun b hb => cg.dom b (r.trk b hb), r.chg.trans cg fun x e => .inr (by rw [e]; exact r.newO a mem)⟩
  · by_cases hj : i = j
    · subst hj
      have l1 := (List.getElem?_eq_some_iff.mp h1).1
      rw [List.length_set] at l1
      rw [List.getElem?_set_self l1] at h1
      cases h1
      rw [hi] at h2; cases h2
      have e0 : ρ[i]? = some ρ[i] := List.getElem?_eq_getElem l1
      exact ⟨(r.slot i _ _ v' e0 hi h3).1, h⟩
    · rw [List.getElem?_set_ne hj] at h1
      have q := r.slot j d' o v' h1 h2 h3
      cases o with
      | none => exact q.imp id fun ⟨x, e, z⟩ => ⟨x, e, Rep.go g _ _ z⟩
      | some b => exact ⟨q.1, OwnOk.go g (fun z => hj (r.inj i j b (by rw [z]; exact hi) h2)) q.2⟩
  · exact (r.cell n d' b h1 h2).imp id fun z => OwnOk.go g (fun e => r.apart a mem (by rw [← e]; exact List.mem_of_getElem? h2)) z
theorem Rel.put (r : Rel act own ρ S A σ H) {n : Nat} {a : Addr} (hn : A[n]? = some a) (hp : act.pu = false ∨ a ∉ act.A0) (hm : Mut (H a)) {u : HO} {d : D} (h : OwnOk (upd H a u) (Ex act.O0 A own) A a d) : Rel act own ρ (S.set n d) A σ (upd H a u) := by
  have mem : a ∈ A := List.mem_of_getElem? hn
  have cg : Chg (fun b => b = a) H (upd H a u) := chg_upd rfl hm
  have g : Go (fun b => b = a) H (upd H a u) (Ex act.O0 A own) (Ex act.O0 A own) A A := ⟨cg, fun b e => by rw [e]; exact .inr (.inl mem), fun b z => .inl z, fun _ _ e => e⟩
  refine ⟨r.len1, r.len2, fun j d' o v' h1 h2 h3 => ?_, r.inj, by simp [r.lenA], fun m d' b h1 h2 => ?_, r.nodA, r.apart, r.apart0, r.pre, r.newA, r.newO, fun b hb => cg.dom b (r.trk b hb), r.chg.trans cg fun x e => ?_⟩
  · have q := r.slot j d' o v' h1 h2 h3
    cases o with
    | none => exact q.imp id fun ⟨x, e, z⟩ => ⟨x, e, Rep.go g _ _ z⟩
    | some b => exact ⟨q.1, OwnOk.go g (fun z => r.apart b (List.mem_of_getElem? h2) (by rw [z]; exact mem)) q.2⟩
  · by_cases hm : n = m
    · subst hm
      have l1 := (List.getElem?_eq_some_iff.mp h1).1
      rw [List.length_set] at l1
      rw [List.getElem?_set_self l1] at h1
      cases h1
      rw [hn] at h2; cases h2
      exact .inr h
    · rw [List.getElem?_set_ne hm] at h1
      refine (r.cell m d' b h1 h2).imp id fun z => OwnOk.go g (fun e => hm ?_) z
      subst e
      obtain ⟨l1, e1⟩ := List.getElem?_eq_some_iff.mp hn
      obtain ⟨l2, e2⟩ := List.getElem?_eq_some_iff.mp h2
      exact (List.getElem_inj r.nodA).mp (e1.trans e2.symm)
  · rw [e]
    rcases hp with hp | hp
    · rcases r.newA a mem with q | q
      · exact .inl ⟨hp, q⟩
      · exact .inr q
    · exact .inr ((r.newA a mem).elim (fun q => absurd q hp) id)
theorem Rel.cellNew {a : Addr} (r : Rel (act.plus a) own ρ S A σ H) {d : D} (h : OwnOk H (Ex (act.plus a).O0 A own) A a d) (h0 : act.H0 a = none) (hA : a ∉ A) (ho : some a ∉ own) : Rel act own ρ (S ++ [d]) (A ++ [a]) σ H := by
  have ex : ∀ b, Ex act.O0 (A ++ [a]) own b → Ex (act.plus a).O0 A own b := fun b q => by
    rcases q with q | q | q
    · exact .inl (.inl q)
    · rcases List.mem_append.mp q with q | q
      · exact .inr (.inl q)
      · exact .inl (.inr (List.mem_singleton.mp q))
    · exact .inr (.inr q)
  have g : Go (fun _ => False) H H (Ex (act.plus a).O0 A own) (Ex act.O0 (A ++ [a]) own) A (A ++ [a]) := ⟨Chg.refl, fun _ z => z.elim, fun b z => .inl (ex b z), fun n b e => by rw [List.getElem?_append_left (List.getElem?_eq_some_iff.mp e).1]; exact e⟩
  refine ⟨r.len1, r.len2, fun j d' o v' h1 h2 h3 => ?_, r.inj, by simp [r.lenA], fun n d' b h1 h2 => ?_, ?_, fun b hb q => ?_, fun b hb q => r.apart0 b hb (.inl q), r.pre.trans (List.prefix_append _ _), fun b hb => ?_, r.newO, fun b hb => r.trk b (ex b hb), r.chg⟩
  · have q := r.slot j d' o v' h1 h2 h3
    cases o with
    | none => exact q.imp id fun ⟨x, e, z⟩ => ⟨x, e, Rep.go g _ _ z⟩
    | some b => exact ⟨q.1, OwnOk.go g (fun z => z) q.2⟩
  · have hl := r.lenA
    by_cases hn : n < S.length
    · rw [List.getElem?_append_left hn] at h1
      rw [List.getElem?_append_left (by omega)] at h2
      exact (r.cell n d' b h1 h2).imp id fun z => OwnOk.go g (fun z => z) z
    · rw [List.getElem?_append_right (by omega)] at h1 h2
      have e1 := List.mem_singleton.mp (List.mem_of_getElem? h1)
      have e2 := List.mem_singleton.mp (List.mem_of_getElem? h2)
      subst e1 e2
      exact .inr (OwnOk.go g (fun z => z) h)
  · rw [List.nodup_append]
    exact ⟨r.nodA, by simp, fun x hx y hy e => hA (by rw [← List.mem_singleton.mp hy, ← e]; exact hx)⟩
  · rcases List.mem_append.mp q with q | q
    · exact r.apart b hb q
    · rw [List.mem_singleton.mp q] at hb
      exact ho hb
  · rcases List.mem_append.mp hb with q | q
    · exact r.newA b q
    · rw [List.mem_singleton.mp q]; exact .inr h0
end
end VS
namespace VS
open PySem PySem.Spec PyProof.Rows L2
variable [Tables]
def sDrop (f : DE) : DS := fun ρ S => sLift f ρ S fun _ S' => .nx ρ S'
def sRetN : DS := fun _ S => .ret .non S
def sKill (ks : List Nat) (f : DS) : DS := fun ρ S => match f ρ S with
  | .nx ρ' S' => .nx (killL ks ρ') S'
  | o => o
def sBad : DS := fun _ _ => .bad
section
variable {c : Sta} {Γ Γ' : List Bool} {z : Sit} {D : Ends}
variable {st : Stmt} {sts : List Stmt} {f g : DS} {Γ₁ Γ₂ : List Bool}
theorem vbl_nil : VBl c Γ Γ [] sNext := VBl.mk <| fun z hz D h => wpSs_of pss_nil (h.nx hz.own hz.rel Move.refl)
theorem vbl_cons (h1 : VSt c Γ Γ₁ st f) (h2 : VBl c Γ₁ Γ₂ sts g) : VBl c Γ Γ₂ (st :: sts) (sSeq f g) := by
  constructor
  intro z hz D h
  refine wpSs_of (pss_cons ps_wp pss_wp) (h1 z hz _ ?_)
  have e : sSeq f g z.ρ z.S = match f z.ρ z.S with | .nx ρ' S' => g ρ' S' | o => o := rfl
  rw [e] at h
  cases q : f z.ρ z.S with
  | nx ρ' S' =>
    rw [q] at h
    intro own' A' σ' H' eo r m
    exact h2 { z with own := own', ρ := ρ', S := S', A := A', σ := σ', H := H' } ⟨hz.g, hz.on, hz.tk, eo, hz.pu, r⟩ D (SPost.move (z := z) rfl rfl rfl m h)
  | ret d S' => rw [q] at h; exact h
  | exc x ρ' S' => rw [q] at h; exact h
  | bad => rw [q] at h; exact h
theorem vbl_one (h1 : VSt c Γ Γ₁ st f) : VBl c Γ Γ₁ [st] f := by
  constructor
  intro z hz D h
  exact wpSs_of (pss_one ps_wp) (h1 z hz D h)
theorem killL_len : ∀ (ks : List Nat) (ρ : List VS.D), (killL ks ρ).length = ρ.length
  | [], _ => rfl
  | i :: r, ρ => by unfold killL; rw [List.length_set, killL_len r ρ]
theorem isSome_set (own : Own) (i : Nat) : (own.set i none).map Option.isSome = (own.map Option.isSome).set i false := by rw [List.map_set]; rfl
theorem vs_freeze (i : Nat) (h1 : VSt c (Γ.set i false) Γ₁ st f) : VSt c Γ Γ₁ st f := by
  constructor
  intro z hz D h
  refine h1 { z with own := z.own.set i none } ⟨hz.g, hz.on, hz.tk, by rw [isSome_set, hz.own], hz.pu, hz.rel.freeze i⟩ D ?_
  have sub : ∀ a, some a ∈ z.own.set i none → some a ∈ z.own := fun a ha => (mem_set_own ha).elim (fun e => by cases e) id
  cases q : f z.ρ z.S with
  | nx ρ' S' =>
    rw [q] at h
    intro own' A' σ' H' eo r m
    exact h.nx eo r (m.sub sub)
  | ret d S' => rw [q] at h; exact h
  | exc x ρ' S' =>
    rw [q] at h
    intro cls oe A' σ' H' r m o
    exact h cls oe A' σ' H' r (m.sub sub) o
  | bad => rw [q] at h; exact h.elim
variable {a e : Expr} {fa fe : DE} {pos pos' : Pos}
theorem vs_if {t : Expr} {ft : DT} {as bs : List Stmt} (ht : VT c Γ t ft) (h1 : VBl c Γ Γ' as f) (h2 : VBl c Γ Γ' bs g) : VSt c Γ Γ' (.If t as bs pos) (sIf ft f g) := VSt.mk <| fun z hz D h =>
  wpS_of (ps_if pt_wp pss_wp pss_wp) (ht z hz _ (h.bind fun k k' S' A' H' s o h' => by
    obtain ⟨r, e⟩ := o
    subst e
    cases k with
    | true => rw [if_pos rfl] at h' ⊢; exact h1 (z.to S' A' H') (hz.to r) D (h'.step s)
    | false => rw [if_neg Bool.false_ne_true] at h' ⊢; exact h2 (z.to S' A' H') (hz.to r) D (h'.step s)))
theorem stored_ok {i : Nat} {x : Str} (h : stored c i x = true) (hz : z.Ok c Γ) : z.X.N[i]? = some x ∧ Loc z.X.env.scope x ∧ (z.X.fn x = true ∨ z.X.env.scope.names.lookup x = some .local) := by
  unfold stored at h
  simp only [Bool.and_eq_true, Bool.or_eq_true, decide_eq_true_eq, beq_iff_eq] at h
  rw [hz.on.N, hz.on.sc]
  refine ⟨h.1, ?_, ?_⟩
  · exact h.2.imp id fun q => q.1
  · exact h.2.elim .inr fun q => .inl (hz.on.cel q.2 x)
theorem vs_set {i : Nat} {x : Str} (hi : stored c i x = true) (he : VE c Γ false e fe) (hs : ∀ env n, swapsWith e (some (.Name x pos')) n env = pure false) : VSt c Γ (Γ.set i false) (.Assign [.Name x pos'] e pos) (sSet i fe) := VSt.mk <| fun z hz D h => by
  obtain ⟨h1, h2, h3⟩ := stored_ok hi hz
  refine wpS_of (ps_set (i := i) hz.on.nd h1 h2 pe_wp (hs _ _) h3) (he z hz _ (h.bind fun d v S' A' H' s o h' => ?_))
  exact h'.nx (own' := z.own.set i none) (by rw [isSome_set, hz.own]) (o.1.setVal (.inr (o.2.elim id fun q => by cases q.1))) ⟨s.pre, s.new, fun a ha => (mem_set_own ha).elim (fun e => by cases e) .inl, s.chg.mono fun _ h => .inl h.2⟩
theorem own_lt {i : Nat} (hz : z.Ok c Γ) (h : i < Γ.length) : i < z.own.length := by
  have e := congrArg List.length hz.own
  rw [List.length_map] at e
  omega
theorem vs_setF {i : Nat} {x : Str} (hi : stored c i x = true) (hl : i < Γ.length) (he : VF c Γ e fe) (hs : ∀ env n, swapsWith e (some (.Name x pos')) n env = pure false) : VSt c Γ (Γ.set i true) (.Assign [.Name x pos'] e pos) (sSet i fe) := VSt.mk <| fun z hz D h => by
  obtain ⟨h1, h2, h3⟩ := stored_ok hi hz
  refine wpS_of (ps_set (i := i) hz.on.nd h1 h2 pe_wp (hs _ _) h3) (he z hz _ (h.bind fun d v S' A' H' s o h' => ?_))
  obtain ⟨p, e1, n, na, r, ow⟩ := o
  subst e1
  have n0 : z.act.H0 p = none := by
    cases q : z.act.H0 p with
    | none => rfl
    | some o => exact absurd n (hz.rel.chg.dom p (by rw [q]; exact fun z => by cases z))
  have no : some p ∉ z.own := fun q => hz.rel.trk p (.inr (.inr q)) n
  have nO : ¬ z.act.O0 p := fun q => hz.rel.trk p (.inl q) n
  refine h'.nx (own' := z.own.set i (some p)) (by rw [List.map_set, hz.own]; rfl) (r.setOwn ow n0 na no nO (own_lt hz hl)) ⟨s.pre, s.new, fun b hb => ?_, s.chg.mono fun _ h => .inl h.2⟩
  rcases mem_set_own hb with e | hb
  · cases e; exact .inr n
  · exact .inl hb
theorem vs_ret (hf : c.fr = false) (he : VE c Γ false e fe) : VSt c Γ Γ' (.Return (some e) pos) (sRet fe) := VSt.mk <| fun z hz D h =>
  wpS_of (ps_ret pe_wp) (he z hz _ (h.bind fun d v S' A' H' s o h' => by
    refine h' v A' H' ?_
    rw [hf]
    refine ⟨o.1.leave, ?_⟩
    have q := o.2.elim id fun q => by cases q.1
    exact Rep.go (Mt := fun _ => False) ⟨Chg.refl, fun _ z => z.elim, fun b z => .inl (z.elim .inl fun z => z.elim (fun z => .inr (.inl z)) fun z => by cases z), fun _ _ e => e⟩ _ _ q))
end
end VS
namespace VS
open PySem PySem.Spec PyProof.Rows L2
variable [Tables]
section
variable {c : Sta} {Γ Γ' Γ₁ Γ₂ : List Bool} {z : Sit} {D : Ends} {a e : Expr} {fa fe : DE} {pos pos' : Pos} {f g : DS}
theorem vs_retF (hf : c.fr = true) (he : VF c Γ e fe) : VSt c Γ Γ' (.Return (some e) pos) (sRet fe) := VSt.mk <| fun z hz D h =>
  wpS_of (ps_ret pe_wp) (he z hz _ (h.bind fun d v S' A' H' s o h' => by
    obtain ⟨p, e1, n, na, r, ow⟩ := o
    have n0 : z.act.H0 p = none := by
      cases q : z.act.H0 p with
      | none => rfl
      | some o => exact absurd n (hz.rel.chg.dom p (by rw [q]; exact fun z => by cases z))
    refine h' v A' H' ?_
    rw [hf]
    refine ⟨p, e1, n0, na, r.leave, ?_⟩
    exact OwnOk.go (Mt := fun _ => False) ⟨Chg.refl, fun _ z => z.elim, fun b z => .inl (z.elim .inl fun z => z.elim (fun z => .inr (.inl z)) fun z => by cases z), fun _ _ e => e⟩ (fun z => z) ow))
theorem Rel.leaveOwn {act : Act} {own : Own} {ρ : List VS.D} {S : Store} {A : List Addr} {σ : L2.St} {H : Hp} (r : Rel act own ρ S A σ H) {a : Addr} (ha : some a ∈ own) : Rel (act.plus a) [] [] S A [] H := by
  have ex : ∀ b, Ex (act.plus a).O0 A [] b → Ex act.O0 A own b := fun b q => by
    rcases q with (q | q) | q | q
    · exact .inl q
    · rw [q]; exact .inr (.inr ha)
    · exact .inr (.inl q)
    · cases q
  have g : Go (fun _ => False) H H (Ex act.O0 A own) (Ex (act.plus a).O0 A []) A A := ⟨Chg.refl, fun _ z => z.elim, fun b z => .inl (ex b z), fun _ _ e => e⟩
  exact ⟨rfl, rfl, fun j d' o v' h1 _ _ => (by simp at h1), fun j k a h1 _ => (by simp at h1), r.lenA, fun n d' a h1 h2 => (r.cell n d' a h1 h2).imp id fun z => OwnOk.go g (fun z => z) z, r.nodA, fun a ha => (by cases ha), fun a ha => (by cases ha), r.pre, r.newA, fun a ha => (by cases ha), fun b hb => r.trk b (ex b hb), r.chg⟩
theorem vs_retOwn {i : Nat} {x : Str} (hf : c.fr = true) (hx : seen c i x = true) (hg : Γ[i]? = some true) : VSt c Γ Γ' (.Return (some (.Name x pos')) pos) (sRet (eVar i)) := VSt.mk <| fun z hz D h => by
  obtain ⟨hN, hv, hd, hcd⟩ := seen_ok hx
  refine wpS_of (ps_ret (pe_var (i := i) (by rw [hz.on.N]; exact hN) (by rw [hz.on.sc]; exact hv) hd hcd)) ?_
  obtain ⟨o, eo, io⟩ := own_get hz hg
  cases o with
  | none => cases io
  | some p =>
    have l1 := hz.rel.len1
    have l2 := hz.rel.len2
    have hi := (List.getElem?_eq_some_iff.mp eo).1
    have er : z.ρ[i]? = some z.ρ[i] := List.getElem?_eq_getElem (by omega)
    have es : z.σ[i]? = some z.σ[i] := List.getElem?_eq_getElem (by omega)
    have sl := hz.rel.slot i _ _ _ er eo es
    have mem : some p ∈ z.own := List.mem_of_getElem? eo
    have e : sRet (eVar i) z.ρ z.S = .ret z.ρ[i] z.S := by
      unfold sRet sLift eVar
      rw [er]
      cases q : z.ρ[i] <;> first | rfl | (have s2 := sl.2; rw [q] at s2; exact s2.elim)
    rw [e] at h
    refine ⟨.ref p, by rw [es, sl.1], ?_⟩
    refine h (.ref p) z.A z.H ?_
    rw [hf]
    refine ⟨p, rfl, hz.rel.newO p mem, hz.rel.apart p mem, hz.rel.leaveOwn mem, ?_⟩
    refine OwnOk.go (Mt := fun _ => False) ⟨Chg.refl, fun _ z => z.elim, fun b q => .inl ?_, fun _ _ e => e⟩ (fun z => z) sl.2
    rcases q with (q | q) | q | q
    · exact .inl q
    · rw [q]; exact .inr (.inr mem)
    · exact .inr (.inl q)
    · cases q
theorem pgs_wp {X : Cx} {ts : List Expr} : PGs X ts (wpGs X ts) := ⟨fun pins s _ _ _ us _ I r h => h pins s us I r⟩
theorem wpGs_of {X : Cx} {ts : List Expr} {t : TGs} (h : PGs X ts t) {vs σ H Q} (q : t vs σ H Q) : wpGs X ts vs σ H Q := fun pins s us I r => h.run pins s σ H vs us Q I r q
theorem sub_set {own : Own} {i : Nat} {a : Addr} (h : some a ∈ own.set i none) : some a ∈ own := (mem_set_own h).elim (fun e => by cases e) id
theorem sub_mem {own own' : Own} (h : ∀ (i : Nat) a, own'[i]? = some (some a) → own[i]? = some (some a)) : ∀ a, some a ∈ own' → some a ∈ own := fun a ha => by
  obtain ⟨i, hi, e⟩ := List.mem_iff_getElem.mp ha
  exact List.mem_of_getElem? (h i a (by rw [List.getElem?_eq_getElem hi, e]))
theorem vg_name {i : Nat} {x : Str} (hi : stored c i x = true) : VG c Γ (Γ.set i false) [i] (.Name x pos) (gN i) := VG.mk <| fun z hz d v r Q h => by
  obtain ⟨h1, h2, h3⟩ := stored_ok hi hz
  refine wpG_of (pg_name hz.on.nd h1 h2 h3) (h (z.own.set i none) _ (by rw [isSome_set, hz.own]) (hz.rel.setVal (.inr r)) (fun j a e => ?_) (by simp) fun j hj => ?_)
  · by_cases q : i = j
    · subst q
      have l := (List.getElem?_eq_some_iff.mp e).1
      rw [List.length_set] at l
      rw [List.getElem?_set_self l] at e
      cases e
    · rw [List.getElem?_set_ne q] at e; exact e
  · exact List.getElem?_set_ne (fun e => hj (by simp [e]))
theorem vgs_nil : VGs c Γ Γ [] [] gsNil := VGs.mk <| fun z hz ds vs r Q h => by
  cases ds with
  | nil =>
    rw [show vs = [] from r]
    exact wpGs_of pgs_nil ⟨rfl, h z.own z.σ hz.own hz.rel (fun _ _ q => q) rfl fun _ _ => rfl⟩
  | cons d ds => exact h.elim
theorem vgs_cons {i1 i2 : List Nat} {tg : Expr} {ts : List Expr} {g : DG} {gs : DGs} (h1 : VG c Γ Γ₁ i1 tg g) (h2 : VGs c Γ₁ Γ₂ i2 ts gs) (hs : ∀ env, (assignEach (tg :: ts) env).map (·.2) = assign tg env :: (assignEach ts env).map (·.2)) : VGs c Γ Γ₂ (i1 ++ i2) (tg :: ts) (gsCons g gs) := VGs.mk <| fun z hz ds vs r Q h => by
  cases ds with
  | nil => exact h.elim
  | cons d ds =>
    obtain ⟨v, vr, e, q1, q2⟩ := r
    refine wpGs_of (pgs_cons pg_wp pgs_wp (hs _)) ⟨v, vr, e, h1 z hz d v q1 _ ?_⟩
    have e0 : gsCons g gs (d :: ds) z.ρ = match g d z.ρ with | some ρ' => gs ds ρ' | none => none := rfl
    rw [e0] at h
    cases q : g d z.ρ with
    | none => rw [q] at h; exact h.elim
    | some ρ' =>
      rw [q] at h
      change GPost z Γ₂ (i1 ++ i2) (gs ds ρ') Q at h
      intro own' σ' eo r' sub sl ss
      refine h2 { z with own := own', ρ := ρ', σ := σ' } ⟨hz.g, hz.on, hz.tk, eo, hz.pu, r'⟩ ds vr ?_ Q ?_
      · exact RepL.go (Mt := fun _ => False) ⟨Chg.refl, fun _ z => z.elim, fun b q => .inl (q.imp id fun q => q.imp id (sub_mem sub b)), fun _ _ e => e⟩ _ _ q2
      · show GPost { z with own := own', ρ := ρ', σ := σ' } Γ₂ i2 (gs ds ρ') Q
        cases q3 : gs ds ρ' with
        | none => rw [q3] at h; exact h
        | some ρ2 =>
          rw [q3] at h
          intro own2 σ2 eo2 r2 sub2 sl2 ss2
          exact h own2 σ2 eo2 r2 (fun i a e => sub i a (sub2 i a e)) (sl2.trans sl) fun j hj => (ss2 j fun q => hj (List.mem_append_right _ q)).trans (ss j fun q => hj (List.mem_append_left _ q))
theorem vg_tup {is : List Nat} {ts : List Expr} {k n : Nat} {gs : DGs} (h1 : VGs c Γ Γ₁ is ts gs) (hl : ∀ ds ρ ρ', gs ds ρ = some ρ' → ds.length = n) (hn : ∀ env, (assignEach ts env).length = n) (hst : ∀ env, (assignEach ts env).findIdx? (·.1) = none) : VG c Γ Γ₁ is (.Tuple ts k pos) (gT gs) := VG.mk <| fun z hz d v r Q h => by
  cases d with
  | tup ds =>
    obtain ⟨a, vs, e, r1, l⟩ := r
    refine wpG_of (pg_tup hz.on.calm pgs_wp (hn _) (hst _)) ⟨a, vs, e, .of r1, ?_, h1 z hz ds vs l Q h⟩
    have h' : GPost z Γ₁ is (gs ds z.ρ) Q := h
    cases q : gs ds z.ρ with
    | none => rw [q] at h'; exact h'.elim
    | some ρ' => rw [l.len]; exact hl _ _ _ q
  | _ => exact h.elim
theorem gl_nil : ∀ ds ρ ρ', gsNil ds ρ = some ρ' → ds.length = 0 := fun ds ρ ρ' h => by
  cases ds with
  | nil => rfl
  | cons _ _ => cases h
theorem gl_cons {g : DG} {gs : DGs} {n : Nat} (hl : ∀ ds ρ ρ', gs ds ρ = some ρ' → ds.length = n) : ∀ ds ρ ρ', gsCons g gs ds ρ = some ρ' → ds.length = n + 1 := fun ds ρ ρ' h => by
  cases ds with
  | nil => cases h
  | cons d ds =>
    change (match g d ρ with | some ρ' => gs ds ρ' | none => none) = some ρ' at h
    cases q : g d ρ with
    | none => rw [q] at h; cases h
    | some ρ2 => rw [q] at h; rw [List.length_cons, hl _ _ _ h]
theorem vs_asg {is : List Nat} {tg : Expr} {g : DG} (he : VE c Γ false e fe) (hg : VG c Γ Γ₁ is tg g) (hs : ∀ env n, swapsWithSole [tg] e n env = pure false) (hw : ∀ env, swappedStores [tg] e env = pure none) (h1 : ∀ env, (assignEach [tg] env).map (·.2) = [assign tg env]) : VSt c Γ Γ₁ (.Assign [tg] e pos) (sAsg fe g) := VSt.mk <| fun z hz D h =>
  wpS_of (ps_asg pe_wp pg_wp (hs _ _) (hw _) (h1 _)) (he z hz _ (h.bind fun d v S' A' H' s o h' => by
    refine hg (z.to S' A' H') (hz.to o.1) d v (o.2.elim id fun q => by cases q.1) _ ?_
    show GPost (z.to S' A' H') Γ₁ is (g d z.ρ) D.nx
    cases q : g d z.ρ with
    | none => rw [q] at h'; exact h'.elim
    | some ρ' =>
      rw [q] at h'
      intro own' σ' eo r sub _ _
      exact h'.nx eo r ⟨s.pre, s.new, fun b hb => .inl (sub_mem sub b hb), s.chg.mono fun _ h => .inl h.2⟩))
theorem walk_lst {Mt : Addr → Prop} {K : PySem.W.Frag} {H : Hp} {O : Addr → Prop} {A : List Addr} {a : Addr} {vs : List V} {ds : List VS.D} (r : SqL K H a vs) (n : ∀ H', Chg Mt H H' → SqL K H' a vs) (l : RepL H O A ds vs) : WalkV Mt H O A (Itl K a) ds := by
  have w := walk_list (K := K) (a := a) (xs := vs)
  refine ⟨fun i H' hi q => w.goes i H' (by rw [l.len]; exact hi) (n H' q), fun H' q => by rw [← l.len]; exact w.stops H' (n H' q), fun i d H' x H'' hi q y => ?_⟩
  obtain ⟨e1, e2⟩ := w.yields i H' x H'' (by rw [l.len]; exact (List.getElem?_eq_some_iff.mp hi).1) (n H' q) y
  subst e1
  refine ⟨Chg.refl, fun O' A' g => ?_⟩
  obtain ⟨v, ev, rv⟩ := l.get hi
  rw [e2] at ev
  cases ev
  exact Rep.go g d _ rv
theorem walk_tupV {Mt : Addr → Prop} {K : PySem.W.Frag} {H : Hp} {O : Addr → Prop} {A : List Addr} {a : Addr} {vs : List V} {ds : List VS.D} (r : H a = some (.tup vs)) (l : RepL H O A ds vs) : WalkV Mt H O A (Itt K a) ds := by
  have n : ∀ H', Chg Mt H H' → SqT K H' a vs := fun H' q => .of (q.imm a _ r fun z => z)
  have w := walk_tup (K := K) (a := a) (xs := vs)
  refine ⟨fun i H' hi q => w.goes i H' (by rw [l.len]; exact hi) (n H' q), fun H' q => by rw [← l.len]; exact w.stops H' (n H' q), fun i d H' x H'' hi q y => ?_⟩
  obtain ⟨e1, e2⟩ := w.yields i H' x H'' (by rw [l.len]; exact (List.getElem?_eq_some_iff.mp hi).1) (n H' q) y
  subst e1
  refine ⟨Chg.refl, fun O' A' g => ?_⟩
  obtain ⟨v, ev, rv⟩ := l.get hi
  rw [e2] at ev
  cases ev
  exact Rep.go g d _ rv
theorem walk_tixV {Mt : Addr → Prop} {K : PySem.W.Frag} {H : Hp} {O : Addr → Prop} {A : List Addr} {a : Addr} {ob : Obj} {vs : List V} {ds : List VS.D} (r : H a = some (.frz ob (.tup vs))) (l : RepL H O A ds vs) : WalkV Mt H O A (Itt K a) ds := by
  have n : ∀ H', Chg Mt H H' → SqT K H' a vs := fun H' q => .inl (.inr ⟨ob, q.imm a _ r fun z => z⟩)
  have w := walk_tup (K := K) (a := a) (xs := vs)
  refine ⟨fun i H' hi q => w.goes i H' (by rw [l.len]; exact hi) (n H' q), fun H' q => by rw [← l.len]; exact w.stops H' (n H' q), fun i d H' x H'' hi q y => ?_⟩
  obtain ⟨e1, e2⟩ := w.yields i H' x H'' (by rw [l.len]; exact (List.getElem?_eq_some_iff.mp hi).1) (n H' q) y
  subst e1
  refine ⟨Chg.refl, fun O' A' g => ?_⟩
  obtain ⟨v, ev, rv⟩ := l.get hi
  rw [e2] at ev
  cases ev
  exact Rep.go g d _ rv
theorem walk_strV {Mt : Addr → Prop} {H : Hp} {O : Addr → Prop} {A : List Addr} {s : List Nat} (ok : StrOk s) : WalkV Mt H O A (Its ⟨s.toArray⟩) (s.map fun x => .str [x]) := by
  have w := walk_str (z := ⟨s.toArray⟩)
  have hs : (⟨s.toArray⟩ : Str).cps.size = (s.map fun x => VS.D.str [x]).length := by simp
  refine ⟨fun i H' hi q => w.goes i H' (by rw [hs]; exact hi) trivial, fun H' q => by rw [← hs]; exact w.stops H' trivial, fun i d H' x H'' hi q y => ?_⟩
  obtain ⟨e1, cp, e2, e3⟩ := w.yields i H' x H'' (by rw [hs]; exact (List.getElem?_eq_some_iff.mp hi).1) trivial y
  subst e1
  refine ⟨Chg.refl, fun O' A' g => ?_⟩
  have e2 : s[i]? = some cp := by simpa using e2
  rw [List.getElem?_map, e2] at hi
  cases hi
  exact ⟨by rw [e3], by show 1 ≤ 16777216; decide, fun y hy => (by rw [List.mem_singleton.mp hy]; exact ok.2 cp (List.mem_of_getElem? e2))⟩
theorem Chg.sql {Mt : Addr → Prop} {H H' : Hp} {K : PySem.W.Frag} {a : Addr} {vs : List V} (q : Chg Mt H H') (r : H a = some (.lst vs)) (n : ¬ Mt a) : SqL K H' a vs := .of (q.keep a _ r n)
theorem vi_of {br : Bool} {tg : Expr} (he : VE c Γ br e fe) : VI c Γ br tg e (iOf fe) := by
  constructor
  intro z hz R h
  -- the value's kind is met first
  have key : ∀ (Rd : V → Hp → Prop), (∀ d v S' A' H', Step z.ep z.A z.H A' H' → okE z br d S' v A' H' → (match iterB d with | some ds => ∀ J, WalkV (fun b => (b ∈ A' ∧ (br = false ∨ z.ep = false)) ∨ (br = false ∧ some b ∈ z.own)) H' (Ex z.act.O0 A' z.own) A' J ds → R J H' | none => False) → Rd v H') → Post z (okE z br) (fe z.ρ z.S) Rd := fun Rd k => by
    cases q : fe z.ρ z.S with
    | ok d S' =>
      have e0 : iOf fe z.ρ z.S = dIter d S' := by show M.bind (fe z.ρ) dIter z.S = _; unfold M.bind; rw [q]
      rw [e0] at h
      intro v H' A' s o
      refine k d v S' A' H' s o ?_
      have h2 : IPost z br (dIter d S') R := h
      unfold dIter at h2
      cases e : iterB d with
      | none => rw [e] at h2; exact h2.elim
      | some ds => rw [e] at h2; exact fun J w => h2 J A' H' s o.1 w
    | exc x S' =>
      have e0 : iOf fe z.ρ z.S = .exc x S' := by show M.bind (fe z.ρ) dIter z.S = _; unfold M.bind; rw [q]
      rw [e0] at h; exact h
    | bad =>
      have e0 : iOf fe z.ρ z.S = .bad := by show M.bind (fe z.ρ) dIter z.S = _; unfold M.bind; rw [q]
      rw [e0] at h; exact h.elim
  intro pins s I
  refine thn (he z hz (fun v H' => ∀ pins s1 u, Inv z.X pins z.σ H' s1 → RelV v u → wpAny (model z.X.prog z.X.w) z.X.A (pyIter u) (PIE z.X pins z.σ tg R) z.X.xe s1) (key _ fun d v S' A' H' st o h2 pins s1 u I1 r1 => ?_) pins s I) fun u s1 ⟨v, H', I1, r1, q⟩ => q pins s1 u I1 r1
  have nM : ∀ a, ¬ Ex z.act.O0 A' z.own a → ¬ ((a ∈ A' ∧ (br = false ∨ z.ep = false)) ∨ (br = false ∧ some a ∈ z.own)) := fun a n q => n (q.elim (fun q => .inr (.inl q.1)) fun q => .inr (.inr q.2))
  cases d with
  | lst ds =>
    have h3 : ∀ J, WalkV (fun b => (b ∈ A' ∧ (br = false ∨ z.ep = false)) ∨ (br = false ∧ some b ∈ z.own)) H' (Ex z.act.O0 A' z.own) A' J ds → R J H' := h2
    have w : ∃ a vs, v = .ref a ∧ H' a = some (.lst vs) ∧ RepL H' (Ex z.act.O0 A' z.own) A' ds vs ∧ ¬ ((a ∈ A' ∧ (br = false ∨ z.ep = false)) ∨ (br = false ∧ some a ∈ z.own)) := by
      rcases o.2 with ⟨a, vs, e, r, n, l⟩ | ⟨hb, a, e, m, vs, r, l⟩
      · exact ⟨a, vs, e, r, l, nM a n⟩
      · exact ⟨a, vs, e, r, l, fun q => q.elim (fun q => m.elim (fun m => o.1.apart a m q.1) fun m => q.2.elim (fun q => by rw [hb] at q; cases q) fun q => by rw [m.1] at q; cases q) fun q => by rw [hb] at q; cases q.1⟩
    obtain ⟨a, vs, e, r, l, n⟩ := w
    subst e
    obtain rfl : u = Value.ref a := r1
    obtain ⟨its, rv, p, _⟩ := I1.list (.of r)
    exact wpAny_pyIter_list p.isList (pi_one (tk := s1.toks) I1 _ (turn_list a _) ⟨_, Heap.get?_push_size _ rfl, rfl, rfl⟩ (h3 _ (walk_lst (K := z.X.K) (.of r) (fun H2 q => q.sql r n) l)))
  | scr ds =>
    have h3 : ∀ J, WalkV (fun b => (b ∈ A' ∧ (br = false ∨ z.ep = false)) ∨ (br = false ∧ some b ∈ z.own)) H' (Ex z.act.O0 A' z.own) A' J ds → R J H' := h2
    have w : ∃ a o vs, v = .ref a ∧ H' a = some (.frz o (.lst vs)) ∧ RepL H' (Ex z.act.O0 A' z.own) A' ds vs := by
      rcases o.2 with q | ⟨_, a, _, _, q⟩
      · exact q
      · exact q.elim
    obtain ⟨a, ob, vs, e, r, l⟩ := w
    subst e
    obtain rfl : u = Value.ref a := r1
    obtain ⟨its, rv, p, _⟩ := I1.list (show SqL z.X.K H' a vs from .inl (.inr ⟨ob, r⟩))
    exact wpAny_pyIter_list p.isList (pi_one (tk := s1.toks) I1 _ (turn_list a _) ⟨_, Heap.get?_push_size _ rfl, rfl, rfl⟩ (h3 _ (walk_lst (K := z.X.K) (.inl (.inr ⟨ob, r⟩)) (fun H2 q => .inl (.inr ⟨ob, q.imm a _ r fun x => x⟩)) l)))
  | tup ds =>
    have h3 : ∀ J, WalkV (fun b => (b ∈ A' ∧ (br = false ∨ z.ep = false)) ∨ (br = false ∧ some b ∈ z.own)) H' (Ex z.act.O0 A' z.own) A' J ds → R J H' := h2
    obtain ⟨a, vs, e, r, l⟩ := o.2.tup
    subst e
    obtain rfl : u = Value.ref a := r1
    obtain ⟨its, rv, p, _⟩ := I1.tuple (.of r)
    exact wpAny_pyIter_tuple (show s1.heap.IsTuple a its.toArray from p) (pi_one (tk := s1.toks) I1 _ (turn_tuple a _) ⟨_, Heap.get?_push_size _ rfl, rfl, rfl⟩ (h3 _ (walk_tupV (K := z.X.K) r l)))
  | tix ds =>
    have h3 : ∀ J, WalkV (fun b => (b ∈ A' ∧ (br = false ∨ z.ep = false)) ∨ (br = false ∧ some b ∈ z.own)) H' (Ex z.act.O0 A' z.own) A' J ds → R J H' := h2
    obtain ⟨a, ob, vs, e, r, _, l⟩ := o.2.tix
    subst e
    obtain rfl : u = Value.ref a := r1
    obtain ⟨its, rv, p, _⟩ := I1.tuple (show SqT z.X.K H' a vs from .inl (.inr ⟨ob, r⟩))
    exact wpAny_pyIter_tuple (show s1.heap.IsTuple a its.toArray from p) (pi_one (tk := s1.toks) I1 _ (turn_tuple a _) ⟨_, Heap.get?_push_size _ rfl, rfl, rfl⟩ (h3 _ (walk_tixV (K := z.X.K) r l)))
  | str s =>
    have h3 : ∀ J, WalkV (fun b => (b ∈ A' ∧ (br = false ∨ z.ep = false)) ∨ (br = false ∧ some b ∈ z.own)) H' (Ex z.act.O0 A' z.own) A' J (s.map fun x => .str [x]) → R J H' := h2
    obtain ⟨e, ok⟩ := o.2.str
    subst e
    obtain ⟨t, rfl⟩ := r1
    have w := h3 _ (walk_strV ok)
    cases hw : s.toArray.all (· < 128) with
    | false => exact wpAny_pyIter_wide hw (pi_one (tk := s1.toks) I1 _ (turn_str _ _ t "str_iterator" (.inr rfl)) ⟨_, Heap.get?_push_size _ rfl, rfl, rfl⟩ w)
    | true => exact wpAny_pyIter_ascii hw (pi_one (tk := s1.toks) I1 _ (turn_str _ _ t "str_ascii_iterator" (.inl rfl)) ⟨_, Heap.get?_push_size _ rfl, rfl, rfl⟩ w)
  | _ => exact h2.elim
theorem walk_rng {Mt : Addr → Prop} {H : Hp} {O : Addr → Prop} {A : List Addr} {lo : Int} {n : Nat} : WalkV Mt H O A (Itr lo n) ((List.range n).map fun k => .int (lo + (k : Nat))) := by
  have hs : ((List.range n).map fun k => VS.D.int (lo + (k : Nat))).length = n := by simp
  have w := walk_range (lo := lo) (n := n)
  refine ⟨fun i H' hi q => w.goes i H' (by rw [hs] at hi; exact hi) trivial, fun H' q => by rw [hs]; exact w.stops H' trivial, fun i d H' x H'' hi q y => ?_⟩
  have hi2 : i < n := by rw [← hs]; exact (List.getElem?_eq_some_iff.mp hi).1
  obtain ⟨e1, e2⟩ := w.yields i H' x H'' hi2 trivial y
  subst e1
  refine ⟨Chg.refl, fun O' A' g => ?_⟩
  rw [List.getElem?_map, List.getElem?_range hi2] at hi
  cases hi
  exact e2
theorem vi_range1 {br : Bool} {tg : Expr} {p : Pos} (hg : glob c "range" = true) (hm : c.g.mg "range" = none) (he : VE c Γ true e fe) (hs : ∀ env, starEach [e] env = [(false, eval e env)]) : VI c Γ br tg (.Call (.Name "range" p) [e] [] pos) (iRange1 fe) := VI.mk <| fun z hz R h =>
  wpI_of (pi_range1 (hz.gl hg) (by rw [hz.on.mg]; exact hm) (pa_cons pe_wp pa_nil (hs _)) (hs _)) (he z hz _ (IPost.bind h fun d v S' A' H' s o h' => by
    cases d with
    | int j =>
      change IPost (z.to S' A' H') br (rngD 0 j S') R at h'
      unfold rngD at h'
      split at h'
      · rename_i hc
        have w := h' (Itr 0 (j - 0).toNat) A' H' Step.refl o.1 walk_rng
        rw [Int.sub_zero] at w
        exact ⟨j, by rw [o.2.int], hc.2.2.1, hc.2.2.2, w⟩
      · exact h'.elim
    | _ => exact h'.elim))
theorem vi_range2 {br : Bool} {tg : Expr} {p : Pos} (hg : glob c "range" = true) (hm : c.g.mg "range" = none) (he : VE c Γ true e fe) (ha : VE c Γ true a fa) (hs : ∀ env, starEach [e, a] env = [(false, eval e env), (false, eval a env)]) (hs2 : ∀ env, starEach [a] env = [(false, eval a env)]) : VI c Γ br tg (.Call (.Name "range" p) [e, a] [] pos) (iRange2 fe fa) := VI.mk <| fun z hz R h =>
  wpI_of (pi_range2 (hz.gl hg) (by rw [hz.on.mg]; exact hm) (pa_cons pe_wp (pa_cons pe_wp pa_nil (hs2 _)) (by rw [hs, hs2])) (hs _) (hs2 _)) (he z hz _ (IPost.bind h fun d v S1 A1 H1 s1 o1 h1 => ha (z.to S1 A1 H1) (hz.to o1.1) _ (IPost.bind h1 fun d' v' S' A' H' s o h' => by
    cases d with
    | int i =>
      cases d' with
      | int j =>
        change IPost (z.to S' A' H') br (rngD i j S') R at h'
        unfold rngD at h'
        split at h'
        · rename_i hc
          have w := h' (Itr i (j - i).toNat) A' H' Step.refl o.1 walk_rng
          exact ⟨i, j, by rw [o1.2.int, o.2.int], hc, w⟩
        · exact h'.elim
      | _ => exact h'.elim
    | _ => exact h'.elim)))
theorem vs_for {is : List Nat} {tg iter : Expr} {body : List Stmt} {fi : DI} {g : DG} (hi : VI c Γ false tg iter fi) (hg : VG c Γ Γ₁ is tg g) (hb : VBl c Γ₁ Γ body f) (hs : ∀ env x, foldedSetIterable iter env x = pure x) : VSt c Γ Γ (.For tg iter body [] pos) (sFor fi g f) := by
  constructor
  intro z hz D h
  refine wpS_of (ps_for hz.on.pass hz.on.calm pi_wp pg_wp pss_wp (hs _)) (hi z hz _ ?_)
  unfold sFor sLift at h
  cases q : fi z.ρ z.S with
  | bad => rw [q] at h; exact h.elim
  | exc x S' =>
    rw [q] at h
    intro cls oe H' A' s r o
    have r2 := r.freezeAll
    rw [map_none (k := z.σ) r.len2] at r2
    exact h cls oe A' z.σ H' r2 (Step.move (own := z.own) s).noOwn (o.less fun b q => q.elim .inl fun q => q.elim (fun q => .inr (.inl q)) fun q => by cases q)
  | ok ds S1 =>
    rw [q] at h
    intro J A1 H1 s1 r1 w
    -- the state at turn i
    refine ⟨fun i m σ H => m = ds.length - i ∧ i ≤ ds.length ∧ ∃ own ρ S A, own.map Option.isSome = Γ ∧ Rel z.act own ρ S A σ H ∧ Move A1 z.own H1 A own H ∧ SPost z c Γ (forD g f (ds.drop i) ρ S) D, ⟨ds.length, by simp, Nat.zero_le _, z.own, z.ρ, S1, A1, hz.own, r1, Move.refl, h⟩, ?_⟩
    rintro i m σ H ⟨rfl, hi, own, ρ, S, A, eo, r, mv, p⟩
    have mall : Move z.A z.own z.H A own H := (Step.move s1).trans mv
    by_cases hlt : i < ds.length
    · refine .inr ⟨w.go i H hlt (mv.go (O0 := z.act.O0)).chg, fun σ' H' => i + 1 ≤ ds.length ∧ ∃ own ρ S A, own.map Option.isSome = Γ ∧ Rel z.act own ρ S A σ' H' ∧ Move A1 z.own H1 A own H' ∧ SPost z c Γ (forD g f (ds.drop (i + 1)) ρ S) D, fun σ' H' ⟨h1, h2⟩ => ⟨ds.length - (i + 1), by omega, rfl, h1, h2⟩, fun x H' y => ?_⟩
      have hd : ds[i]? = some ds[i] := List.getElem?_eq_getElem hlt
      obtain ⟨cg, rep⟩ := w.yld i ds[i] H x H' hd (mv.go (O0 := z.act.O0)).chg y
      have rx : Rep H' (Ex z.act.O0 A own) A ds[i] x := rep _ _ mv.go
      have r' := r.grow cg
      have mv' : Move A1 z.own H1 A own H' := ⟨mv.pre, mv.newA, mv.newO, mv.chg.trans cg fun _ q => q.elim⟩
      rw [List.drop_eq_getElem_cons hlt] at p
      have e1 : forD g f (ds[i] :: ds.drop (i + 1)) ρ S = match g ds[i] ρ with | some ρ1 => (match f ρ1 S with | .nx ρ' S' => forD g f (ds.drop (i + 1)) ρ' S' | o => o) | none => .bad := rfl
      rw [e1] at p
      refine hg { z with own := own, ρ := ρ, S := S, A := A, σ := σ, H := H' } ⟨hz.g, hz.on, hz.tk, eo, hz.pu, r'⟩ ds[i] x rx _ ?_
      show GPost _ Γ₁ is (g ds[i] ρ) _
      cases qg : g ds[i] ρ with
      | none => rw [qg] at p; exact p.elim
      | some ρ1 =>
        rw [qg] at p
        change SPost z c Γ (match f ρ1 S with | .nx ρ' S' => forD g f (ds.drop (i + 1)) ρ' S' | o => o) D at p
        intro own1 σ1 eo1 rg sub _ _
        refine hb { z with own := own1, ρ := ρ1, S := S, A := A, σ := σ1, H := H' } ⟨hz.g, hz.on, hz.tk, eo1, hz.pu, rg⟩ _ ?_
        have mv1 : Move A1 z.own H1 A own1 H' := ⟨mv'.pre, mv'.newA, fun a ha => mv'.newO a (sub_mem sub a ha), mv'.chg⟩
        show SPost _ c Γ (f ρ1 S) _
        cases qf : f ρ1 S with
        | nx ρ2 S2 =>
          rw [qf] at p
          intro own2 A2 σ2 H2 eo2 r2 m2
          exact ⟨hlt, own2, ρ2, S2, A2, eo2, r2, mv1.trans m2, p⟩
        | ret d S2 => rw [qf] at p; exact p
        | exc x S2 ρ2 =>
          rw [qf] at p
          intro cls oe A' σ' H2 r2 m2 o
          exact p cls oe A' σ' H2 r2 (((Step.move s1).trans mv1).trans m2) o
        | bad => rw [qf] at p; exact p
    · have e : i = ds.length := by omega
      subst e
      rw [List.drop_length] at p
      exact .inl ⟨w.stop H (mv.go (O0 := z.act.O0)).chg, p.nx eo r mall⟩
end
end VS
namespace VS
open PySem PySem.Spec PyProof.Rows L2
variable [Tables]
section
variable {c : Sta} {Γ Γ' Γ₁ Γ₂ : List Bool} {z : Sit} {D : Ends} {a e : Expr} {fa fe : DE} {pos pos' : Pos} {f g : DS}
theorem vs_while (n : Nat) {t : Expr} {body : List Stmt} {ft : DT} (ht : VT c Γ t ft) (hb : VBl c Γ Γ body f) : VSt c Γ Γ (.While t body [] pos) (sWhile n ft f) := by
  constructor
  intro z hz D h
  refine wpS_of (ps_while hz.on.pass pt_wp pss_wp) ?_
  refine ⟨fun m σ H => ∃ own ρ S A, own.map Option.isSome = Γ ∧ Rel z.act own ρ S A σ H ∧ SPost { z with own := own, ρ := ρ, S := S, A := A, σ := σ, H := H } c Γ (whileD ft f m ρ S) D, ⟨n, z.own, z.ρ, z.S, z.A, hz.own, hz.rel, h⟩, ?_⟩
  rintro m σ H ⟨own, ρ, S, A, eo, r, p⟩
  cases m with
  | zero => exact p.elim
  | succ m =>
    have hz' : Sit.Ok { z with own := own, ρ := ρ, S := S, A := A, σ := σ, H := H } c Γ := ⟨hz.g, hz.on, hz.tk, eo, hz.pu, r⟩
    refine ht { z with own := own, ρ := ρ, S := S, A := A, σ := σ, H := H } hz' _ (SPost.bind (k := fun k S' => if k = true then (match f ρ S' with | .nx ρ' S2 => whileD ft f m ρ' S2 | o => o) else .nx ρ S') p fun k k' S' A' H' s o p2 => ?_)
    obtain ⟨r1, e1⟩ := o
    subst e1
    cases k with
    | false =>
      rw [if_neg Bool.false_ne_true] at p2 ⊢
      exact p2.nx eo r1 (Step.move s)
    | true =>
      rw [if_pos rfl] at p2 ⊢
      refine ⟨fun σ' H' => ∃ own ρ S A, own.map Option.isSome = Γ ∧ Rel z.act own ρ S A σ' H' ∧ SPost { z with own := own, ρ := ρ, S := S, A := A, σ := σ', H := H' } c Γ (whileD ft f m ρ S) D, fun σ' H' q => ⟨m, Nat.lt_succ_self m, q⟩, ?_⟩
      refine hb { z with own := own, ρ := ρ, S := S', A := A', σ := σ, H := H' } ⟨hz.g, hz.on, hz.tk, eo, hz.pu, r1⟩ _ ?_
      show SPost _ c Γ (f ρ S') _
      cases qf : f ρ S' with
      | nx ρ2 S2 =>
        rw [qf] at p2
        intro own2 A2 σ2 H2 eo2 r2 m2
        exact ⟨own2, ρ2, S2, A2, eo2, r2, SPost.move (z := { z with own := own, ρ := ρ, S := S, A := A, σ := σ, H := H }) rfl rfl rfl ((Step.move s).trans m2) p2⟩
      | ret d S2 => rw [qf] at p2; exact p2
      | exc x ρ2 S2 =>
        rw [qf] at p2
        intro cls oe A2 σ2 H2 r2 m2 o
        exact p2 cls oe A2 σ2 H2 r2 ((Step.move s).trans m2) o
      | bad => rw [qf] at p2; exact p2
section
variable {act : Act} {own : Own} {ρ : List VS.D} {S S' : Store} {A A' : List Addr} {σ : L2.St} {H H' : Hp} {pu : Bool}
theorem Rel.after {O' O1 : Addr → Prop} (r : Rel act own ρ S A σ H) (q : Rel ⟨pu, H, O', A⟩ [] [] S' A' [] H') (hp : act.pu = true → pu = true) (h1 : ∀ b, O1 b ∨ some b ∈ own → O' b) (h2 : ∀ b, O1 b → act.O0 b ∨ H b = none) (h3 : ∀ b, some b ∈ own → ¬ O1 b) :
    Rel ⟨act.pu, act.H0, O1, act.A0⟩ own ρ S' A' σ H' ∧ Step act.pu A H A' H' := by
  have cg : Chg (fun b => act.pu = false ∧ b ∈ A) H H' := q.chg.mono fun b h => by
    refine ⟨?_, h.2⟩
    cases e : act.pu with
    | false => rfl
    | true =>
      have h1 : pu = false := h.1
      rw [hp e] at h1
      cases h1
  have st : Step act.pu A H A' H' := ⟨q.pre, q.newA, cg⟩
  have ex : ∀ b, Ex O1 A' own b → Ex O' A' [] b := fun b q => by
    rcases q with q | q | q
    · exact .inl (h1 b (.inl q))
    · exact .inr (.inl q)
    · exact .inl (h1 b (.inr q))
  have oo : ∀ b, Ex O1 A' own b → Ex act.O0 A own b ∨ H b = none := fun b z => by
    rcases z with z | z | z
    · exact (h2 b z).imp .inl id
    · exact (q.newA b z).imp (fun z => .inr (.inl z)) id
    · exact .inl (.inr (.inr z))
  have g : Go (fun b => act.pu = false ∧ b ∈ A) H H' (Ex act.O0 A own) (Ex O1 A' own) A A' := ⟨cg, fun b z => .inr (.inl z.2), oo, fun n b e => pre_get q.pre e⟩
  have g2 : Go (fun _ => False) H' H' (Ex O' A' []) (Ex O1 A' own) A' A' := ⟨Chg.refl, fun _ z => z.elim, fun b z => .inl (ex b z), fun _ _ e => e⟩
  refine ⟨⟨r.len1, r.len2, fun j d' o v' h1 h2 h3 => ?_, r.inj, q.lenA, fun n d' b h1 h2 => (q.cell n d' b h1 h2).imp id fun z => OwnOk.go g2 (fun z => z) z, q.nodA, fun b hb z => ?_, h3, r.pre.trans q.pre, fun b hb => ?_, r.newO, fun b hb => q.trk b (ex b hb), ?_⟩, st⟩
  · have q := r.slot j d' o v' h1 h2 h3
    cases o with
    | none => exact q.imp id fun ⟨x, e, z⟩ => ⟨x, e, Rep.go g _ _ z⟩
    | some b => exact ⟨q.1, OwnOk.go g (fun z => r.apart b (List.mem_of_getElem? h2) z.2) q.2⟩
  · rcases q.newA b z with z | z
    · exact r.apart b hb z
    · exact r.trk b (.inr (.inr hb)) z
  · rcases q.newA b hb with z | z
    · exact r.newA b z
    · right
      cases e : act.H0 b with
      | none => rfl
      | some o => exact absurd z (r.chg.dom b (by rw [e]; exact fun z => by cases z))
  · exact r.chg.trans cg fun x hx => (r.newA x hx.2).imp (fun z => ⟨hx.1, z⟩) id
end
theorem Step.ofRel {act' : Act} {A A' : List Addr} {H H' : Hp} {S' : Store} {e pu : Bool} {O' : Addr → Prop} (q : Rel ⟨pu, H, O', A⟩ [] [] S' A' [] H') (he : e = true → pu = true) : Step e A H A' H' := ⟨q.pre, q.newA, q.chg.mono fun b h => ⟨(by
    cases e with
    | false => rfl
    | true => (have h1 : pu = false := h.1; rw [he rfl] at h1; cases h1)), h.2⟩⟩
theorem call_post {ps : List Str} {fr pu : Bool} {fn : List VS.D → M VS.D} (hp : c.ep = true → pu = true) (hz : z.Ok c Γ) {ds : List VS.D} {vs : List V} (hl : ds.length = ps.length) (l : RepL z.H z.O z.A ds vs) {Q : VK} {ok : VS.D → Store → V → List Addr → Hp → Prop} (h : Post z ok (fn ds z.S) Q)
    (k : ∀ d S' v A' H', okR ⟨pu, z.H, outO z.act z.own, z.A⟩ fr d S' v A' H' → Step z.ep z.A z.H A' H' → ok d S' v A' H') : spV c.g ps.length fr pu fn vs z.H Q (fun cls oe H' => z.W cls oe z.σ H') := by
  have r := hz.rel
  have ex : ∀ b, Ex (outO z.act z.own) z.A [] b → z.O b := fun b q => by
    rcases q with (q | q) | q | q
    · exact .inl q
    · exact .inr (.inr q)
    · exact .inr (.inl q)
    · cases q
  refine ⟨r.chg.tab hz.pu.2.2.2, ds, z.S, z.A, outO z.act z.own, hl, r.entry, RepL.go (Mt := fun _ => False) ⟨Chg.refl, fun _ z => z.elim, fun b z => .inl (ex b z), fun _ _ e => e⟩ _ _ l, ?_⟩
  have hp' : z.act.pu = true → pu = true := fun q => hp (by rw [← hz.pu.2.1]; exact hz.pu.2.2.1 q)
  have hep : z.ep = true → pu = true := fun q => hp (by rw [← hz.pu.2.1]; exact q)
  cases q : fn ds z.S with
  | ok d S' =>
    rw [q] at h
    intro v A' H' o
    have st : Step z.ep z.A z.H A' H' := by
      cases fr with
      | false => exact Step.ofRel (act' := z.act) o.1 hep
      | true =>
        obtain ⟨a, _, n, _, o, _⟩ := o
        exact Step.ofRel (act' := z.act) (O' := (Act.plus ⟨pu, z.H, outO z.act z.own, z.A⟩ a).O0) o hep
    exact h v H' A' st (k d S' v A' H' o st)
  | exc x S' =>
    rw [q] at h
    intro cls oe A' H' o ek
    obtain ⟨r', _⟩ := r.after o hp' (O1 := z.act.O0) (fun _ z => z) (fun b z => .inl z) r.apart0
    refine h cls oe H' A' (Step.ofRel (act' := z.act) o hep) r' ?_
    rw [hz.g]
    exact ek.less fun b q => by
      rcases q with q | q | q
      · exact .inl (.inl q)
      · exact .inr (.inl q)
      · exact .inl (.inr q)
  | bad => rw [q] at h; exact h.elim
theorem okE_of_okR {pu : Bool} {br : Bool} (hp : c.ep = true → pu = true) (hz : z.Ok c Γ) {d : VS.D} {S' : Store} {v : V} {A' : List Addr} {H' : Hp} (o : okR ⟨pu, z.H, outO z.act z.own, z.A⟩ false d S' v A' H') : okE z br d S' v A' H' := by
  have hp' : z.act.pu = true → pu = true := fun q => hp (by rw [← hz.pu.2.1]; exact hz.pu.2.2.1 q)
  refine ⟨(hz.rel.after o.1 hp' (O1 := z.act.O0) (fun _ z => z) (fun b z => .inl z) hz.rel.apart0).1, .inl ?_⟩
  refine Rep.go (Mt := fun _ => False) ⟨Chg.refl, fun _ z => z.elim, fun b q => .inl ?_, fun _ _ e => e⟩ _ _ o.2
  rcases q with q | q | q
  · exact .inl (.inl q)
  · exact .inr (.inl q)
  · exact .inl (.inr q)
theorem okF_of_okR {pu : Bool} (hp : c.ep = true → pu = true) (hz : z.Ok c Γ) {d : VS.D} {S' : Store} {v : V} {A' : List Addr} {H' : Hp} (o : okR ⟨pu, z.H, outO z.act z.own, z.A⟩ true d S' v A' H') : okF z d S' v A' H' := by
  have hp' : z.act.pu = true → pu = true := fun q => hp (by rw [← hz.pu.2.1]; exact hz.pu.2.2.1 q)
  obtain ⟨p, e, n, na, r, ow⟩ := o
  change z.H p = none at n
  refine ⟨p, e, n, na, (hz.rel.after (O' := (Act.plus ⟨pu, z.H, outO z.act z.own, z.A⟩ p).O0) r hp' (O1 := (z.act.plus p).O0) (fun b q => ?_) (fun b q => ?_) (fun b hb q => ?_)).1, ?_⟩
  · rcases q with (q | q) | q
    · exact .inl (.inl q)
    · exact .inr q
    · exact .inl (.inr q)
  · exact q.imp id fun q => (by rw [q]; exact n)
  · rcases q with q | q
    · exact hz.rel.apart0 b hb q
    · exact hz.rel.trk b (.inr (.inr hb)) (by rw [q]; exact n)
  · refine OwnOk.go (Mt := fun _ => False) ⟨Chg.refl, fun _ z => z.elim, fun b q => .inl ?_, fun _ _ e => e⟩ (fun z => z) ow
    rcases q with (q | q) | q | q
    · exact .inl (.inl (.inl q))
    · exact .inl (.inr q)
    · exact .inr (.inl q)
    · exact .inl (.inl (.inr q))
section
variable {x : Str} {ps : List Str} {pu : Bool} {fn : List VS.D → M VS.D} {k : Nat} {es : List Expr} {fs : DA} {p : Pos}
theorem call_any {fr : Bool} (F : VFn c.g k x ps fr pu fn) (hk : k ≤ c.k) (hx : glob c x = true) (hp : c.ep = true → pu = true) (ha : VA c Γ false (e :: es) fs) (hl : ∀ ρ S ds S', fs ρ S = .ok ds S' → ds.length = ps.length)
    (he : ∀ env, starEach (e :: es) env = (false, eval e env) :: starEach es env) (hpl : ∀ env, (backTo pos (starEach es env)).any (·.1) = false) (hz : z.Ok c Γ) {Q : VK} {ok : VS.D → Store → V → List Addr → Hp → Prop} (h : Post z ok (eCall fn fs z.ρ z.S) Q)
    (kk : ∀ S1 A1 H1, (z.to S1 A1 H1).Ok c Γ → Step z.ep z.A z.H A1 H1 → ∀ d S' v A' H', okR ⟨pu, H1, outO z.act z.own, A1⟩ fr d S' v A' H' → Step z.ep A1 H1 A' H' → ok d S' v A' H') : wpE z.X (.Call (.Name x p) (e :: es) [] pos) z.σ z.H Q := by
  obtain ⟨f, fd, F, hm, kp, hb⟩ := F.ex
  have on := hz.on
  refine wpE_of (pe_callSD (CX := L2.CX z.X.prog z.X.w) (E := fun σ cls oe H' => z.W cls oe σ H') (sp := spV c.g ps.length fr pu fn) (ps := ps) (fd := fd) (dvs := []) (ds := []) (k := k) (by rw [on.prog, on.w, on.K, on.mg, on.base]; exact F) (on.room.mono hk) (hz.gl hx) (by rw [on.mg]; exact hm) (by rw [on.K]; exact kp) (by rw [on.K]; exact hb) .nil (fun σ => passAt hz.tk σ) pa_wp (glob_ok hx).2.1 (he _) (hpl _)) ?_
  have e0 : eCall fn fs z.ρ z.S = (fs z.ρ >>= fn) z.S := rfl
  rw [e0] at h
  have len : Post z (fun ds S' vs A' H' => okA z false ds S' vs A' H' ∧ ds.length = ps.length) (fs z.ρ z.S) (fun vs H1 => spV c.g ps.length fr pu fn (vs ++ []) H1 Q fun cls oe H' => z.W cls oe z.σ H') := Post.bind h fun ds vs S1 A1 H1 s1 o1 h1 => by
    rw [List.append_nil]
    have hz1 := hz.to o1.1.1
    exact call_post (z := z.to S1 A1 H1) hp hz1 o1.2 (repL_of o1.1.2) h1 fun d S' v A' H' o st => kk S1 A1 H1 hz1 s1 d S' v A' H' o st
  refine ha z hz _ ?_
  cases q : fs z.ρ z.S with
  | ok ds S1 => rw [q] at len; exact fun vs H1 A1 s o => len vs H1 A1 s ⟨o, hl _ _ _ _ q⟩
  | exc x S1 => rw [q] at len; exact len
  | bad => rw [q] at len; exact len
theorem ve_call {br : Bool} (F : VFn c.g k x ps false pu fn) (hk : k ≤ c.k) (hx : glob c x = true) (hp : c.ep = true → pu = true) (ha : VA c Γ false (e :: es) fs) (hl : ∀ ρ S ds S', fs ρ S = .ok ds S' → ds.length = ps.length)
    (he : ∀ env, starEach (e :: es) env = (false, eval e env) :: starEach es env) (hpl : ∀ env, (backTo pos (starEach es env)).any (·.1) = false) : VE c Γ br (.Call (.Name x p) (e :: es) [] pos) (eCall fn fs) := VE.mk <| fun z hz Q h =>
  call_any F hk hx hp ha hl he hpl hz h fun S1 A1 H1 hz1 s1 d S' v A' H' o st => okE_of_okR (z := z.to S1 A1 H1) hp hz1 o
theorem vf_call (F : VFn c.g k x ps true pu fn) (hk : k ≤ c.k) (hx : glob c x = true) (hp : c.ep = true → pu = true) (ha : VA c Γ false (e :: es) fs) (hl : ∀ ρ S ds S', fs ρ S = .ok ds S' → ds.length = ps.length)
    (he : ∀ env, starEach (e :: es) env = (false, eval e env) :: starEach es env) (hpl : ∀ env, (backTo pos (starEach es env)).any (·.1) = false) : VF c Γ (.Call (.Name x p) (e :: es) [] pos) (eCall fn fs) := VF.mk <| fun z hz Q h =>
  call_any F hk hx hp ha hl he hpl hz h fun S1 A1 H1 hz1 s1 d S' v A' H' o st => okF.back s1 st (okF_of_okR (z := z.to S1 A1 H1) hp hz1 o)
theorem al_nil : ∀ ρ S ds S', aNil ρ S = .ok ds S' → ds.length = 0 := fun ρ S ds S' h => by cases h; rfl
theorem al_cons {n : Nat} (hl : ∀ ρ S ds S', fs ρ S = .ok ds S' → ds.length = n) : ∀ ρ S ds S', aCons fe fs ρ S = .ok ds S' → ds.length = n + 1 := fun ρ S ds S' h => by
  change M.bind (fe ρ) (fun d => M.bind (fs ρ) fun ds S => .ok (d :: ds) S) S = .ok ds S' at h
  unfold M.bind at h
  cases q : fe ρ S with
  | ok d S1 =>
    rw [q] at h
    dsimp only at h
    cases q2 : fs ρ S1 with
    | ok ds2 S2 => rw [q2] at h; cases h; rw [List.length_cons, hl _ _ _ _ q2]
    | exc x S2 => rw [q2] at h; cases h
    | bad => rw [q2] at h; cases h
  | exc x S1 => rw [q] at h; cases h
  | bad => rw [q] at h; cases h
end
end
end VS
namespace VS
open PySem PySem.Spec PyProof.Rows L2
variable [Tables]
def Sta.blk (c : Sta) (scope : Scope) : Sta := { c with sc := relS scope c.sc, cel := false, lam := none }
section
variable {c : Sta} {Γ Γ' Γ₁ Γ₂ : List Bool} {z : Sit}
theorem vc_nil : VC c Γ [] tYesD := VC.mk <| fun z hz Q h => wpC_of pts_nil (h true z.H z.A Step.refl ⟨hz.rel, rfl⟩)
theorem vc_one {e : Expr} {f : DT} (h : VT c Γ e f) : VC c Γ [e] f := VC.mk <| fun z hz Q p => wpC_of (pts_one pt_wp) (h z hz Q p)
theorem wipe_get (σ : L2.St) : ∀ (vs : List Nat) (i : Nat), (wipe σ vs)[i]? = if i ∈ vs then σ[i]?.map (fun _ => none) else σ[i]?
  | [], i => by simp [wipe]
  | v :: vs, i => by
    unfold wipe
    by_cases e : v = i
    · subst e
      have ih := wipe_get σ vs v
      by_cases hl : v < σ.length
      · rw [List.getElem?_set_self (by rw [wipe_length]; exact hl)]
        simp [List.getElem?_eq_getElem hl]
      · rw [List.getElem?_eq_none (by rw [List.length_set, wipe_length]; omega)]
        simp [List.getElem?_eq_none (show σ.length ≤ v by omega)]
    · rw [List.getElem?_set_ne e, wipe_get σ vs i]
      by_cases hi : i ∈ vs
      · rw [if_pos hi, if_pos (List.mem_cons_of_mem _ hi)]
      · rw [if_neg hi, if_neg]
        intro q
        rcases List.mem_cons.mp q with q | q
        · exact e q.symm
        · exact hi q
theorem killL_get (ρ : List D) : ∀ (vs : List Nat) (i : Nat), (killL vs ρ)[i]? = if i ∈ vs then ρ[i]?.map (fun _ => .und) else ρ[i]?
  | [], i => by simp [killL]
  | v :: vs, i => by
    unfold killL
    by_cases e : v = i
    · subst e
      by_cases hl : v < ρ.length
      · rw [List.getElem?_set_self (by rw [killL_len]; exact hl)]
        simp [List.getElem?_eq_getElem hl]
      · rw [List.getElem?_eq_none (by rw [List.length_set, killL_len]; omega)]
        simp [List.getElem?_eq_none (show ρ.length ≤ v by omega)]
    · rw [List.getElem?_set_ne e, killL_get ρ vs i]
      by_cases hi : i ∈ vs
      · rw [if_pos hi, if_pos (List.mem_cons_of_mem _ hi)]
      · rw [if_neg hi, if_neg]
        intro q
        rcases List.mem_cons.mp q with q | q
        · exact e q.symm
        · exact hi q
theorem Rel.wiped {act : Act} {own : Own} {ρ : List D} {S : Store} {A : List Addr} {σ : L2.St} {H : Hp} (r : Rel act own ρ S A σ H) (vs : List Nat) (hv : ∀ i ∈ vs, own[i]? = some none) : Rel act own (killL vs ρ) S A (wipe σ vs) H := by
  refine ⟨by rw [killL_len, wipe_length]; exact r.len1, by rw [wipe_length]; exact r.len2, fun i d o v h1 h2 h3 => ?_, r.inj, r.lenA, r.cell, r.nodA, r.apart, r.apart0, r.pre, r.newA, r.newO, r.trk, r.chg⟩
  rw [killL_get] at h1
  rw [wipe_get] at h3
  by_cases hi : i ∈ vs
  · rw [if_pos hi] at h1
    rw [hv i hi] at h2
    cases h2
    cases q : ρ[i]? with
    | none => rw [q] at h1; cases h1
    | some d' => rw [q] at h1; cases h1; exact .inl rfl
  · rw [if_neg hi] at h1 h3
    exact r.slot i d o v h1 h2 h3
theorem Rel.later {act : Act} {own : Own} {ρ ρ' : List D} {S S' : Store} {A A' : List Addr} {σ σ' : L2.St} {H H' : Hp} {pu : Bool} (r : Rel act own ρ S A σ H) (q : Rel act own ρ' S' A' σ' H') (s : Step pu A H A' H') : Rel act own ρ S' A' σ H' := by
  refine ⟨r.len1, r.len2, fun i d o v h1 h2 h3 => ?_, r.inj, q.lenA, q.cell, q.nodA, q.apart, q.apart0, q.pre, q.newA, q.newO, q.trk, q.chg⟩
  have w := r.slot i d o v h1 h2 h3
  cases o with
  | none => exact w.imp id fun ⟨x, e, y⟩ => ⟨x, e, Rep.go s.go _ _ y⟩
  | some b => exact ⟨w.1, OwnOk.go s.go (fun y => r.apart b (List.mem_of_getElem? h2) y.2) w.2⟩
theorem Rel.other {act : Act} {own : Own} {ρ : List D} {S : Store} {A : List Addr} {σ : L2.St} {H : Hp} (r : Rel act own ρ S A σ H) {p : Addr} {u : HO} (h0 : act.O0 p) (hA : p ∉ A) (ho : some p ∉ own) (hm : Mut (H p)) (hn : act.H0 p = none) : Rel act own ρ S A σ (upd H p u) := by
  have cg : Chg (fun b => b = p) H (upd H p u) := chg_upd rfl hm
  have g : Go (fun b => b = p) H (upd H p u) (Ex act.O0 A own) (Ex act.O0 A own) A A := ⟨cg, fun b e => by rw [e]; exact .inl h0, fun b z => .inl z, fun _ _ e => e⟩
  refine ⟨r.len1, r.len2, fun i d o v h1 h2 h3 => ?_, r.inj, r.lenA, fun n d b h1 h2 => ?_, r.nodA, r.apart, r.apart0, r.pre, r.newA, r.newO, fun b hb => cg.dom b (r.trk b hb), r.chg.trans cg fun x e => .inr (by rw [e]; exact hn)⟩
  · have w := r.slot i d o v h1 h2 h3
    cases o with
    | none => exact w.imp id fun ⟨x, e, y⟩ => ⟨x, e, Rep.go g _ _ y⟩
    | some b => exact ⟨w.1, OwnOk.go g (fun y => ho (by rw [← show b = p from y]; exact List.mem_of_getElem? h2)) w.2⟩
  · exact (r.cell n d b h1 h2).imp id fun y => OwnOk.go g (fun e => hA (by rw [← show b = p from e]; exact List.mem_of_getElem? h2)) y
theorem own_eq {own own' : Own} (e : own'.map Option.isSome = own.map Option.isSome) (sub : ∀ (i : Nat) a, own'[i]? = some (some a) → own[i]? = some (some a)) : own' = own := by
  have hl : own'.length = own.length := by have := congrArg List.length e; simpa using this
  apply List.ext_getElem hl
  intro i h1 h2
  have e2 := congrArg (fun l : List Bool => l[i]?) e
  simp only [List.getElem?_map, List.getElem?_eq_getElem h1, List.getElem?_eq_getElem h2, Option.map_some, Option.some.injEq] at e2
  cases q : own'[i] with
  | none =>
    rw [q] at e2
    cases q2 : own[i] with
    | none => rfl
    | some b => rw [q2] at e2; cases e2
  | some a =>
    have s := sub i a (by rw [List.getElem?_eq_getElem h1, q])
    rw [List.getElem?_eq_getElem h2] at s
    exact (Option.some.inj s).symm
theorem bind_run {α β : Type} (m : M α) (k : α → M β) (S : Store) : (m >>= k) S = match m S with | .ok a S' => k a S' | .exc x S' => .exc x S' | .bad => .bad := rfl
theorem noX_bind {α β : Type} {m : M α} {k : α → M β} {S : Store} : (noX m >>= k) S = match m S with | .ok a S' => k a S' | .exc _ _ => .bad | .bad => .bad := by
  show M.bind (noX m) k S = _
  unfold M.bind noX
  cases m S <;> rfl
def CFin (z : Sit) (p : Addr) (Q : VK) (r : Res (List D)) : Prop := match r with
  | .ok xs S' => ∀ H' A', Step z.ep z.A z.H A' H' → okF z (.lst xs) S' (.ref p) A' H' → Q (.ref p) H'
  | _ => False
def CInv (z : Sit) (A1 : List Addr) (H1 : Hp) (p : Addr) (Q : VK) (g : DG) (t : DT) (f : DE) (ρw : List D) (ds : List D) (H : Hp) : Prop :=
  ∃ acc S A vs, Rel (z.act.plus p) z.own z.ρ S A z.σ H ∧ Step z.ep A1 H1 A H ∧ H p = some (.lst vs) ∧ RepL H (Ex (z.act.plus p).O0 A z.own) A acc vs ∧ p ∉ A ∧ CFin z p Q (compD g t f ds acc ρw S)
theorem comp_core {is vs : List Nat} {tg iter elt : Expr} {ifs : List Expr} {scope : Scope} {fi : DI} {g : DG} {t : DT} {f : DE} (hv : vs.all (fun i => Γ[i]? == some false) = true) (his : is.all (fun i => decide (i ∈ vs)) = true) (hi : VI c Γ true tg iter fi) (hg : VG (c.blk scope) Γ Γ is tg g) (ht : VC (c.blk scope) Γ ifs t) (he : VE (c.blk scope) Γ false elt f)
    (hz : z.Ok c Γ) {Q : VK} (h : Post z (okF z) (eComp vs fi g t f z.ρ z.S) Q) :
    tLc (wpI z.X tg iter) (fun v σ H R => ∀ s H0 C cl fp, wpG (z.X.blk s H0 scope (compEnvC scope cl C z.X.env) fp) tg v σ H R) (fun σ H R => ∀ s H0 C cl fp, wpC (z.X.blk s H0 scope (compEnvC scope cl C z.X.env) fp) ifs σ H R)
      (fun σ H R => ∀ s H0 C cl fp, wpE (z.X.blk s H0 scope (compEnvC scope cl C z.X.env) fp) elt σ H R) vs z.σ z.H Q := by
  unfold eComp at h
  rw [bind_run] at h
  refine hi z hz _ ?_
  cases qi : fi z.ρ z.S with
  | bad => rw [qi] at h; exact h.elim
  | exc x S' => rw [qi] at h; exact h
  | ok ds S1 =>
    rw [qi] at h
    intro J A1 H1 s1 r1 w p hp
    have pO : ¬ Ex z.act.O0 A1 z.own p := fun q => r1.trk p q hp
    have p0 : z.act.H0 p = none := by
      cases q : z.act.H0 p with
      | none => rfl
      | some o => exact absurd hp (r1.chg.dom p (by rw [q]; exact fun x => by cases x))
    have po : some p ∉ z.own := fun q => pO (.inr (.inr q))
    have pz : z.H p = none := by
      cases q : z.H p with
      | none => rfl
      | some o => exact absurd hp (s1.chg.dom p (by rw [q]; exact fun x => by cases x))
    have start : CInv z A1 H1 p Q g t f (killL vs z.ρ) ds (upd H1 p (.lst [])) := by
      refine ⟨[], S1, A1, [], r1.plus hp (chg_new hp) (by rw [upd_same]; exact fun x => by cases x), step_new hp, upd_same, rfl, fun q => pO (.inr (.inl q)), ?_⟩
      dsimp only at h
      rw [bind_run] at h
      cases q : compD g t f ds [] (killL vs z.ρ) S1 with
      | ok xs S' => rw [q] at h; exact fun H' A' s o => h (.ref p) H' A' s o
      | exc x S' =>
        exfalso
        have nx : ∀ (ds acc : List D) (S : Store) x S', compD g t f ds acc (killL vs z.ρ) S ≠ .exc x S' := by
          intro ds
          induction ds with
          | nil => intro acc S x S' e; cases e
          | cons d ds ih =>
            intro acc S x S' e
            unfold compD at e
            cases qg : g d (killL vs z.ρ) with
            | none => rw [qg] at e; cases e
            | some ρ1 =>
              rw [qg] at e
              dsimp only at e
              rw [noX_bind] at e
              cases qt : t ρ1 S with
              | ok k S2 =>
                rw [qt] at e
                cases k with
                | true =>
                  change (noX (f ρ1) >>= fun y => if acc.length < sz then compD g t f ds (acc ++ [y]) (killL vs z.ρ) else fun _ => .bad) S2 = _ at e
                  rw [noX_bind] at e
                  cases qf : f ρ1 S2 with
                  | ok y S3 =>
                    rw [qf] at e
                    dsimp only at e
                    split at e
                    · exact ih _ _ _ _ e
                    · cases e
                  | exc _ _ => rw [qf] at e; cases e
                  | bad => rw [qf] at e; cases e
                | false => exact ih _ _ _ _ e
              | exc _ _ => rw [qt] at e; cases e
              | bad => rw [qt] at e; cases e
        exact nx _ _ _ _ _ q
      | bad => rw [q] at h; exact h.elim
    have hov : ∀ i ∈ vs, z.own[i]? = some none := fun i hi => by
      have q := List.all_eq_true.mp hv i hi
      obtain ⟨o, e1, e2⟩ := own_get hz (beq_iff_eq.mp q)
      rw [e1]
      cases o with
      | none => rfl
      | some _ => cases e2
    refine ⟨fun i m H => m = ds.length - i ∧ i ≤ ds.length ∧ CInv z A1 H1 p Q g t f (killL vs z.ρ) (ds.drop i) H, ⟨ds.length, by simp, Nat.zero_le _, start⟩, ?_⟩
    rintro i m H ⟨rfl, hi, acc, S, A, us, r, st, eD, l, pA, fin⟩
    have ck : Chg (fun b => (b ∈ A1 ∧ (true = false ∨ z.ep = false)) ∨ (true = false ∧ some b ∈ z.own)) H1 H := st.chg.mono fun b q => .inl ⟨q.2, .inr q.1⟩
    by_cases hlt : i < ds.length
    · refine .inr ⟨w.go i H hlt ck, fun H' => i + 1 ≤ ds.length ∧ CInv z A1 H1 p Q g t f (killL vs z.ρ) (ds.drop (i + 1)) H', fun H' ⟨q1, q2⟩ => ⟨ds.length - (i + 1), by omega, rfl, q1, q2⟩, fun x H' y s H0 C cl fp => ?_⟩
      have hd : ds[i]? = some ds[i] := List.getElem?_eq_getElem hlt
      obtain ⟨cg, rep⟩ := w.yld i ds[i] H x H' hd ck y
      have r2 : Rel (z.act.plus p) z.own z.ρ S A z.σ H' := r.grow cg
      have rx : Rep H' (Ex (z.act.plus p).O0 A z.own) A ds[i] x := rep _ _ ⟨ck, fun b q => q.elim (fun q => .inr (.inl q.1)) (fun q => (by cases q.1)), fun b q => by
        rcases q with (q | q) | q | q
        · exact .inl (.inl q)
        · rw [q]; exact .inr hp
        · exact (st.new b q).imp (fun q => .inr (.inl q)) id
        · exact .inl (.inr (.inr q)), fun _ _ e => pre_get st.pre e⟩
      rw [List.drop_eq_getElem_cons hlt] at fin
      unfold compD at fin
      -- the block
      have onb : On (c.blk scope) (z.X.blk s H0 scope (compEnvC scope cl C z.X.env) fp) := ⟨hz.on.prog, hz.on.w, hz.on.K, hz.on.mg, hz.on.base, hz.on.N, (by show relS scope z.X.env.scope = relS scope c.sc; rw [hz.on.sc]), hz.on.nd, hz.on.room, hz.on.calm, fun q => (by cases q), PassesOwn.never, fun q => (by cases q), fun q => (by cases q), fun _ q => (by cases q)⟩
      have tkb : Takes (z.X.blk s H0 scope (compEnvC scope cl C z.X.env) fp) (fun _ _ _ _ => False) := fun _ _ ⟨_, _, _, _, _, _, _, _, _, _, _, _, _, _, _, _, q⟩ => q.elim
      have hb : Sit.Ok ⟨z.g, z.X.blk s H0 scope (compEnvC scope cl C z.X.env) fp, fun _ _ _ _ => False, z.act.plus p, z.own, killL vs z.ρ, S, A, wipe z.σ vs, H', z.ep⟩ (c.blk scope) Γ := ⟨hz.g, onb, tkb, hz.own, hz.pu, r2.wiped vs hov⟩
      refine hg _ hb ds[i] x rx _ ?_
      show GPost _ Γ is (g ds[i] (killL vs z.ρ)) _
      cases qg : g ds[i] (killL vs z.ρ) with
      | none => rw [qg] at fin; exact fin.elim
      | some ρ1 =>
        rw [qg] at fin
        dsimp only at fin
        rw [noX_bind] at fin
        intro own' σ' eo r' sub sl ss
        have eown : own' = z.own := own_eq (eo.trans hz.own.symm) sub
        subst eown
        have hw : wipe σ' vs = wipe z.σ vs := by
          apply List.ext_getElem?
          intro j
          rw [wipe_get, wipe_get]
          by_cases hj : j ∈ vs
          · rw [if_pos hj, if_pos hj]
            have sl2 : σ'.length = z.σ.length := sl.trans (wipe_length z.σ vs)
            by_cases hj2 : j < z.σ.length
            · rw [List.getElem?_eq_getElem hj2, List.getElem?_eq_getElem (by omega)]; rfl
            · rw [List.getElem?_eq_none (by omega), List.getElem?_eq_none (by omega)]
          · rw [if_neg hj, if_neg hj]
            have q := ss j fun q => hj (by have := List.all_eq_true.mp his j q; simpa using this)
            rw [q]
            show (wipe z.σ vs)[j]? = _
            rw [wipe_get, if_neg hj]
        refine ⟨hw, fun s' H0' C' cl' fp' => ?_⟩
        have hb1 : ∀ s' H0' C' cl' fp' S' A' H'', Rel (z.act.plus p) z.own ρ1 S' A' σ' H'' → Sit.Ok ⟨z.g, z.X.blk s' H0' scope (compEnvC scope cl' C' z.X.env) fp', fun _ _ _ _ => False, z.act.plus p, z.own, ρ1, S', A', σ', H'', z.ep⟩ (c.blk scope) Γ := fun s' H0' C' cl' fp' S' A' H'' rr =>
          ⟨hz.g, ⟨hz.on.prog, hz.on.w, hz.on.K, hz.on.mg, hz.on.base, hz.on.N, (by show relS scope z.X.env.scope = relS scope c.sc; rw [hz.on.sc]), hz.on.nd, hz.on.room, hz.on.calm, fun q => (by cases q), PassesOwn.never, fun q => (by cases q), fun q => (by cases q), fun _ q => (by cases q)⟩, fun _ _ ⟨_, _, _, _, _, _, _, _, _, _, _, _, _, _, _, _, q⟩ => q.elim, hz.own, hz.pu, rr⟩
        refine ht _ (hb1 s' H0' C' cl' fp' S A H' r') _ ?_
        show Post _ _ (t ρ1 S) _
        cases qt : t ρ1 S with
        | bad => rw [qt] at fin; exact fin.elim
        | exc _ _ => rw [qt] at fin; exact fin.elim
        | ok k S3 =>
          rw [qt] at fin
          intro b H3 A3 s3 o3
          obtain ⟨r3, eb⟩ := o3
          subst eb
          have s3' : Step z.ep A H' A3 H3 := s3
          have stH' : Step z.ep A1 H1 A H' := st.trans (step_chg (cg.mono fun _ q => q.elim))
          have st3 : Step z.ep A1 H1 A3 H3 := stH'.trans s3'
          have eD' : H' p = some (.lst us) := cg.keep p _ eD fun q => q
          have l' : RepL H' (Ex (z.act.plus p).O0 A z.own) A acc us := RepL.go (Mt := fun _ => False) ⟨cg, fun _ q => q.elim, fun b q => .inl q, fun _ _ e => e⟩ _ _ l
          have eD3 : H3 p = some (.lst us) := s3'.chg.keep p _ eD' fun q => pA q.2
          have l3 : RepL H3 (Ex (z.act.plus p).O0 A3 z.own) A3 acc us := RepL.go s3'.go _ _ l'
          have pA3 : p ∉ A3 := fun q => (s3'.new p q).elim pA fun q => by rw [eD'] at q; cases q
          have rb3 : Rel (z.act.plus p) z.own z.ρ S3 A3 z.σ H3 := r2.later r3 s3'
          cases k with
          | false =>
            rw [if_neg Bool.false_ne_true]
            exact ⟨hlt, acc, S3, A3, us, rb3, st3, eD3, l3, pA3, fin⟩
          | true =>
            rw [if_pos rfl]
            intro s4 H04 C4 cl4 fp4
            dsimp only at fin
            rw [if_pos rfl, noX_bind] at fin
            refine he _ (hb1 s4 H04 C4 cl4 fp4 S3 A3 H3 r3) _ ?_
            show Post _ _ (f ρ1 S3) _
            cases qf : f ρ1 S3 with
            | bad => rw [qf] at fin; exact fin.elim
            | exc _ _ => rw [qf] at fin; exact fin.elim
            | ok yd S4 =>
              rw [qf] at fin
              dsimp only at fin
              split at fin
              · rename_i hlen
                intro yv H4 A4 s4 o4
                obtain ⟨r4, y4⟩ := o4
                have s4' : Step z.ep A3 H3 A4 H4 := s4
                have ry : Rep H4 (Ex (z.act.plus p).O0 A4 z.own) A4 yd yv := y4.elim id fun q => by cases q.1
                have eD4 : H4 p = some (.lst us) := s4'.chg.keep p _ eD3 fun q => pA3 q.2
                have l4 : RepL H4 (Ex (z.act.plus p).O0 A4 z.own) A4 acc us := RepL.go s4'.go _ _ l3
                have pA4 : p ∉ A4 := fun q => (s4'.new p q).elim pA3 fun q => by rw [eD3] at q; cases q
                have rb4 : Rel (z.act.plus p) z.own z.ρ S4 A4 z.σ H4 := rb3.later r4 s4'
                have hm : Mut (H4 p) := by rw [eD4]; trivial
                have lall := l4.append (RepL.cons ry .nil)
                have cgp : Chg (fun b => b = p) H4 (upd H4 p (.lst (us ++ [yv]))) := chg_upd rfl hm
                refine ⟨us, eD4, (by rw [l4.len, ← sz_line]; exact hlen), hlt, acc ++ [yd], S4, A4, us ++ [yv], rb4.other (.inr rfl) pA4 po hm p0, ⟨(st3.trans s4').pre, (st3.trans s4').new, (st3.trans s4').chg.trans cgp fun b q => .inr (by rw [show b = p from q]; exact hp)⟩, upd_same, ?_, pA4, fin⟩
                exact RepL.go (Mt := fun b => b = p) ⟨cgp, fun b q => (by rw [q]; exact .inl (.inr rfl)), fun b q => .inl q, fun _ _ e => e⟩ _ _ lall
              · exact fin.elim
    · have e : i = ds.length := by omega
      subst e
      refine .inl ⟨w.stop H ck, ?_⟩
      rw [List.drop_length] at fin
      refine fin H A (s1.trans st) ⟨p, rfl, pz, pA, r, us, eD, l⟩
theorem vf_comp {is vs : List Nat} {own : List (Str × Nat)} {tg iter elt : Expr} {ifs : List Expr} {scope : Scope} {fi : DI} {g : DG} {t : DT} {f : DE} {pos : Pos} (hbl : blkC c.N c.sc scope own = true) (hvs : own.map (·.2) = vs) (hv : vs.all (fun i => Γ[i]? == some false) = true) (his : is.all (fun i => decide (i ∈ vs)) = true)
    (hi : VI c Γ true tg iter fi) (hg : VG (c.blk scope) Γ Γ is tg g) (ht : VC (c.blk scope) Γ ifs t) (he : VE (c.blk scope) Γ false elt f) (hs : ∀ env x, foldedSetIterable iter env x = pure x) : VF c Γ (.ListComp elt [⟨tg, iter, ifs, 0⟩] scope pos) (eComp vs fi g t f) := VF.mk <| fun z hz Q h => by
  subst hvs
  exact wpE_of (pe_lc hz.on.calm hz.on.nd pi_wp (blkOk_by (by rw [hz.on.N, hz.on.sc]; exact hbl)) (fun s H C cl fp => ⟨fun pins s' σ H' v u R I r q => q s H C cl fp pins s' u I r⟩) (fun s H C cl fp => ⟨fun pins s' σ H' R I q => q s H C cl fp pins s' I⟩) (fun s H C cl fp => ⟨fun pins s' σ H' R I q => q s H C cl fp pins s' I⟩) (hs _)) (comp_core hv his hi hg ht he hz h)
theorem vs_setC {i : Nat} {y : Str} {py spos : Pos} {is vs : List Nat} {own : List (Str × Nat)} {tg iter elt : Expr} {ifs : List Expr} {scope : Scope} {fi : DI} {g : DG} {t : DT} {f : DE} {pos : Pos} (hy : c.N[i]? = some y) (hyl : c.sc.names.lookup y = some .local) (hl : i < Γ.length) (hk : c.sc.kind = .function) (hline : (py.line == pos.line) = true) (hown : (scope.names.any fun (n, k) => n == y && (k == .local || k == .cell)) = false)
    (hbl : blkC c.N c.sc scope own = true) (hvs : own.map (·.2) = vs) (hv : vs.all (fun i => Γ[i]? == some false) = true) (his : is.all (fun i => decide (i ∈ vs)) = true)
    (hi : VI c Γ true tg iter fi) (hg : VG (c.blk scope) Γ Γ is tg g) (ht : VC (c.blk scope) Γ ifs t) (he : VE (c.blk scope) Γ false elt f) (hs : ∀ env x, foldedSetIterable iter env x = pure x) : VSt c Γ (Γ.set i true) (.Assign [.Name y py] (.ListComp elt [⟨tg, iter, ifs, 0⟩] scope pos) spos) (sSet i (eComp vs fi g t f)) := VSt.mk <| fun z hz D h => by
  subst hvs
  have core : Post z (okF z) (eComp (own.map (·.2)) fi g t f z.ρ z.S) (fun v H' => D.nx (z.σ.set i (some v)) H') := h.bind fun d v S' A' H' s o h' => by
    obtain ⟨p, e1, n, na, r, ow⟩ := o
    subst e1
    have n0 : z.act.H0 p = none := by
      cases q : z.act.H0 p with
      | none => rfl
      | some o => exact absurd n (hz.rel.chg.dom p (by rw [q]; exact fun z => by cases z))
    have no : some p ∉ z.own := fun q => hz.rel.trk p (.inr (.inr q)) n
    have nO : ¬ z.act.O0 p := fun q => hz.rel.trk p (.inl q) n
    refine h'.nx (own' := z.own.set i (some p)) (by rw [List.map_set, hz.own]; rfl) (r.setOwn ow n0 na no nO (own_lt hz hl)) ⟨s.pre, s.new, fun b hb => ?_, s.chg.mono fun _ h => .inl h.2⟩
    rcases mem_set_own hb with e | hb
    · cases e; exact .inr n
    · exact .inl hb
  exact wpS_of (ps_setLc (i := i) hz.on.calm hz.on.nd (by rw [hz.on.N]; exact hy) (by rw [hz.on.sc]; exact hyl) (sw_true (by rw [hz.on.sc]; exact hk) (by rw [hz.on.sc]; exact hyl) hline hown) pi_wp (blkOk_by (by rw [hz.on.N, hz.on.sc]; exact hbl)) (fun s H C cl fp => ⟨fun pins s' σ H' v u R I r q => q s H C cl fp pins s' u I r⟩) (fun s H C cl fp => ⟨fun pins s' σ H' R I q => q s H C cl fp pins s' I⟩) (fun s H C cl fp => ⟨fun pins s' σ H' R I q => q s H C cl fp pins s' I⟩) (hs _)) (comp_core hv his hi hg ht he hz core)
end
end VS
namespace VS
open PySem PySem.Spec PyProof.Rows L2
variable [Tables]
def wpCall (X : Cx) (f : Value) : List V → Hp → VK → Prop := fun xs H Q => ∀ pins s σ us, Inv X pins σ H s → Vals xs us → wpAny (model X.prog X.w) X.A (call f us) (EP X pins σ Q) X.xe s
theorem callR_wp {X : Cx} {f : Value} : CallR X f (wpCall X f) := fun pins s σ H xs us Q I r h => h pins s σ us I r
theorem wpCall_of {X : Cx} {f : Value} {r : List V → Hp → VK → Prop} (h : CallR X f r) {xs H Q} (q : r xs H Q) : wpCall X f xs H Q := fun pins s σ us I rv => h pins s σ H xs us Q I rv q
abbrev OkL (z : Sit) (ds : List D) (vs : List V) : Prop := Paired (fun d v => VOk z true d v z.A z.H) ds vs
def VCall (c : Sta) (f : Value) (g : List D → M D) : Prop := ∀ (Γ : List Bool) (z : Sit), z.Ok c Γ → ∀ ds vs, OkL z ds vs → ∀ Q : VK, Post z (okE z false) (g ds z.S) Q → wpCall z.X f vs z.H Q
def VCallF (c : Sta) (f : Value) (g : List D → M D) : Prop := ∀ (Γ : List Bool) (z : Sit), z.Ok c Γ → ∀ ds vs, OkL z ds vs → ∀ Q : VK, Post z (okF z) (g ds z.S) Q → wpCall z.X f vs z.H Q
section
variable {c : Sta} {Γ : List Bool} {br : Bool}
section
variable {x : Str} {p pos : Pos} {e : Expr} {es : List Expr} {fs : DA} {id : String} {g : List D → M D}
theorem ve_callB (F : VCall c (.builtin id) g) (hx : glob c x = true) (hm : c.g.mg x = none) (hv : bootBuiltins x = some (.builtin id)) (ha : VA c Γ true (e :: es) fs) (he : ∀ env, starEach (e :: es) env = (false, eval e env) :: starEach es env) (hpl : ∀ env, (backTo pos (starEach es env)).any (·.1) = false) : VE c Γ br (.Call (.Name x p) (e :: es) [] pos) (eCall g fs) := VE.mk <| fun z hz Q h =>
  wpE_of (pe_callB callR_wp (hz.gl hx) (by rw [hz.on.mg]; exact hm) hv pa_wp (glob_ok hx).2.2 (glob_ok hx).2.1 (he _) (hpl _)) (ha z hz _ (Post.bind (show Post z (okE z br) ((fs z.ρ >>= g) z.S) Q from h) fun ds vs S1 A1 H1 s1 o1 h1 => F Γ (z.to S1 A1 H1) (hz.to o1.1) ds vs o1.2 Q (Post.nobr (br := br) h1)))
theorem ve_callTy (F : VCall c (.type id) g) (hx : glob c x = true) (hm : c.g.mg x = none) (hv : bootBuiltins x = some (.type id)) (ha : VA c Γ true (e :: es) fs) (he : ∀ env, starEach (e :: es) env = (false, eval e env) :: starEach es env) (hpl : ∀ env, (backTo pos (starEach es env)).any (·.1) = false) : VE c Γ br (.Call (.Name x p) (e :: es) [] pos) (eCall g fs) := VE.mk <| fun z hz Q h =>
  wpE_of (pe_callTy callR_wp (hz.gl hx) (by rw [hz.on.mg]; exact hm) hv pa_wp (glob_ok hx).2.2 (glob_ok hx).2.1 (he _) (hpl _)) (ha z hz _ (Post.bind (show Post z (okE z br) ((fs z.ρ >>= g) z.S) Q from h) fun ds vs S1 A1 H1 s1 o1 h1 => F Γ (z.to S1 A1 H1) (hz.to o1.1) ds vs o1.2 Q (Post.nobr (br := br) h1)))
theorem vf_callB (F : VCallF c (.builtin id) g) (hx : glob c x = true) (hm : c.g.mg x = none) (hv : bootBuiltins x = some (.builtin id)) (ha : VA c Γ true (e :: es) fs) (he : ∀ env, starEach (e :: es) env = (false, eval e env) :: starEach es env) (hpl : ∀ env, (backTo pos (starEach es env)).any (·.1) = false) : VF c Γ (.Call (.Name x p) (e :: es) [] pos) (eCall g fs) := VF.mk <| fun z hz Q h =>
  wpE_of (pe_callB callR_wp (hz.gl hx) (by rw [hz.on.mg]; exact hm) hv pa_wp (glob_ok hx).2.2 (glob_ok hx).2.1 (he _) (hpl _)) (ha z hz _ (Post.bind (show Post z (okF z) ((fs z.ρ >>= g) z.S) Q from h) fun ds vs S1 A1 H1 s1 o1 h1 => F Γ (z.to S1 A1 H1) (hz.to o1.1) ds vs o1.2 Q (h1.back s1)))
theorem vf_callTy (F : VCallF c (.type id) g) (hx : glob c x = true) (hm : c.g.mg x = none) (hv : bootBuiltins x = some (.type id)) (ha : VA c Γ true (e :: es) fs) (he : ∀ env, starEach (e :: es) env = (false, eval e env) :: starEach es env) (hpl : ∀ env, (backTo pos (starEach es env)).any (·.1) = false) : VF c Γ (.Call (.Name x p) (e :: es) [] pos) (eCall g fs) := VF.mk <| fun z hz Q h =>
  wpE_of (pe_callTy callR_wp (hz.gl hx) (by rw [hz.on.mg]; exact hm) hv pa_wp (glob_ok hx).2.2 (glob_ok hx).2.1 (he _) (hpl _)) (ha z hz _ (Post.bind (show Post z (okF z) ((fs z.ρ >>= g) z.S) Q from h) fun ds vs S1 A1 H1 s1 o1 h1 => F Γ (z.to S1 A1 H1) (hz.to o1.1) ds vs o1.2 Q (h1.back s1)))
end
theorem vcall1 {f : Value} {g : D → M D} (h : ∀ (Γ : List Bool) (z : Sit), z.Ok c Γ → ∀ d v, VOk z true d v z.A z.H → ∀ Q : VK, Post z (okE z false) (g d z.S) Q → wpCall z.X f [v] z.H Q) : VCall c f (f1 g) := fun Γ z hz ds vs l Q p => by
  cases l with
  | nil => exact p.elim
  | cons h1 t =>
    cases t with
    | nil => exact h Γ z hz _ _ h1 Q p
    | cons _ _ => exact p.elim
theorem vcallF1 {f : Value} {g : D → M D} (h : ∀ (Γ : List Bool) (z : Sit), z.Ok c Γ → ∀ d v, VOk z true d v z.A z.H → ∀ Q : VK, Post z (okF z) (g d z.S) Q → wpCall z.X f [v] z.H Q) : VCallF c f (f1 g) := fun Γ z hz ds vs l Q p => by
  cases l with
  | nil => exact p.elim
  | cons h1 t =>
    cases t with
    | nil => exact h Γ z hz _ _ h1 Q p
    | cons _ _ => exact p.elim
theorem vcall2 {f : Value} {g : D → D → M D} (h : ∀ (Γ : List Bool) (z : Sit), z.Ok c Γ → ∀ d e v u, VOk z true d v z.A z.H → VOk z true e u z.A z.H → ∀ Q : VK, Post z (okE z false) (g d e z.S) Q → wpCall z.X f [v, u] z.H Q) : VCall c f (f2 g) := fun Γ z hz ds vs l Q p => by
  cases l with
  | nil => exact p.elim
  | cons h1 t =>
    cases t with
    | nil => exact p.elim
    | cons h2 t =>
      cases t with
      | nil => exact h Γ z hz _ _ _ _ h1 h2 Q p
      | cons _ _ => exact p.elim
theorem vc_len : VCall c (.builtin "len") (f1 dLen) := vcall1 fun Γ z hz d v o Q p => by
  cases d with
  | lst ds =>
    obtain ⟨a, vs, e, r, l⟩ := o.lst
    rw [e]
    exact wpCall_of call_len ⟨_, vs.length, rfl, .inl ⟨vs, .of r, rfl⟩, by rw [l.len]; exact Post.val hz p rfl⟩
  | tup ds =>
    obtain ⟨a, vs, e, r, l⟩ := o.tup
    rw [e]
    exact wpCall_of call_len ⟨_, vs.length, rfl, .inr ⟨vs, .of r, rfl⟩, by rw [l.len]; exact Post.val hz p rfl⟩
  | tix ds =>
    obtain ⟨a, ob, vs, e, r, _, l⟩ := o.tix
    rw [e]
    exact wpCall_of call_len ⟨_, vs.length, rfl, .inr ⟨vs, .inl (.inr ⟨ob, r⟩), rfl⟩, by rw [l.len]; exact Post.val hz p rfl⟩
  | scr ds =>
    obtain ⟨a, vs, e, r, l⟩ := o.scr
    rw [e]
    exact wpCall_of call_len ⟨_, vs.length, rfl, .inl ⟨vs, .inl r, rfl⟩, by rw [l.len]; exact Post.val hz p rfl⟩
  | str s =>
    obtain ⟨e, ok⟩ := o.str
    rw [e]
    exact wpCall_of call_len ⟨_, s.length, rfl, ⟨by rw [sizeLine_eq]; exact ok.1, by simp [Str.length]⟩, Post.val hz p rfl⟩
  | dic t kvs =>
    obtain ⟨a, e, q⟩ := o.dic
    rw [e]
    cases t with
    | false =>
      obtain ⟨l, r, q⟩ := q
      exact wpCall_of call_lenD ⟨a, l, rfl, r, by rw [repK_len q]; exact Post.val hz p rfl⟩
    | true =>
      obtain ⟨l, r, q⟩ := q
      exact wpCall_of call_len_dT ⟨a, l, rfl, r, by rw [repT_len q]; exact Post.val hz p rfl⟩
  | _ => exact p.elim
theorem bools_ok {H : Hp} {O : Addr → Prop} {A : List Addr} : ∀ {ds : List D} {vs : List V} {bs : List Bool}, bools ds = some bs → RepL H O A ds vs → vs = bs.map V.bl
  | [], vs, bs, e, h => by cases e; exact h
  | d :: ds, vs, bs, e, h => by
    obtain ⟨v, r, e1, h1, h2⟩ := h
    cases d with
    | bl b =>
      unfold bools at e
      cases q : bools ds with
      | none => rw [q] at e; cases e
      | some bs' => rw [q] at e; cases e; rw [e1, bools_ok q h2, show v = .bl b from h1]; rfl
    | _ => cases e
theorem ints_ok {H : Hp} {O : Addr → Prop} {A : List Addr} : ∀ {ds : List D} {vs : List V} {bs : List Int}, intsD ds = some bs → RepL H O A ds vs → vs = bs.map V.int
  | [], vs, bs, e, h => by cases e; exact h
  | d :: ds, vs, bs, e, h => by
    obtain ⟨v, r, e1, h1, h2⟩ := h
    cases d with
    | int b =>
      unfold intsD at e
      cases q : intsD ds with
      | none => rw [q] at e; cases e
      | some bs' => rw [q] at e; cases e; rw [e1, ints_ok q h2, show v = .int b from h1]; rfl
    | _ => cases e
theorem bools_call {f : String} {k : List Bool → D} {kv : List Bool → V} {r : Cx → List V → Hp → VK → Prop} (hr : ∀ X : Cx, X.calm = true → CallR X (.builtin f) (r X)) (hk : ∀ {H O A} bs, Rep H O A (k bs) (kv bs))
    (hq : ∀ (X : Cx) a bs H Q, H a = some (.lst (bs.map V.bl)) → Q (kv bs) H → r X [.ref a] H Q) : VCall c (.builtin f) (f1 (onBools k)) := vcall1 fun Γ z hz d v o Q p => by
  cases d with
  | lst ds =>
    obtain ⟨a, vs, e, h, l⟩ := o.lst
    rw [e]
    unfold onBools at p
    dsimp only at p
    cases q : bools ds with
    | none => rw [q] at p; exact p.elim
    | some bs =>
      rw [q] at p
      have ev := bools_ok q l
      subst ev
      exact wpCall_of (hr z.X hz.on.calm) (hq z.X a bs z.H Q h (Post.val hz p (hk bs)))
  | _ => exact p.elim
theorem vc_all : VCall c (.builtin "all") (f1 dAll) := bools_call (kv := fun bs => .bl (bs.all id)) (fun X h => cr_all h) (fun bs => rfl) fun X a bs H Q h q => ⟨a, bs, rfl, .of h, q⟩
theorem vc_any : VCall c (.builtin "any") (f1 dAny) := bools_call (kv := fun bs => .bl (bs.any id)) (fun X h => cr_any h) (fun bs => rfl) fun X a bs H Q h q => ⟨a, bs, rfl, .of h, q⟩
theorem vc_sum : VCall c (.builtin "sum") (f1 dSum) := vcall1 fun Γ z hz d v o Q p => by
  cases d with
  | lst ds =>
    obtain ⟨a, vs, e, h, l⟩ := o.lst
    rw [e]
    unfold dSum onInts at p
    dsimp only at p
    cases q : intsD ds with
    | none => rw [q] at p; exact p.elim
    | some ns =>
      rw [q] at p
      have ev := ints_ok q l
      subst ev
      exact wpCall_of (cr_sum hz.on.calm) ⟨a, ns, rfl, .of h, Post.val hz p rfl⟩
  | _ => exact p.elim
theorem vc_max2 : VCall c (.builtin "max") (f2 dMax2) := vcall2 fun Γ z hz d e v u o1 o2 Q p => by
  unfold dMax2 at p; split at p
  · rw [o1.int, o2.int]; exact wpCall_of (call_max2 hz.on.calm) ⟨_, _, rfl, Post.val hz p rfl⟩
  · exact p.elim
theorem vc_min2 : VCall c (.builtin "min") (f2 dMin2) := vcall2 fun Γ z hz d e v u o1 o2 Q p => by
  unfold dMin2 at p; split at p
  · rw [o1.int, o2.int]; exact wpCall_of (call_min2 hz.on.calm) ⟨_, _, rfl, Post.val hz p rfl⟩
  · exact p.elim
theorem vc_int : VCall c (.type "int") (f1 dInt) := vcall1 fun Γ z hz d v o Q p => by
  cases d with
  | int i => rw [o.int]; exact wpCall_of call_int1 (.inl ⟨_, rfl, Post.val hz p rfl⟩)
  | bl b => rw [o.bl]; exact wpCall_of call_int1 (.inr ⟨_, rfl, Post.val hz p rfl⟩)
  | str s =>
    dsimp only [dInt] at p
    cases q : numOf s with
    | none => rw [q] at p; exact p.elim
    | some n =>
      rw [q] at p
      dsimp only at p
      split at p
      · rename_i hl
        rw [o.str.1]
        exact wpCall_of call_int_str ⟨_, n, rfl, q, by simpa [Str.length] using hl, Post.val hz p rfl⟩
      · exact p.elim
  | _ => exact p.elim
def decI (i : Int) : List Nat := (Str.ofString (toString i)).cps.toList
def dStr : D → M D
  | .int i => if i.natAbs.log2 < 1920 ∧ (decI i).length ≤ sz ∧ (decI i).all (fun y => decide (y < 1114112)) = true then retD (.str (decI i)) else badD
  | .str s => retD (.str s)
  | _ => badD
theorem vc_tuple : VCall c (.type "tuple") (f1 dTuple) := vcall1 fun Γ z hz d v o Q p => by
  cases d with
  | lst ds =>
    obtain ⟨a, vs, e, r, l⟩ := o.lst
    rw [e]
    exact wpCall_of call_tuple_of ⟨a, vs, rfl, .inl ⟨.of r, fun t ht => p.newT hz ht l⟩⟩
  | tup ds =>
    obtain ⟨a, vs, e, r, l⟩ := o.tup
    rw [e]
    exact wpCall_of call_tuple_of ⟨a, vs, rfl, .inr ⟨.of r, p.val hz ⟨a, vs, rfl, r, l⟩⟩⟩
  | _ => exact p.elim
theorem vc_list : VCallF c (.type "list") (f1 fList) := vcallF1 fun Γ z hz d v o Q p => by
  cases d with
  | lst ds =>
    obtain ⟨a, vs, e, r, l⟩ := o.lst
    rw [e]
    exact wpCall_of call_list_of ⟨a, vs, rfl, .inl (.of r), fun t ht => p.newL hz ht l⟩
  | tup ds =>
    obtain ⟨a, vs, e, r, l⟩ := o.tup
    rw [e]
    exact wpCall_of call_list_of ⟨a, vs, rfl, .inr (.of r), fun t ht => p.newL hz ht l⟩
  | scr ds =>
    obtain ⟨a, vs, e, r, l⟩ := o.scr
    rw [e]
    exact wpCall_of call_list_of ⟨a, vs, rfl, .inl (.inl r), fun t ht => p.newL hz ht l⟩
  | _ => exact p.elim
theorem tyX_of {z : Sit} {br : Bool} {d : D} {v : V} {A : List Addr} {H : Hp} {t : String} (K : PySem.W.Frag) (h : VOk z br d v A H) (e : tyName d = some t) : TyX K H v (.type t) := by
  cases d with
  | non => cases e; rw [h.non]; exact .base .non
  | bl b => cases e; rw [h.bl]; exact .base (.bl b)
  | int b => cases e; rw [h.int]; exact .base (.int b)
  | str b => cases e; rw [h.str.1]; exact .base (.str _)
  | tup ds => cases e; obtain ⟨a, vs, e1, r, _⟩ := h.tup; rw [e1]; exact .base (.tup r)
  | lst ds => cases e; obtain ⟨a, vs, e1, r, _⟩ := h.lst; rw [e1]; exact .base (.lst r)
  | scr ds =>
    cases e
    obtain ⟨a, vs, e1, r, _⟩ := h.scr
    rw [e1]
    rcases r with r | ⟨o, r⟩
    · exact .base (.lst r)
    · exact .base (.frz r)
  | tix ds => cases e; obtain ⟨a, o, vs, e1, r, _⟩ := h.tix; rw [e1]; exact .fTuple r
  | dic t kvs =>
    cases e
    obtain ⟨a, e1, q⟩ := h.dic
    rw [e1]
    cases t with
    | false => obtain ⟨l, r, _⟩ := q; exact .base (.dK r)
    | true => obtain ⟨l, r, _⟩ := q; exact .base (.dT r)
  | _ => cases e
theorem ve_isi {x : Str} {T : String} {p q pos : Pos} {e : Expr} {fe : DE} (hx : glob c "isinstance" = true) (hm : c.g.mg "isinstance" = none) (hy : glob c x = true) (hn : c.g.mg x = none) (hv : bootBuiltins x = some (.type T)) (he : VE c Γ true e fe)
    (hs : ∀ env, starEach [e, .Name x q] env = (false, eval e env) :: starEach [.Name x q] env) (hs2 : ∀ env, starEach [.Name x q] env = [(false, eval (.Name x q) env)]) : VE c Γ br (.Call (.Name "isinstance" p) [e, .Name x q] [] pos) (eUn (dIsi T) fe) := VE.mk <| fun z hz Q h =>
  wpE_of (pe_callB call_isi (hz.gl hx) (by rw [hz.on.mg]; exact hm) (by decide +kernel) (pa_cons pe_wp (pa_cons (pe_bltn (v := .ty T) (hz.gl hy) (by rw [hz.on.mg]; exact hn) hv rfl (glob_ok hy).2.2 (glob_ok hy).2.1) pa_nil (hs2 _)) (hs _)) (by decide) (by decide) (hs _) (by rw [hs2]; rfl)) (he z hz _ (Post.bind (show Post z (okE z br) ((fe z.ρ >>= dIsi T) z.S) Q from h) fun d v S1 A1 H1 s1 o1 h1 => by
    unfold dIsi at h1
    cases q1 : tyName d with
    | none => rw [q1] at h1; exact h1.elim
    | some u =>
      rw [q1] at h1
      dsimp only at h1
      cases q2 : kitB u T with
      | none => rw [q2] at h1; exact h1.elim
      | some b =>
        rw [q2] at h1
        exact ⟨v, .ty T, .type u, .type T, b, rfl, .ty T, tyX_of z.X.K o1.2 q1, kit_ty q2, Post.val (br := br) (hz.to o1.1) h1 rfl⟩))
theorem insI_perm (a : Int) : ∀ l : List Int, (insI a l).Perm (a :: l)
  | [] => .refl _
  | b :: r => by
    unfold insI
    split
    · exact .refl _
    · exact ((insI_perm a r).cons b).trans (.swap a b r)
theorem sortI_perm : ∀ l : List Int, (sortI l).Perm l
  | [] => .refl _
  | a :: r => (insI_perm a _).trans ((sortI_perm r).cons a)
theorem insI_up (a : Int) : ∀ l : List Int, l.Pairwise (· ≤ ·) → (insI a l).Pairwise (· ≤ ·)
  | [], _ => by simp [insI]
  | b :: r, h => by
    unfold insI
    have h' := List.pairwise_cons.mp h
    split
    · rename_i hab
      refine List.pairwise_cons.mpr ⟨fun y hy => ?_, h⟩
      rcases List.mem_cons.mp hy with e | hy
      · omega
      · have := h'.1 y hy; omega
    · refine List.pairwise_cons.mpr ⟨fun y hy => ?_, insI_up a r h'.2⟩
      have hy' := (insI_perm a r).mem_iff.mp hy
      rcases List.mem_cons.mp hy' with e | hy'
      · omega
      · exact h'.1 y hy'
theorem sortI_up : ∀ l : List Int, (sortI l).Pairwise (· ≤ ·)
  | [] => .nil
  | a :: r => insI_up a _ (sortI_up r)
theorem up_unique : ∀ {a b : List Int}, a.Perm b → a.Pairwise (· ≤ ·) → b.Pairwise (· ≤ ·) → a = b
  | [], b, p, _, _ => (List.nil_perm.mp p).symm
  | x :: a, [], p, _, _ => by have := p.length_eq; simp at this
  | x :: a, y :: b, p, ha, hb => by
    have ha' := List.pairwise_cons.mp ha
    have hb' := List.pairwise_cons.mp hb
    have e : x = y := by
      have h1 : x ∈ y :: b := p.mem_iff.mp List.mem_cons_self
      have h2 : y ∈ x :: a := p.mem_iff.mpr List.mem_cons_self
      rcases List.mem_cons.mp h1 with e | h1
      · exact e
      · rcases List.mem_cons.mp h2 with e | h2
        · exact e.symm
        · have := ha'.1 y h2; have := hb'.1 x h1; omega
    subst e
    rw [up_unique (List.perm_cons x |>.mp p) ha'.2 hb'.2]
theorem repL_ints {H : Hp} {O : Addr → Prop} {A : List Addr} : ∀ ns : List Int, RepL H O A (ns.map D.int) (ns.map V.int)
  | [] => rfl
  | n :: ns => .cons rfl (repL_ints ns)
theorem vc_sorted : VCallF c (.builtin "sorted") (f1 fSorted) := vcallF1 fun Γ z hz d v o Q p => by
  cases d with
  | lst ds =>
    obtain ⟨a, vs, e, h, l⟩ := o.lst
    rw [e]
    unfold fSorted onInts at p
    dsimp only at p
    cases q : intsD ds with
    | none => rw [q] at p; exact p.elim
    | some ns =>
      rw [q] at p
      have ev := ints_ok q l
      subst ev
      refine wpCall_of cr_sortedI ⟨a, ns, rfl, .of h, fun ns' t pm up ht => ?_⟩
      have e2 : ns' = sortI ns := up_unique (pm.trans (sortI_perm ns).symm) up (sortI_up ns)
      subst e2
      exact p.newL hz ht (repL_ints _)
  | _ => exact p.elim
end
end VS
namespace VS
open PySem PySem.Spec PyProof.Rows L2
variable [Tables]
section
variable {c : Sta} {Γ Γ' : List Bool} {z : Sit} {D : Ends} {br : Bool}
theorem ve_pure {e : Expr} {f : DE} (h : VE { c with ep := true } Γ false e f) : VE c Γ br e f := VE.mk <| fun z hz Q p =>
  h { z with ep := true } hz.calm Q (p.calm fun _ _ _ _ _ o => ⟨o.1, o.2.elim .inl fun q => by cases q.1⟩)
theorem none0 (hz : z.Ok c Γ) {p : Addr} (n : z.H p = none) : z.act.H0 p = none := by
  cases q : z.act.H0 p with
  | none => rfl
  | some o => exact absurd n (hz.rel.chg.dom p (by rw [q]; exact fun z => by cases z))
theorem ve_new {e : Expr} {f : DE} (h : VF c Γ e f) : VE c Γ br e (eNew f) := VE.mk <| fun z hz Q p => by
  refine h z hz Q ?_
  have q : Post z (okE z br) (eNew f z.ρ z.S) Q := p
  unfold eNew at q
  cases e : f z.ρ z.S with
  | exc x S' => rw [e] at q; exact q
  | bad => rw [e] at q; exact q
  | ok d S' =>
    rw [e] at q
    intro v H' A' s o
    obtain ⟨a, ev, n, na, r, ow⟩ := o
    have no : some a ∉ z.own := fun q => hz.rel.trk a (.inr (.inr q)) n
    refine q v H' (A' ++ [a]) (s.cell n) ⟨r.cellNew ow (none0 hz n) na no, .inl ⟨a, ?_, ev⟩⟩
    rw [← r.lenA]
    exact List.getElem?_concat_length
theorem own_slot (hz : z.Ok c Γ) {i : Nat} (hg : Γ[i]? = some true) : ∃ a d, z.own[i]? = some (some a) ∧ z.ρ[i]? = some d ∧ z.σ[i]? = some (some (.ref a)) ∧ OwnOk z.H z.O z.A a d := by
  obtain ⟨o, e1, e2⟩ := own_get hz hg
  cases o with
  | none => cases e2
  | some a =>
    have l1 := hz.rel.len1
    have l2 := hz.rel.len2
    have hi := (List.getElem?_eq_some_iff.mp e1).1
    have hd : z.ρ[i]? = some z.ρ[i] := List.getElem?_eq_getElem (by omega)
    have hs : z.σ[i]? = some z.σ[i] := List.getElem?_eq_getElem (by omega)
    have sl := hz.rel.slot i _ _ _ hd e1 hs
    exact ⟨a, _, e1, hd, by rw [hs, sl.1], sl.2⟩
theorem Move.mut {A : List Addr} {own : Own} {H : Hp} {a : Addr} {u : HO} (m : some a ∈ own) (hm : Mut (H a)) : Move A own H A own (upd H a u) := ⟨List.prefix_refl _, fun _ h => .inl h, fun _ h => .inl h, chg_upd (.inr m) hm⟩
theorem Move.put {A : List Addr} {own : Own} {H : Hp} {a : Addr} {u : HO} (m : a ∈ A) (hm : Mut (H a)) : Move A own H A own (upd H a u) := ⟨List.prefix_refl _, fun _ h => .inl h, fun _ h => .inl h, chg_upd (.inl m) hm⟩
theorem goUpd {H : Hp} {O : Addr → Prop} {A : List Addr} {a : Addr} {u : HO} (hm : Mut (H a)) (ho : O a) : Go (fun b => b = a) H (upd H a u) O O A A := ⟨chg_upd rfl hm, fun b e => by rw [e]; exact ho, fun b z => .inl z, fun _ _ e => e⟩
def MutR (r : V → List V → Hp → VK → Prop) (g : List VS.D → List VS.D → Option (List VS.D)) : Prop := ∀ (H : Hp) (O : Addr → Prop) (A : List Addr) (a : Addr) (l ds : List VS.D) (vl vs : List V) (l' : List VS.D) (Q : VK), O a → H a = some (.lst vl) → RepL H O A l vl → RepL H O A ds vs → g l ds = some l' →
  (∀ vl', RepL (upd H a (.lst vl')) O A l' vl' → Q .non (upd H a (.lst vl'))) → r (.ref a) vs H Q
theorem mut_app : MutR rAppend gApp := fun H O A a l ds vl vs l' Q ho hH rl rd e k => by
  unfold gApp at e
  split at e
  · split at e
    · cases e
      rename_i d hlt
      obtain ⟨v, r, e1, h1, h2⟩ := rd
      have e2 : r = [] := h2
      subst e2 e1
      have hm : Mut (H a) := by rw [hH]; trivial
      refine ⟨a, vl, v, rfl, rfl, hH, by rw [rl.len, ← sz_line]; exact hlt, k _ ?_⟩
      exact RepL.go (goUpd hm ho) _ _ (rl.append (RepL.cons h1 RepL.nil))
    · cases e
  · cases e
def gExt : List VS.D → List VS.D → Option (List VS.D)
  | l, [.lst ds] => if l.length + ds.length ≤ sz then some (l ++ ds) else none
  | _, _ => none
def gIns : List VS.D → List VS.D → Option (List VS.D)
  | l, [.int i, d] => if l.length < sz ∧ 0 ≤ i ∧ i < 2 ^ 63 then some (l.take i.toNat ++ [d] ++ l.drop i.toNat) else none
  | _, _ => none
section
variable {i : Nat} {x name : Str} {id : String} {g : List VS.D → List VS.D → Option (List VS.D)} {r : V → List V → Hp → VK → Prop} {fs : DA} {e : Expr} {es : List Expr} {px apos cpos pos : Pos}
theorem vs_mut (hi : seen c i x = true) (hg : Γ[i]? = some true) (slot : Slot "list" name id) (hty : typeOf (.builtin id) = pure (.type "method_descriptor")) (hm : ∀ X, MtR X id r) (mu : MutR r g) (ha : VA c Γ false (e :: es) fs)
    (hbase : ∀ env, attributeBase (.Name x px) name env (eval (.Name x px) env) = eval (.Name x px) env)
    (hfew : ∀ env, ((backTo cpos (starEach (e :: es) env)).all (fun x => !x.1) && (backToKw cpos (keywordEach [] env)).all (fun x => x.1.isSome)
      && decide ((e :: es).length + ([] : List Keyword).length + (if ([] : List Keyword).isEmpty then 0 else 1) < 30)) = true)
    (hline : (apos.endLine == cpos.line) = true) (he : ∀ env, starEach (e :: es) env = (false, eval e env) :: starEach es env) (hpl : ∀ env, (backTo cpos (starEach es env)).any (·.1) = false)
    (hs : ∀ env n, swapsWith (.Call (.Attribute (.Name x px) name apos) (e :: es) [] cpos) none n env = pure false) :
    VSt c Γ Γ (.Expr (.Call (.Attribute (.Name x px) name apos) (e :: es) [] cpos) pos) (sMut i g fs) := VSt.mk <| fun z hz D h => by
  obtain ⟨hN, hv, hd, hcd⟩ := seen_ok hi
  refine wpS_of (ps_expr (pe_bm PySem.F.plainAttrs_list slot hty (hm _) (pe_var (i := i) (by rw [hz.on.N]; exact hN) (by rw [hz.on.sc]; exact hv) hd hcd) pa_wp (hbase _) (hfew _) hline (he _) (hpl _)) (hs _ _)) ?_
  obtain ⟨a, d, e1, e2, e3, ow⟩ := own_slot hz hg
  unfold sMut at h
  rw [e2] at h
  cases d with
  | lst l =>
    obtain ⟨vl, hH, rl⟩ := ow
    refine ⟨.ref a, e3, .inl ⟨rfl, vl, .of hH⟩, ?_⟩
    refine ha z hz _ (h.bind fun ds vs S' A' H' s o h' => ?_)
    have hz2 := hz.to o.1
    obtain ⟨a2, d2, f1, f2, _, ow2⟩ := own_slot (z := z.to S' A' H') hz2 hg
    rw [e1] at f1
    cases f1
    rw [e2] at f2
    cases f2
    obtain ⟨vl2, hH2, rl2⟩ := ow2
    change H' a = _ at hH2
    have mem : some a ∈ z.own := List.mem_of_getElem? e1
    cases q : g l ds with
    | none => rw [q] at h'; exact h'.elim
    | some l' =>
      rw [q] at h'
      refine mu H' (Ex z.act.O0 A' z.own) A' a l ds vl2 vs l' _ (.inr (.inr mem)) hH2 rl2 (repL_of o.2) q fun vl' rl' => ?_
      have hm : Mut (H' a) := by rw [hH2]; trivial
      exact h'.nx hz.own (o.1.mutate (d := .lst l') e1 hm ⟨vl', upd_same, rl'⟩) (s.move.trans (Move.mut mem hm))
  | _ => exact h.elim
end
end
end VS
namespace VS
open PySem PySem.Spec PyProof.Rows L2
variable [Tables]
section
variable {H : Hp} {O : Addr → Prop} {A : List Addr}
theorem mapk_inj : ∀ {a b : List Key}, a.map k1 = b.map k1 → a = b
  | [], [], _ => rfl
  | [], _ :: _, z => by cases z
  | _ :: _, [], z => by cases z
  | x :: xs, w :: ws, z => by
    rw [List.map_cons, List.map_cons] at z
    injection z with z1 z2
    rw [k1_inj z1, mapk_inj z2]
theorem repK_any {k : Key} : ∀ {kvs : List (DK × VS.D)} {l : List (Key × V)}, RepK H O A kvs l → (l.any fun p => decide (p.1 = k)) = kvs.any fun p => decide (p.1 = .inl (k1 k))
  | [], l, h => by rw [show l = [] from h]; rfl
  | (k', d) :: ps, l, h => by
    obtain ⟨y, v, r, e, ⟨_, e2, _⟩, h2⟩ := h
    subst e e2
    rw [List.any_cons, List.any_cons, repK_any h2]
    congr 1
    exact decide_eq_decide.mpr ⟨fun e => by rw [show y = k from e], fun e => k1_inj (Sum.inl.inj e)⟩
theorem repT_any {k : List Key} : ∀ {kvs : List (DK × VS.D)} {l : List (List Key × V)}, RepT H O A kvs l → (l.any fun p => decide (p.1 = k)) = kvs.any fun p => decide (p.1 = .inr (k.map k1))
  | [], l, h => by rw [show l = [] from h]; rfl
  | (k', d) :: ps, l, h => by
    obtain ⟨y, v, r, e, ⟨_, e2, _⟩, h2⟩ := h
    subst e e2
    rw [List.any_cons, List.any_cons, repT_any h2]
    congr 1
    exact decide_eq_decide.mpr ⟨fun e => by rw [show y = k from e], fun e => mapk_inj (Sum.inr.inj e)⟩
theorem repK_map {k : Key} {d : VS.D} {v : V} (hv : Rep H O A d v) : ∀ {kvs : List (DK × VS.D)} {l : List (Key × V)}, RepK H O A kvs l → RepK H O A (kvs.map fun p => if p.1 = .inl (k1 k) then (p.1, d) else p) (l.map fun p => if p.1 = k then (p.1, v) else p)
  | [], l, h => by rw [show l = [] from h]; rfl
  | (k', d') :: ps, l, h => by
    obtain ⟨y, u, r, e, ⟨ko, e2, h1⟩, h2⟩ := h
    subst e e2
    have ih := repK_map (k := k) hv h2
    rw [List.map_cons, List.map_cons]
    by_cases q : y = k
    · subst q
      rw [if_pos rfl, if_pos rfl]
      exact ⟨y, v, _, rfl, ⟨ko, rfl, hv⟩, ih⟩
    · rw [if_neg (fun z => q (k1_inj (Sum.inl.inj z))), if_neg q]
      exact ⟨y, u, _, rfl, ⟨ko, rfl, h1⟩, ih⟩
theorem repT_map {k : List Key} {d : VS.D} {v : V} (hv : Rep H O A d v) : ∀ {kvs : List (DK × VS.D)} {l : List (List Key × V)}, RepT H O A kvs l → RepT H O A (kvs.map fun p => if p.1 = .inr (k.map k1) then (p.1, d) else p) (l.map fun p => if p.1 = k then (p.1, v) else p)
  | [], l, h => by rw [show l = [] from h]; rfl
  | (k', d') :: ps, l, h => by
    obtain ⟨y, u, r, e, ⟨ko, e2, h1⟩, h2⟩ := h
    subst e e2
    have ih := repT_map (k := k) hv h2
    rw [List.map_cons, List.map_cons]
    by_cases q : y = k
    · subst q
      rw [if_pos rfl, if_pos rfl]
      exact ⟨y, v, _, rfl, ⟨ko, rfl, hv⟩, ih⟩
    · rw [if_neg (fun z => q (mapk_inj (Sum.inr.inj z))), if_neg q]
      exact ⟨y, u, _, rfl, ⟨ko, rfl, h1⟩, ih⟩
theorem repK_snoc {k : Key} {d : VS.D} {v : V} (ko : keyOk k) (hv : Rep H O A d v) : ∀ {kvs : List (DK × VS.D)} {l : List (Key × V)}, RepK H O A kvs l → RepK H O A (kvs ++ [(.inl (k1 k), d)]) (l ++ [(k, v)])
  | [], l, h => by rw [show l = [] from h]; exact ⟨k, v, [], rfl, ⟨ko, rfl, hv⟩, rfl⟩
  | (k', d') :: ps, l, h => by
    obtain ⟨y, u, r, e, q, h2⟩ := h
    subst e
    exact ⟨y, u, _, rfl, q, repK_snoc ko hv h2⟩
theorem repT_snoc {k : List Key} {d : VS.D} {v : V} (ko : ∀ y ∈ k, keyOk y) (hv : Rep H O A d v) : ∀ {kvs : List (DK × VS.D)} {l : List (List Key × V)}, RepT H O A kvs l → RepT H O A (kvs ++ [(.inr (k.map k1), d)]) (l ++ [(k, v)])
  | [], l, h => by rw [show l = [] from h]; exact ⟨k, v, [], rfl, ⟨ko, rfl, hv⟩, rfl⟩
  | (k', d') :: ps, l, h => by
    obtain ⟨y, u, r, e, q, h2⟩ := h
    subst e
    exact ⟨y, u, _, rfl, q, repT_snoc ko hv h2⟩
theorem repK_put {k : Key} {d : VS.D} {v : V} (ko : keyOk k) (hv : Rep H O A d v) {kvs : List (DK × VS.D)} {l : List (Key × V)} (h : RepK H O A kvs l) : RepK H O A (putD kvs (.inl (k1 k)) d) (putK l k v) := by
  unfold putD putK
  rw [repK_any (k := k) h]
  split
  · exact repK_map hv h
  · exact repK_snoc ko hv h
theorem repT_put {k : List Key} {d : VS.D} {v : V} (ko : ∀ y ∈ k, keyOk y) (hv : Rep H O A d v) {kvs : List (DK × VS.D)} {l : List (List Key × V)} (h : RepT H O A kvs l) : RepT H O A (putD kvs (.inr (k.map k1)) d) (putK l k v) := by
  unfold putD putK
  rw [repT_any (k := k) h]
  split
  · exact repT_map hv h
  · exact repT_snoc ko hv h
end
def wpSet (X : Cx) : TSet := fun o i v H Q => ∀ pins s σ ov iv u, Inv X pins σ H s → RelV o ov → RelV i iv → RelV v u → wpAny (model X.prog X.w) X.A (setItem ov iv u) (fun _ s' => ∃ H', Inv X pins σ H' s' ∧ Q H') X.xe s
theorem set_wp {X : Cx} : PSet X (wpSet X) := fun pins s σ H o i v ov iv u Q I r1 r2 r3 h => h pins s σ ov iv u I r1 r2 r3
theorem wpSet_of {X : Cx} {t : TSet} (h : PSet X t) {o i v H Q} (q : t o i v H Q) : wpSet X o i v H Q := fun pins s σ ov iv u I r1 r2 r3 => h pins s σ H o i v ov iv u Q I r1 r2 r3 q
def wpGet (X : Cx) : V → V → Hp → VK → Prop := fun o i H Q => ∀ pins s σ ov iv, Inv X pins σ H s → RelV o ov → RelV i iv → wpAny (model X.prog X.w) X.A (getItem ov iv) (EP X pins σ Q) X.xe s
theorem get_wp {X : Cx} : PGet X (wpGet X) := fun pins s σ H o i ov iv Q I r1 r2 h => h pins s σ ov iv I r1 r2
theorem ip_wp {X : Cx} {op : Operator} : PIp X op (wpOp X (inplaceOp op)) := fun pins s σ H x y v u Q I r1 r2 h => h pins s σ v u I r1 r2
theorem dic_none_lst : ∀ {d : VS.D} {H : Hp} {O : Addr → Prop} {A : List Addr} {a : Addr}, OwnOk H O A a d → (∃ ds, d = .lst ds) ∨ (∃ t kvs, d = .dic t kvs) ∨ ∃ x fs, d = .ins x fs := fun {d} H O A a h => by
  cases d with
  | lst ds => exact .inl ⟨ds, rfl⟩
  | dic t kvs => exact .inr (.inl ⟨t, kvs, rfl⟩)
  | ins x fs => exact .inr (.inr ⟨x, fs, rfl⟩)
  | _ => exact h.elim
section
variable {c : Sta} {Γ Γ' : List Bool} {z : Sit} {D : Ends} {br : Bool}
theorem set_at (hz : z.Ok c Γ) {a : Addr} {d k v d' : VS.D} {kv vv : V} (ho : z.O a) (ow : OwnOk z.H z.O z.A a d) (hk : VOk z true k kv z.A z.H) (hv : Rep z.H z.O z.A v vv) (e : dSet d k v = some d') {Q : Hp → Prop}
    (q : ∀ u, Mut (z.H a) → OwnOk (upd z.H a u) z.O z.A a d' → Q (upd z.H a u)) : wpSet z.X (.ref a) kv vv z.H Q := by
  rcases dic_none_lst ow with ⟨ds, rfl⟩ | ⟨t, kvs, rfl⟩ | ⟨x, fs, rfl⟩
  rotate_left 2
  · cases e
  · obtain ⟨vs, hH, l⟩ := ow
    have hm : Mut (z.H a) := by rw [hH]; trivial
    cases k with
    | int k =>
      unfold dSet at e
      dsimp only at e
      cases ej : ixN ds.length k with
      | none => rw [ej] at e; cases e
      | some j =>
        rw [ej] at e
        cases e
        rw [hk.int]
        refine wpSet_of set_list ⟨a, vs, k, j, rfl, rfl, hH, by rw [l.len]; exact ej, q _ hm ⟨_, upd_same, ?_⟩⟩
        exact RepL.go (goUpd hm ho) _ _ (RepL.set hv j l)
    | _ => cases e
  · unfold dSet at e
    dsimp only at e
    cases ek : toK k with
    | none => rw [ek] at e; cases e
    | some kk =>
      rw [ek] at e
      dsimp only at e
      split at e
      · rename_i kt
        split at e
        · rename_i hlt
          cases e
          cases kk with
          | inl kk =>
            subst kt
            obtain ⟨l, hH, r⟩ := ow
            have hm : Mut (z.H a) := by rw [hH]; trivial
            obtain ⟨y, e1, e2, ko⟩ := hk.key (toK_l ek)
            subst e1
            refine wpSet_of (set_dict (units1 hz.on.room)) ⟨a, _, rfl, by rw [e2]; exact DPut.k hH (by rw [repK_len r, ← sz_line]; exact hlt), q _ hm ⟨_, upd_same, ?_⟩⟩
            exact RepK.go (goUpd hm ho) _ _ (repK_put ko hv r)
          | inr ks =>
            subst kt
            obtain ⟨l, hH, r⟩ := ow
            have hm : Mut (z.H a) := by rw [hH]; trivial
            obtain ⟨ds, ed, ek2⟩ := toK_r ek
            subst ed
            obtain ⟨b, vs, e3, e4, rl⟩ := hk.tup
            obtain ⟨ys, f1, f2, ko⟩ := flatKs_ok ek2 rl
            subst f2 f1
            refine wpSet_of (set_dict (units1 hz.on.room)) ⟨a, _, rfl, by rw [e3]; exact DPut.t hH e4 (by rw [repT_len r, ← sz_line]; exact hlt), q _ hm ⟨_, upd_same, ?_⟩⟩
            exact RepT.go (goUpd hm ho) _ _ (repT_put ko hv r)
        · cases e
      · cases e
theorem dget_own {t : Bool} {kvs : List (DK × VS.D)} {d : VS.D} {v : V} {a : Addr} (h1 : OwnOk z.H z.O z.A a (.dic t kvs)) (h2 : VOk z br d v z.A z.H) {k : DK} (e : toK d = some k) (kt : k.isRight = t) :
    ∃ (o : Option V), DGet z.H a v o ∧ match lookK k kvs with
      | some x => ∃ w, o = some w ∧ Rep z.H (Ex z.act.O0 z.A z.own) z.A x w
      | none => o = none := by
  cases k with
  | inl k =>
    subst kt
    obtain ⟨l, hl, r⟩ := h1
    obtain ⟨y, e1, e2, _⟩ := h2.key (toK_l e)
    refine ⟨valV l y, by rw [e2]; exact DGet.k hl, ?_⟩
    have q := lookK_K (k := y) r
    rw [← e1]
    exact q
  | inr ks =>
    subst kt
    obtain ⟨l, hl, r⟩ := h1
    obtain ⟨ds, ed, ek⟩ := toK_r e
    subst ed
    obtain ⟨b, vs, e3, e4, rl⟩ := h2.tup
    obtain ⟨ys, f1, f2, _⟩ := flatKs_ok ek rl
    subst f2
    refine ⟨valV l ys, by rw [e3]; exact DGet.t hl e4, ?_⟩
    have q := lookK_T (k := ys) r
    rw [← f1]
    exact q
theorem getL {X : Cx} : PGet X (rIxL X.K) := by
  intro pins s σ H x y v u Q I rx ry h
  obtain ⟨p, xs, i, z, rfl, rfl, hq, he, q⟩ := h
  cases rx
  obtain ⟨t, rfl⟩ := ry
  obtain ⟨its, r, pl, hz⟩ := I.list hq
  obtain ⟨j, h1, h2, h3, h4, h5⟩ := atI_get he
  obtain ⟨w, ew, rw'⟩ := r.get h2
  have hl := r.length
  have hn := line63
  have fin : EP X pins σ Q w s := ⟨z, H, I, rw', q⟩
  by_cases h0 : 0 ≤ i
  · have hj : i.toNat = j := by
      rw [seqIndex_of h0 h5] at h1
      exact Option.some.inj h1
    exact wpAny_getItem_list pl.isList h0 (by omega) (by rw [hj]; simpa using ew) fin
  · have hj : (i + (its.toArray.size : Int)).toNat = j := by
      rw [seqIndex_neg (by omega) h4] at h1
      rw [List.size_toArray, ← hl]
      exact Option.some.inj h1
    exact wpAny_getItem_list_neg pl.isList (by omega) (by rw [List.size_toArray] <;> omega) (by omega) (by rw [hj]; simpa using ew) fin
theorem get_at (hz : z.Ok c Γ) {a : Addr} {d k : VS.D} {kv : V} (ow : OwnOk z.H z.O z.A a d) (hk : VOk z br k kv z.A z.H) {Q : VK} (h : Post z (okE z false) (dIx d k z.S) Q) : wpGet z.X (.ref a) kv z.H Q := by
  rcases dic_none_lst ow with ⟨ds, rfl⟩ | ⟨t, kvs, rfl⟩ | ⟨x, fs, rfl⟩
  rotate_left 2
  · exact h.elim
  · obtain ⟨vs, hH, l⟩ := ow
    cases k with
    | int i =>
      dsimp only [dIx] at h
      cases ed : atI ds i with
      | none => rw [ed] at h; exact h.elim
      | some d =>
        rw [ed] at h
        obtain ⟨w, e2, k⟩ := l.atI ed
        rw [hk.int]
        exact fun pins s σ ov iv I r1 r2 => getL pins s σ _ _ _ ov iv Q I r1 r2 ⟨a, vs, i, w, rfl, rfl, .of hH, e2, h.val hz k⟩
    | _ => exact h.elim
  · dsimp only [dIx] at h
    cases ek : toK k with
    | none => rw [ek] at h; exact h.elim
    | some kk =>
      rw [ek] at h
      dsimp only at h
      by_cases kt : kk.isRight = t
      · rw [if_pos kt] at h
        obtain ⟨o, g, m⟩ := dget_own (z := z) ow hk ek kt
        cases ex : lookK kk kvs with
        | none => rw [ex] at h; exact h.elim
        | some x =>
          rw [ex] at h m
          obtain ⟨w, m1, m2⟩ := m
          subst m1
          exact fun pins s σ ov iv I r1 r2 => getD (units1 hz.on.room) pins s σ _ _ _ ov iv Q I r1 r2 ⟨a, w, rfl, g, h.val hz m2⟩
      · rw [if_neg kt] at h; exact h.elim
end
end VS
namespace VS
open PySem PySem.Spec PyProof.Rows L2
variable [Tables]
def sAugP (i : Nat) (fk : DE) (g : VS.D → VS.D → M VS.D) (fv : DE) : DS := fun ρ S => sLift fk ρ S fun k S1 => match ρ[i]? with
  | some d => sLift (fun _ => dIx d k) ρ S1 fun old S2 => sLift fv ρ S2 fun v S3 => sLift (fun _ => g old v) ρ S3 fun new S4 => match dSet d k new with
    | some d' => .nx (ρ.set i d') S4
    | none => .bad
  | none => .bad
section
variable {c : Sta} {Γ Γ' : List Bool} {z : Sit} {D : Ends} {br : Bool} {i : Nat} {x : Str} {px p2 pos : Pos} {k e : Expr} {fk fv : DE}
theorem VOk.str1 {d : VS.D} {v : V} {A : List Addr} {H : Hp} (h : VOk z false d v A H) : Rep H (Ex z.act.O0 A z.own) A d v := h.elim id fun q => by cases q.1
theorem cell_slot (hz : z.Ok c Γ) {i n : Nat} (e : z.ρ[i]? = some (.ref n)) : ∃ a, z.A[n]? = some a ∧ z.σ[i]? = some (some (.ref a)) := by
  have l1 := hz.rel.len1
  have l2 := hz.rel.len2
  have hi := (List.getElem?_eq_some_iff.mp e).1
  have ho : z.own[i]? = some z.own[i] := List.getElem?_eq_getElem (by omega)
  have hs : z.σ[i]? = some z.σ[i] := List.getElem?_eq_getElem (by omega)
  have sl := hz.rel.slot i _ _ _ e ho hs
  cases eo : z.own[i] with
  | some a => rw [eo] at sl; exact sl.2.elim
  | none =>
    rw [eo] at sl
    rcases sl with q | ⟨v, e1, a, e2, e3⟩
    · cases q
    · exact ⟨a, e2, by rw [hs, e1, e3]⟩
theorem cell_ok (hz : z.Ok c Γ) {n : Nat} {a : Addr} {d : VS.D} (ha : z.A[n]? = some a) (hd : z.S[n]? = some d) : CellOk z.H z.O z.A a d := hz.rel.cell n d a hd ha
def asgSub (o i : Expr) (pos : Pos) : Prop := ∀ env v, assign (.Subscript o i pos) env v = (do
      let ov ← holding [v] (eval o env)
      let iv ← holding [v, ov] (eval i env)
      standAt pos
      holding [v, ov, iv] (setItem ov iv v)
      release [v, ov, iv] [])
theorem vs_put (hi : seen c i x = true) (hg : Γ[i]? = some true) (hk : VE c Γ true k fk) (hv : VE c Γ false e fv) (ha : asgSub (.Name x px) k p2)
    (hs : ∀ env n, swapsWithSole [.Subscript (.Name x px) k p2] e n env = pure false) (hw : ∀ env, swappedStores [.Subscript (.Name x px) k p2] e env = pure none)
    (h1 : ∀ env, (assignEach [.Subscript (.Name x px) k p2] env).map (·.2) = [assign (.Subscript (.Name x px) k p2) env]) : VSt c Γ Γ (.Assign [.Subscript (.Name x px) k p2] e pos) (sPut i fk fv) := VSt.mk <| fun z hz D h => by
  obtain ⟨hN, hvi, hd, hcd⟩ := seen_ok hi
  refine wpS_of (ps_asg pe_wp (pg_sub (pe_var (i := i) (by rw [hz.on.N]; exact hN) (by rw [hz.on.sc]; exact hvi) hd hcd) pe_wp set_wp (ha _)) (hs _ _) (hw _) (h1 _)) ?_
  refine hv z hz _ (h.bind fun v vv S1 A1 H1 s1 o1 h1 => ?_)
  obtain ⟨a, d, e1, e2, e3, ow⟩ := own_slot hz hg
  refine ⟨.ref a, e3, ?_⟩
  refine hk (z.to S1 A1 H1) (hz.to o1.1) _ (SPost.bind (z := z.to S1 A1 H1) (h1.step s1) fun kd kv S2 A2 H2 s2 o2 h2 => ?_)
  have hz2 : (z.to S2 A2 H2).Ok c Γ := hz.to o2.1
  obtain ⟨a2, d2, f1, f2, _, ow2⟩ := own_slot (z := z.to S2 A2 H2) hz2 hg
  rw [e1] at f1
  cases f1
  rw [e2] at f2
  cases f2
  have mem : some a ∈ z.own := List.mem_of_getElem? e1
  change SPost (z.to S1 A1 H1) c Γ (match z.ρ[i]? with | some d => (match dSet d kd v with | some d' => Out.nx (z.ρ.set i d') S2 | none => .bad) | none => .bad) D at h2
  rw [e2] at h2
  dsimp only at h2
  cases q : dSet d kd v with
  | none => rw [q] at h2; exact h2.elim
  | some d' =>
    rw [q] at h2
    refine set_at (z := z.to S2 A2 H2) hz2 (.inr (.inr mem)) ow2 o2.2 (Rep.step (z := z) (S := S1) s2 o1.2.str1) q fun u hm ow3 => ?_
    exact h2.nx hz.own (o2.1.mutate e1 hm ow3) (s2.move.trans (Move.mut mem hm))
theorem vs_putC (hpu : c.pu = false) (hi : seen c i x = true) (hk : VE c Γ true k fk) (hv : VE c Γ false e fv) (ha : asgSub (.Name x px) k p2)
    (hs : ∀ env n, swapsWithSole [.Subscript (.Name x px) k p2] e n env = pure false) (hw : ∀ env, swappedStores [.Subscript (.Name x px) k p2] e env = pure none)
    (h1 : ∀ env, (assignEach [.Subscript (.Name x px) k p2] env).map (·.2) = [assign (.Subscript (.Name x px) k p2) env]) : VSt c Γ Γ (.Assign [.Subscript (.Name x px) k p2] e pos) (sPutC i fk fv) := VSt.mk <| fun z hz D h => by
  obtain ⟨hN, hvi, hd, hcd⟩ := seen_ok hi
  refine wpS_of (ps_asg pe_wp (pg_sub (pe_var (i := i) (by rw [hz.on.N]; exact hN) (by rw [hz.on.sc]; exact hvi) hd hcd) pe_wp set_wp (ha _)) (hs _ _) (hw _) (h1 _)) ?_
  unfold sPutC at h
  cases er : z.ρ[i]? with
  | none => rw [er] at h; exact h.elim
  | some d0 =>
    rw [er] at h
    cases d0 with
    | ref n =>
      dsimp only at h
      refine hv z hz _ (h.bind fun v vv S1 A1 H1 s1 o1 h1 => ?_)
      obtain ⟨a, e2, e3⟩ := cell_slot hz er
      refine ⟨.ref a, e3, ?_⟩
      refine hk (z.to S1 A1 H1) (hz.to o1.1) _ (SPost.bind (z := z.to S1 A1 H1) (h1.step s1) fun kd kv S2 A2 H2 s2 o2 h2 => ?_)
      have hz2 : (z.to S2 A2 H2).Ok c Γ := hz.to o2.1
      have e4 : A2[n]? = some a := pre_get s2.pre (pre_get s1.pre e2)
      change SPost (z.to S1 A1 H1) c Γ (match S2[n]? with | some d => (match dSet d kd v with | some d' => Out.nx z.ρ (S2.set n d') | none => .bad) | none => .bad) D at h2
      cases es : S2[n]? with
      | none => rw [es] at h2; exact h2.elim
      | some d =>
        rw [es] at h2
        dsimp only at h2
        have ow := cell_ok (z := z.to S2 A2 H2) hz2 e4 es
        cases q : dSet d kd v with
        | none => rw [q] at h2; exact h2.elim
        | some d' =>
          rw [q] at h2
          have mem : a ∈ A2 := List.mem_of_getElem? e4
          rcases ow with ow | ow
          · subst ow; cases q
          · refine set_at (z := z.to S2 A2 H2) hz2 (.inr (.inl mem)) ow o2.2 (Rep.step (z := z) (S := S1) s2 o1.2.str1) q fun u hm ow3 => ?_
            exact h2.nx hz.own (o2.1.put e4 (.inl (by rw [hz.pu.1, hpu])) hm ow3) (s2.move.trans (Move.put mem hm))
    | _ => exact h.elim
abbrev augSub (k : Expr) : Prop := ∀ ov iv new, augStore k ov iv new = (do holding [new, ov, iv] (setItem ov iv new); release [new, ov, iv] []; pure .next)
theorem vs_augC {op : Operator} {g : VS.D → VS.D → M VS.D} (hpu : c.pu = false) (ho : VOp c (inplaceOp op) g) (hi : seen c i x = true) (hk : VE c Γ true k fk) (hv : VE c Γ true e fv) (ha : augSub k) :
    VSt c Γ Γ (.AugAssign (.Subscript (.Name x px) k p2) op e pos) (sAugC i fk g fv) := VSt.mk <| fun z hz D h => by
  obtain ⟨hN, hvi, hd, hcd⟩ := seen_ok hi
  refine wpS_of (ps_augS (pe_var (i := i) (by rw [hz.on.N]; exact hN) (by rw [hz.on.sc]; exact hvi) hd hcd) pe_wp get_wp pe_wp ip_wp set_wp ha) ?_
  unfold sAugC at h
  cases er : z.ρ[i]? with
  | none => rw [er] at h; exact h.elim
  | some d0 =>
    rw [er] at h
    cases d0 with
    | ref n =>
      dsimp only at h
      obtain ⟨a, e2, e3⟩ := cell_slot hz er
      refine ⟨.ref a, e3, ?_⟩
      refine hk z hz _ (h.bind fun kd kv S1 A1 H1 s1 o1 h1 => ?_)
      have hz1 := hz.to o1.1
      have f1 : A1[n]? = some a := pre_get s1.pre e2
      cases es : S1[n]? with
      | none => rw [es] at h1; exact h1.elim
      | some d =>
        rw [es] at h1
        dsimp only at h1
        rcases cell_ok (z := z.to S1 A1 H1) hz1 f1 es with ow | ow
        · subst ow
          unfold sLift at h1
          cases kd <;> exact h1.elim
        refine get_at (z := z.to S1 A1 H1) hz1 ow o1.2 (SPost.bind (z := z.to S1 A1 H1) (m := fun _ => dIx d kd) (h1.step s1) fun od ov S2 A2 H2 s2 o2 h2 => ?_)
        have hz2 : (z.to S2 A2 H2).Ok c Γ := hz.to o2.1
        refine hv (z.to S2 A2 H2) hz2 _ (SPost.bind (z := z.to S2 A2 H2) (SPost.step (z := z.to S1 A1 H1) s2 h2) fun vd vv S3 A3 H3 s3 o3 h3 => ?_)
        have hz3 : (z.to S3 A3 H3).Ok c Γ := hz.to o3.1
        have oo : VOk (z.to S3 A3 H3) true od ov A3 H3 := by
          have q := VOk.step (z := z) (S := S2) o2.1 s3 o2.2
          exact q.elim .inl fun q => by cases q.1
        refine ho Γ (z.to S3 A3 H3) hz3 od vd ov vv oo o3.2 _ (SPost.bind (z := z.to S3 A3 H3) (m := fun _ => g od vd) (SPost.step (z := z.to S2 A2 H2) s3 h3) fun nd nv S4 A4 H4 s4 o4 h4 => ?_)
        have hz4 : (z.to S4 A4 H4).Ok c Γ := hz.to o4.1
        have f4 : A4[n]? = some a := pre_get s4.pre (pre_get s3.pre (pre_get s2.pre f1))
        have kk : VOk (z.to S4 A4 H4) true kd kv A4 H4 := VOk.step (z := z) (S := S1) o1.1 (s2.trans (s3.trans s4)) o1.2
        change SPost (z.to S3 A3 H3) c Γ (match S4[n]? with | some d2 => (match dSet d2 kd nd with | some d' => Out.nx z.ρ (S4.set n d') | none => .bad) | none => .bad) D at h4
        cases es4 : S4[n]? with
        | none => rw [es4] at h4; exact h4.elim
        | some d2 =>
          rw [es4] at h4
          dsimp only at h4
          cases q : dSet d2 kd nd with
          | none => rw [q] at h4; exact h4.elim
          | some d' =>
            rw [q] at h4
            have mem : a ∈ A4 := List.mem_of_getElem? f4
            rcases cell_ok (z := z.to S4 A4 H4) hz4 f4 es4 with ow4 | ow4
            · subst ow4; cases q
            · refine set_at (z := z.to S4 A4 H4) hz4 (.inr (.inl mem)) ow4 kk o4.2.str1 q fun u hm ow5 => ?_
              exact h4.nx hz.own (o4.1.put f4 (.inl (by rw [hz.pu.1, hpu])) hm ow5) (s4.move.trans (Move.put mem hm))
    | _ => exact h.elim
theorem vs_aug {op : Operator} {g : VS.D → VS.D → M VS.D} (ho : VOp c (inplaceOp op) g) (hi : stored c i x = true) (hse : seen c i x = true) (hv : VE c Γ true e fv) :
    VSt c Γ (Γ.set i false) (.AugAssign (.Name x px) op e pos) (sSet i (eBin g (eVar i) fv)) := VSt.mk <| fun z hz D h => by
  obtain ⟨h1, h2, h3⟩ := stored_ok hi hz
  refine wpS_of (ps_aug (i := i) hz.on.nd h1 h2 pe_wp ip_wp h3) ?_
  unfold sSet sLift eBin at h
  rw [bind_run] at h
  cases er : eVar i z.ρ z.S with
  | exc x S => unfold eVar at er; cases q : z.ρ[i]? with
    | none => rw [q] at er; cases er
    | some d => rw [q] at er; cases d <;> cases er
  | bad => rw [er] at h; exact h.elim
  | ok d0 S0 =>
    have es : S0 = z.S := by
      unfold eVar at er; cases q : z.ρ[i]? with
      | none => rw [q] at er; cases er
      | some d => rw [q] at er; cases d <;> cases er <;> rfl
    subst es
    rw [er] at h
    dsimp only at h
    have key : ∃ v, z.σ[i]? = some (some v) ∧ VOk z true d0 v z.A z.H := by
      have hr : z.ρ[i]? = some d0 ∧ d0 ≠ .und := by
        unfold eVar at er; cases q : z.ρ[i]? with
        | none => rw [q] at er; cases er
        | some d => rw [q] at er; cases d <;> cases er <;> exact ⟨rfl, fun z => by cases z⟩
      have hi := (List.getElem?_eq_some_iff.mp hr.1).1
      have l1 := hz.rel.len1
      have l2 := hz.rel.len2
      have ho : z.own[i]? = some z.own[i] := List.getElem?_eq_getElem (by omega)
      have hs : z.σ[i]? = some z.σ[i] := List.getElem?_eq_getElem (by omega)
      have sl := hz.rel.slot i d0 _ _ hr.1 ho hs
      cases eo : z.own[i] with
      | none =>
        rw [eo] at sl
        rcases sl with sl | ⟨v, e1, r⟩
        · exact absurd sl hr.2
        · exact ⟨v, by rw [hs, e1], .inl r⟩
      | some a =>
        rw [eo] at sl
        exact ⟨.ref a, by rw [hs, sl.1], .inr ⟨rfl, a, rfl, .inl (by rw [← eo]; exact List.getElem_mem _), sl.2⟩⟩
    obtain ⟨v0, e0, o0⟩ := key
    refine ⟨v0, e0, ?_⟩
    have h' : SPost z c (Γ.set i false) (sLift fv z.ρ z.S fun v S1 => sLift (fun _ => g d0 v) z.ρ S1 fun d S' => .nx (z.ρ.set i d) S') D := by
      unfold sLift
      rw [bind_run] at h
      cases q : fv z.ρ z.S with
      | ok v S1 => rw [q] at h; exact h
      | exc x S1 => rw [q] at h; exact h
      | bad => rw [q] at h; exact h
    refine hv z hz _ (h'.bind fun vd vv S1 A1 H1 s1 o1 h1 => ?_)
    have hz1 := hz.to o1.1
    have oo : VOk (z.to S1 A1 H1) true d0 v0 A1 H1 := VOk.step (z := z) hz.rel s1 o0
    refine ho Γ (z.to S1 A1 H1) hz1 d0 vd v0 vv oo o1.2 _ (SPost.bind (z := z.to S1 A1 H1) (m := fun _ => g d0 vd) (h1.step s1) fun nd nv S2 A2 H2 s2 o2 h2 => ?_)
    exact h2.nx (own' := z.own.set i none) (by rw [isSome_set, hz.own]) (o2.1.setVal (.inr o2.2.str1)) ⟨s2.pre, s2.new, fun a ha => (mem_set_own ha).elim (fun e => by cases e) .inl, s2.chg.mono fun _ h => .inl h.2⟩
end
end VS
namespace VS
open PySem PySem.Spec PyProof.Rows L2
variable [Tables]
theorem Src.obj {src : Src} {h : Heap} {it : Addr} {i : Nat} (q : src.st h it i) : ∃ o, h.get? it = some o ∧ ∀ v, o.data ≠ .cell v := by
  cases src with
  | l a => obtain ⟨o, ho, _, hd⟩ := q; exact ⟨o, ho, fun v e => by rw [hd] at e; cases e⟩
  | t a => obtain ⟨o, ho, _, hd⟩ := q; exact ⟨o, ho, fun v e => by rw [hd] at e; cases e⟩
  | s x => obtain ⟨t, o, ho, _, hd⟩ := q; exact ⟨o, ho, fun v e => by rw [hd] at e; cases e⟩
section
variable {X : Cx} {pins : List (Addr × Obj)} {σ : L2.St} {H : Hp} {s : Shared}
theorem Src.draw (I : Inv X pins σ H s) (hc : X.calm = true) {src : Src} {xs : List V} {it : Addr} {i : Nat} (q : src.holds X.K H xs) (st : src.st s.heap it i) (ap : ∀ a, src.adr = some a → a ≠ it) :
    ∃ (fp : List Addr) (n : Nat) (P : Nat → Value → Prop) (St : Nat → Heap → Prop), Draws X.prog X.w X.A.in1 it fp n P St ∧ St i s.heap ∧ it ∈ fp ∧ (∀ b ∈ fp, b = it ∨ src.adr = some b) ∧ n = xs.length ∧
      (∀ j v, P j v → ∃ x, xs[j]? = some x ∧ RelV x v) ∧ ∀ j h, St j h → src.st h it j := by
  have hh : X.A.in1.handled = none := I.ok.hd hc
  have back : ∀ {its : List Value}, Vals xs its → ∀ (j : Nat) (v : Value), its.toArray[j]? = some v → ∃ x, xs[j]? = some x ∧ RelV x v := fun {its} rv j v e => by
    have e2 : its[j]? = some v := by simpa using e
    have hj : j < xs.length := by rw [rv.length]; exact (List.getElem?_eq_some_iff.mp e2).1
    obtain ⟨u, e3, r⟩ := rv.get (List.getElem?_eq_getElem hj)
    rw [e2] at e3
    cases e3
    exact ⟨_, List.getElem?_eq_getElem hj, r⟩
  cases src with
  | l a =>
    obtain ⟨its, rv, p, _⟩ := I.list q
    exact ⟨_, _, _, _, Draws.list hh it a (ap a rfl) its.toArray, ⟨st, p.isList⟩, List.mem_cons_self, fun b hb => (by simpa [Src.adr, eq_comm] using hb), (by rw [List.size_toArray, rv.length]), back rv, fun j h z => z.1⟩
  | t a =>
    obtain ⟨its, rv, p, _⟩ := I.tuple q
    exact ⟨_, _, _, _, Draws.tuple hh it a (ap a rfl) its.toArray, ⟨st, p⟩, List.mem_cons_self, fun b hb => (by simpa [Src.adr, eq_comm] using hb), (by rw [List.size_toArray, rv.length]), back rv, fun j h z => z.1⟩
  | s x =>
    obtain ⟨t, st⟩ := st
    have q : xs = x.cps.toList.map fun c => V.str ⟨#[c]⟩ := q
    refine ⟨_, _, _, _, Draws.text hh it x t, st, List.mem_cons_self, fun b hb => .inl (by simpa using hb), (by rw [q]; simp), fun j v e => ?_, fun j h z => ⟨t, z⟩⟩
    obtain ⟨cp, u, e1, e2⟩ := e
    refine ⟨.str ⟨#[cp]⟩, ?_, ?_⟩
    · rw [q, List.getElem?_map, Array.getElem?_toList, e1]; rfl
    · rw [e2]; exact ⟨u, rfl⟩
theorem Src.starts (I : Inv X pins σ H s) {src : Src} {xs : List V} {u : Value} (q : src.holds X.K H xs) (r : RelV src.v u) : ∃ (o : Obj) (Hh : Heap → Prop), Begins u o Hh ∧ Hh s.heap ∧ ∀ (h : Heap) (it : Addr), h.get? it = some o → src.st h it 0 := by
  cases src with
  | l a =>
    obtain ⟨its, rv, p, _⟩ := I.list q
    obtain rfl : u = Value.ref a := r
    exact ⟨_, _, begins_list a its.toArray, p.isList, fun h it e => ⟨_, e, rfl, rfl⟩⟩
  | t a =>
    obtain ⟨its, rv, p, _⟩ := I.tuple q
    obtain rfl : u = Value.ref a := r
    exact ⟨_, _, begins_tuple a its.toArray, p, fun h it e => ⟨_, e, rfl, rfl⟩⟩
  | s x =>
    obtain ⟨t, rfl⟩ := r
    exact ⟨_, _, begins_text x t, trivial, fun h it e => ⟨t, _, e, rfl, rfl⟩⟩
end
def ItE (K : PySem.W.Frag) (src : Src) : It :=
  ⟨fun i H => ∃ (xs : List V) (x : V), src.holds K H xs ∧ xs[i]? = some x, fun i H v H' => ∃ T x, v = .ref T ∧ H T = none ∧ H' = upd H T (.tup [.int (i : Nat), x]) ∧ ∀ ys, src.holds K H ys → ys[i]? = some x, fun i H => ∃ xs : List V, src.holds K H xs ∧ xs.length = i⟩
theorem turnE {P : Program} {w : World} {K : PySem.W.Frag} {elts : List Expr} {kk : Nat} {tpos : Pos} (src : Src) (e it : Addr) (hne : e ≠ it) (ap : ∀ a, src.adr = some a → a ≠ e ∧ a ≠ it) :
    Turn P w K (.Tuple elts kk tpos) (ItE K src) [e, it] e (fun i h => (∃ old, IsEnum h e it ((i : Nat) : Int) old) ∧ src.st h it i) where
  mem := List.mem_cons_self
  obj := fun i h st b hb => by
    obtain ⟨⟨old, he⟩, hi⟩ := st
    rcases List.mem_cons.mp hb with z | z
    · rw [z]; exact ⟨_, he, fun v q => nomatch q⟩
    · rw [List.mem_singleton.mp z]; exact Src.obj hi
  keep := fun i h h' st k => ⟨st.1.imp fun old he => k e List.mem_cons_self _ he, Src.kept st.2 fun o q => k it (List.mem_cons_of_mem _ List.mem_cons_self) o q⟩
  item := by
    rintro X rfl rfl rfl hc i pins s σ H E I hf ⟨⟨old, he⟩, hit⟩ ⟨xs, x0, hq, hx⟩
    obtain ⟨fp, n, Pd, Sd, dr, sd, mem, sub, hn, hP, hS⟩ := Src.draw I hc hq hit fun a e => (ap a e).2
    have hel : e < s.heap.objs.size := Heap.lt_size he
    have hil : it < s.heap.objs.size := by obtain ⟨o, ho, _⟩ := Src.obj hit; exact Heap.lt_size ho
    have hlt : i < n := by rw [hn]; exact (List.getElem?_eq_some_iff.mp hx).1
    refine wpAny_pyNext_enum_itemD dr he sd hlt hne (fun z => (sub e z).elim hne fun q => (ap e q).1 rfl) fun u h1 tk pu ho st1 hT hsz hk => ?_
    obtain ⟨x, ex, ru⟩ := hP i u pu
    refine ⟨_, rfl, wpAny_letOwnedTupleGo_enum (s := { s with heap := h1, toks := tk + 1 }) ho fun h2 he2 sb => ?_⟩
    have hT2 : h2.get? s.heap.objs.size = some { cls := .type "tuple", data := .seq #[.int i tk, u] } := (sb.2 _ (Nat.ne_of_gt hel)).trans hT
    have new : ObjOk X.prog X.w (upd H s.heap.objs.size (.tup [.int (i : Nat), x])) h2 s.heap.objs.size (.tup [.int (i : Nat), x]) :=
      ⟨(by show 2 ≤ sizeLine; decide), [.int i tk, u], .cons ⟨_, rfl⟩ (.cons ru .nil), ⟨_, hT2, rfl, _, rfl⟩⟩
    have nb : ∀ {b : Addr}, b ∉ [e, it] → b ≠ e ∧ b ≠ it := fun hb => ⟨fun z => hb (by rw [z]; exact List.mem_cons_self), fun z => hb (by rw [z]; exact List.mem_cons_of_mem _ List.mem_cons_self)⟩
    have I1 : Inv X pins σ (upd H s.heap.objs.size (.tup [.int (i : Nat), x])) { s with heap := h2, toks := tk + 1 } :=
      I.turnedNew (ch := [e, it]) (fun b ob hb q => (sb.2 b (nb hb).1).trans (hk b ob (nb hb).1 (nb hb).2 q)) hf (Nat.le_refl _) new
    refine ⟨.ref s.heap.objs.size, _, I1, rfl, ⟨_, x, rfl, I.hok.fresh (Nat.le_refl _), rfl, fun ys hy => by rw [Src.inj I hy hq]; exact ex⟩, ⟨⟨u, ?_⟩, Src.kept (hS _ _ st1) fun o q => (sb.2 it (Ne.symm hne)).trans q⟩, fun b hb => ?_⟩
    · have e1 : ((i + 1 : Nat) : Int) = (i : Int) + 1 := by omega
      rw [e1]; exact he2
    · have hb' : b < s.heap.objs.size := by
        rcases List.mem_cons.mp hb with z | z
        · rw [z]; exact hel
        · rw [List.mem_singleton.mp z]; exact hil
      rw [upd_ne (Nat.ne_of_lt hb')]
      exact (hf b hb).1
  done := by
    rintro X rfl rfl rfl hc i pins s σ H E I hf ⟨⟨old, he⟩, hit⟩ ⟨xs, hq, hx⟩
    obtain ⟨fp, n, Pd, Sd, dr, sd, mem, sub, hn, hP, hS⟩ := Src.draw I hc hq hit fun a e => (ap a e).2
    have e0 : n = i := by rw [hn, hx]
    subst e0
    obtain ⟨f0, f1, f2, f3, f4, f5⟩ := hf it (List.mem_cons_of_mem _ List.mem_cons_self)
    exact wpAny_pyNext_enum_endD dr he sd fun h1 eb => ⟨rfl, I.turned (t' := s.toks) (fun b o hb q => eb b o hb q) f0 f1 f3 f4 f5⟩
  self := fun A i s Q E st h => by
    obtain ⟨⟨_, he⟩, _⟩ := st
    exact wpAny_pyIter_enum he h
set_option maxHeartbeats 1000000 in
theorem newEnum {v : Value} {o : Obj} {Hh : Heap → Prop} (B : Begins v o Hh) :
    Meets (Builtin.«enumerate.__new__» ⟨[.type "enumerate", v], []⟩) (fun _ R s => Hh s.heap ∧
      R (.ok (.ret (.ref (s.heap.push o).objs.size))) { s with heap := (s.heap.push o).push { cls := .type "enumerate", data := .fields #[.none, .bool false, .ref s.heap.objs.size, rawInt 0, .none, .none] } }) :=
  .of_wp fun prog w A R s h => by
    obtain ⟨hp, g, d, tk, os⟩ := s
    obtain ⟨h1, h⟩ := h
    have hsub := sub_enumerate
    have qi : ∀ {A2 : Around} {E : Value → Shared → Prop} {Q : Value → Shared → Prop}, Q (.ref hp.objs.size) ⟨hp.push o, g, d, tk, os⟩ → wpAny (model prog w) A2 (pyIter v) Q E ⟨hp, g, d, tk, os⟩ :=
      fun q => B.iter prog w _ _ ⟨hp, g, d, tk, os⟩ _ h1 q
    wp_walk using qi
    refine wpAny_stack_any fun st => wpAny_pure ?_
    split
    · rename_i cc _ _ _ _ _
      cases (cc == Value.type "enumerate") <;> (wp_walk using qi; exact ⟨_, rfl, h⟩)
    · wp_walk using qi
      exact ⟨_, rfl, h⟩
section
variable {prog : Program} {w : World} {A : Around} {E : Value → Shared → Prop} {s : Shared}
theorem callEnum {v : Value} {o : Obj} {Hh : Heap → Prop} {Q : Value → Shared → Prop} (B : Begins v o Hh) (h1 : Hh s.heap)
    (h : ∀ h2, IsEnum h2 (s.heap.objs.size + 1) s.heap.objs.size 0 .none → h2.get? s.heap.objs.size = some o → (∀ b ob, s.heap.get? b = some ob → h2.get? b = some ob) → Q (.ref (s.heap.objs.size + 1)) { s with heap := h2 }) :
    wpAny (model prog w) A (call (.type "enumerate") [v]) Q E s := by
  refine callType_new F.called_enumerate (by decide) (F.typeCall_enumerate_1 _) (F.newCall_enumerate_1 _) (fun obj => F.args_object_init_2 obj _) F.entry_enumerate_new (newEnum B) ⟨h1, ?_⟩
  have sz1 : (s.heap.push o).objs.size = s.heap.objs.size + 1 := by rw [Heap.size_push]
  show _ ∧ _
  rw [sz1]
  have he := Heap.get?_push_size (s.heap.push o) (o := { cls := .type "enumerate", data := .fields #[.none, .bool false, .ref s.heap.objs.size, rawInt 0, .none, .none] }) rfl
  rw [sz1] at he
  exact ⟨⟨_, he, rfl⟩, h _ he (Heap.get?_push_of_some _ (Heap.get?_push_size _ B.free)) fun b ob x => Heap.get?_push_of_some _ (Heap.get?_push_of_some _ x)⟩
end
def iE (K : PySem.W.Frag) (ta : TA) : TI := fun σ H R => ta σ H fun vs H1 => ∃ (src : Src) (xs : List V), vs = [src.v] ∧ src.holds K H1 xs ∧ R (ItE K src) H1
theorem piE {X : Cx} {e : Expr} {ta : TA} {p pos tpos : Pos} {elts : List Expr} {kk : Nat} (hg : Gl X "enumerate") (hm : X.mg "enumerate" = none) (ha : PA X [e] ta) (hs : starEach [e] X.env = [(false, eval e X.env)]) :
    PI X (.Tuple elts kk tpos) (.Call (.Name "enumerate" p) [e] [] pos) (iE X.K ta) := by
  constructor
  intro pins s σ H R I h
  refine Call_ (ld_blt I hg hm boot_enumerate (PyProof.Rows.callWith_type1 (thn (ha.run pos pins s σ H _ I h) fun us s1 q => ?_) hs rfl))
  obtain ⟨vs, H1, I1, r1, src, xs, rfl, hq, q⟩ := q
  cases r1 with
  | cons r rr =>
    cases rr
    obtain ⟨o, Hh, B, hb, st0⟩ := Src.starts I1 hq r
    refine callEnum B hb fun h2 he ho hk => wpAny_pyIter_enum he ?_
    have I2 : Inv X pins σ H1 { s1 with heap := h2 } := I1.kept (t' := s1.toks) hk
    have lt := Src.lt I1 hq
    refine ⟨s1.heap.objs.size + 1, [s1.heap.objs.size + 1, s1.heap.objs.size], _, _, H1, rfl, I2, turnE src (s1.heap.objs.size + 1) s1.heap.objs.size (Nat.succ_ne_self _) (fun a e => ⟨Nat.ne_of_lt (Nat.lt_succ_of_lt (lt a e)), Nat.ne_of_lt (lt a e)⟩), ⟨⟨.none, he⟩, st0 _ _ ho⟩, fun b hb => ?_, q⟩
    have hle : s1.heap.objs.size ≤ b := by
      rcases List.mem_cons.mp hb with z | z
      · rw [z]; exact Nat.le_add_right _ _
      · rw [List.mem_singleton.mp z]; exact Nat.le_refl _
    exact I1.fpOk hle (I1.hok.fresh hle)
def ItZ (K : PySem.W.Frag) (s1 s2 : Src) : It :=
  ⟨fun i H => ∃ (xs ys : List V) (x y : V), s1.holds K H xs ∧ s2.holds K H ys ∧ xs[i]? = some x ∧ ys[i]? = some y,
    fun i H v H' => ∃ T x y, v = .ref T ∧ H T = none ∧ H' = upd H T (.tup [x, y]) ∧ (∀ xs, s1.holds K H xs → xs[i]? = some x) ∧ ∀ ys, s2.holds K H ys → ys[i]? = some y,
    fun i H => ∃ xs ys : List V, s1.holds K H xs ∧ s2.holds K H ys ∧ i ≤ xs.length ∧ i ≤ ys.length ∧ (i = xs.length ∨ i = ys.length)⟩
theorem turnZ {P : Program} {w : World} {K : PySem.W.Frag} {elts : List Expr} {kk : Nat} {tpos : Pos} (r1 r2 : Src) (z TI TO i1 i2 : Addr) (nd : [z, TI, TO, i1, i2].Nodup) (a1 : ∀ a, r1.adr = some a → a ∉ [z, TI, TO, i1, i2]) (a2 : ∀ a, r2.adr = some a → a ∉ [z, TI, TO, i1, i2]) :
    Turn P w K (.Tuple elts kk tpos) (ItZ K r1 r2) [z, TI, TO, i1, i2] z (fun i h => IsZip h z TI TO .none ∧ IsTupOf2 h TI (.ref i1) (.ref i2) ∧ (∃ x y, IsTupOf2 h TO x y) ∧ r1.st h i1 i ∧ r2.st h i2 i) := by
  have five : ∀ {c : Addr}, c ∈ [z, TI, TO, i1, i2] → c = z ∨ c = TI ∨ c = TO ∨ c = i1 ∨ c = i2 := fun hc => by simpa using hc
  have m0 : z ∈ [z, TI, TO, i1, i2] := by simp
  have m1 : TI ∈ [z, TI, TO, i1, i2] := by simp
  have m2 : TO ∈ [z, TI, TO, i1, i2] := by simp
  have m3 : i1 ∈ [z, TI, TO, i1, i2] := by simp
  have m4 : i2 ∈ [z, TI, TO, i1, i2] := by simp
  simp only [List.nodup_cons, List.mem_cons, List.not_mem_nil, or_false, not_or, not_false_eq_true, List.nodup_nil, and_true] at nd
  obtain ⟨⟨n01, n02, n03, n04⟩, ⟨n12, n13, n14⟩, ⟨n23, n24⟩, n34⟩ := nd
  have sep : ∀ {fp1 fp2 : List Addr}, i1 ∈ fp1 → i2 ∈ fp2 → (∀ b ∈ fp1, b = i1 ∨ r1.adr = some b) → (∀ b ∈ fp2, b = i2 ∨ r2.adr = some b) → ZipSep2 z TI TO i1 i2 fp1 fp2 := fun h1 h2 s1 s2 =>
    ⟨Ne.symm n01, Ne.symm n02, n12, n13, h1, fun q => (s1 _ q).elim n03 fun q => a1 _ q m0, fun q => (s1 _ q).elim n23 fun q => a1 _ q m2, n14, h2, fun q => (s2 _ q).elim n04 fun q => a2 _ q m0, fun q => (s2 _ q).elim n24 fun q => a2 _ q m2,
      fun q => (s2 _ q).elim n34 fun q => a2 _ q m3, fun q => (s1 _ q).elim (Ne.symm n34) fun q => a1 _ q m4⟩
  refine ⟨m0, fun i h st c hc => ?_, fun i h h' st k => ?_, ?_, ?_, fun A i s Q E st h => wpAny_pyIter_zip st.1 h⟩
  · obtain ⟨hz, hTI, ⟨x, y, hTO⟩, h1, h2⟩ := st
    rcases five hc with q | q | q | q | q
    · rw [q]; exact ⟨_, hz, fun v q => nomatch q⟩
    · rw [q]; exact ⟨_, hTI, fun v q => nomatch q⟩
    · rw [q]; exact ⟨_, hTO, fun v q => nomatch q⟩
    · rw [q]; exact Src.obj h1
    · rw [q]; exact Src.obj h2
  · obtain ⟨hz, hTI, ⟨x, y, hTO⟩, h1, h2⟩ := st
    exact ⟨k z m0 _ hz, k TI m1 _ hTI, ⟨x, y, k TO m2 _ hTO⟩, Src.kept h1 fun o q => k i1 m3 o q, Src.kept h2 fun o q => k i2 m4 o q⟩
  · rintro X rfl rfl rfl hc i pins s σ H E I hf ⟨hz, hTI, ⟨x0, y0, hTO⟩, h1, h2⟩ ⟨xs, ys, x, y, hqx, hqy, hx, hy⟩
    obtain ⟨fp1, k1, P1, S1, d1, sd1, mm1, sub1, hn1, hP1, hS1⟩ := Src.draw I hc hqx h1 fun a e q => a1 a e (by rw [q]; exact m3)
    obtain ⟨fp2, k2, P2, S2, d2, sd2, mm2, sub2, hn2, hP2, hS2⟩ := Src.draw I hc hqy h2 fun a e q => a2 a e (by rw [q]; exact m4)
    have hzl : z < s.heap.objs.size := Heap.lt_size hz
    refine wpAny_pyNext_zipD2_item (sep mm1 mm2 sub1 sub2) d1 d2 hz hTI hTO sd1 sd2 (by rw [hn1]; exact (List.getElem?_eq_some_iff.mp hx).1) (by rw [hn2]; exact (List.getElem?_eq_some_iff.mp hy).1) fun u u2 h3 tk pu1 pu2 z3 TO3 st1 st2 hT hsz hk => ?_
    obtain ⟨x', ex, ru⟩ := hP1 i u pu1
    obtain ⟨y', ey, ru2⟩ := hP2 i u2 pu2
    refine ⟨_, rfl, wpAny_letOwnedTupleGo_zip (s := { s with heap := h3, toks := tk }) z3 fun h4 z4 sb => ?_⟩
    have hT2 : h4.get? s.heap.objs.size = some { cls := .type "tuple", data := .seq #[u, u2] } := (sb.2 _ (Nat.ne_of_gt hzl)).trans hT
    have new : ObjOk X.prog X.w (upd H s.heap.objs.size (.tup [x', y'])) h4 s.heap.objs.size (.tup [x', y']) := ⟨(by show 2 ≤ sizeLine; decide), [u, u2], .cons ru (.cons ru2 .nil), ⟨_, hT2, rfl, _, rfl⟩⟩
    have I1 : Inv X pins σ (upd H s.heap.objs.size (.tup [x', y'])) { s with heap := h4, toks := tk } :=
      I.turnedNew (t' := tk) (ch := [z, TI, TO, i1, i2]) (fun c o hb q => by
        have ne : ∀ {b : Addr}, b ∈ [z, TI, TO, i1, i2] → c ≠ b := fun hm e => hb (by rw [e]; exact hm)
        exact (sb.2 c (ne m0)).trans (hk c o (ne m0) (ne m2) (ne m3) (ne m4) q)) hf (Nat.le_refl _) new
    refine ⟨.ref s.heap.objs.size, _, I1, rfl, ⟨_, x', y', rfl, I.hok.fresh (Nat.le_refl _), rfl, fun l hl => by rw [Src.inj I hl hqx]; exact ex, fun l hl => by rw [Src.inj I hl hqy]; exact ey⟩,
      ⟨z4, (sb.2 _ (Ne.symm n01)).trans (hk _ _ (Ne.symm n01) n12 n13 n14 hTI), ⟨u, u2, (sb.2 _ (Ne.symm n02)).trans TO3⟩, Src.kept (hS1 _ _ st1) fun o q => (sb.2 _ (Ne.symm n03)).trans q, Src.kept (hS2 _ _ st2) fun o q => (sb.2 _ (Ne.symm n04)).trans q⟩, fun c hcm => ?_⟩
    have hlt : c < s.heap.objs.size := by
      rcases five hcm with q | q | q | q | q
      · rw [q]; exact hzl
      · rw [q]; exact Heap.lt_size hTI
      · rw [q]; exact Heap.lt_size hTO
      · rw [q]; obtain ⟨o, ho, _⟩ := Src.obj h1; exact Heap.lt_size ho
      · rw [q]; obtain ⟨o, ho, _⟩ := Src.obj h2; exact Heap.lt_size ho
    rw [upd_ne (Nat.ne_of_lt hlt)]
    exact (hf c hcm).1
  · rintro X rfl rfl rfl hc i pins s σ H E I hf ⟨hz, hTI, ⟨x0, y0, hTO⟩, h1, h2⟩ ⟨xs, ys, hqx, hqy, l1, l2, hend⟩
    obtain ⟨fp1, k1, P1, S1, d1, sd1, mm1, sub1, hn1, hP1, hS1⟩ := Src.draw I hc hqx h1 fun a e q => a1 a e (by rw [q]; exact m3)
    obtain ⟨fp2, k2, P2, S2, d2, sd2, mm2, sub2, hn2, hP2, hS2⟩ := Src.draw I hc hqy h2 fun a e q => a2 a e (by rw [q]; exact m4)
    refine wpAny_pyNext_zipD2_end (sep mm1 mm2 sub1 sub2) d1 d2 hz hTI hTO sd1 sd2 (by rw [hn1]; exact l1) (by rw [hn2]; exact l2) (by rw [hn1, hn2]; exact hend) fun h3 tk hk => ⟨rfl, I.turnedL (t' := tk) (ch := [z, TI, TO, i1, i2]) (fun c o hb q => ?_) hf⟩
    have ne : ∀ {b : Addr}, b ∈ [z, TI, TO, i1, i2] → c ≠ b := fun hm e => hb (by rw [e]; exact hm)
    exact hk c o (ne m0) (ne m2) (ne m3) (ne m4) q
def iZ (K : PySem.W.Frag) (ta : TA) : TI := fun σ H R => ta σ H fun vs H1 => ∃ (r1 r2 : Src) (xs ys : List V), vs = [r1.v, r2.v] ∧ r1.holds K H1 xs ∧ r2.holds K H1 ys ∧ R (ItZ K r1 r2) H1
theorem piZ {X : Cx} {e e2 : Expr} {ta : TA} {p pos tpos : Pos} {elts : List Expr} {kk : Nat} (hg : Gl X "zip") (hm : X.mg "zip" = none) (ha : PA X [e, e2] ta)
    (hs : starEach [e, e2] X.env = (false, eval e X.env) :: starEach [e2] X.env) (hpl : (backTo pos (starEach [e2] X.env)).any (·.1) = false) :
    PI X (.Tuple elts kk tpos) (.Call (.Name "zip" p) [e, e2] [] pos) (iZ X.K ta) := by
  constructor
  intro pins s σ H R I h
  refine Call_ (ld_blt I hg hm PyProof.Rows.boot_zip (PyProof.Rows.callWith_type1 (thn (ha.run pos pins s σ H _ I h) fun us s1 q => ?_) hs hpl))
  obtain ⟨vs, H1, I1, rr1, r1, r2, xs, ys, rfl, hqx, hqy, q⟩ := q
  cases rr1 with
  | cons ra rr =>
    cases rr with
    | cons rb rr =>
      cases rr
      obtain ⟨o1, Hh1, B1, hb1, st1⟩ := Src.starts I1 hqx ra
      obtain ⟨o2, Hh2, B2, hb2, st2⟩ := Src.starts I1 hqy rb
      refine zip_begins2 B1 B2 hb1 hb2 fun h2 hz hTI hTO g1 g2 hsz hk => wpAny_pyIter_zip hz ?_
      have I2 : Inv X pins σ H1 { s1 with heap := h2 } := I1.kept (t' := s1.toks) hk
      have big : ∀ c ∈ [s1.heap.objs.size + 4, s1.heap.objs.size + 2, s1.heap.objs.size + 3, s1.heap.objs.size, s1.heap.objs.size + 1], s1.heap.objs.size ≤ c := fun c hc => by
        simp only [List.mem_cons, List.not_mem_nil, or_false] at hc
        rcases hc with z | z | z | z | z <;> rw [z]
        · exact Nat.le_add_right _ _
        · exact Nat.le_add_right _ _
        · exact Nat.le_add_right _ _
        · exact Nat.le_refl _
        · exact Nat.le_add_right _ _
      have ndp : ∀ n : Nat, [n + 4, n + 2, n + 3, n, n + 1].Nodup := fun n => by
        simp only [List.nodup_cons, List.mem_cons, List.not_mem_nil, or_false, not_or, not_false_eq_true, List.nodup_nil, and_true]
        omega
      exact ⟨s1.heap.objs.size + 4, [s1.heap.objs.size + 4, s1.heap.objs.size + 2, s1.heap.objs.size + 3, s1.heap.objs.size, s1.heap.objs.size + 1], _, _, H1, rfl, I2,
        turnZ r1 r2 _ _ _ _ _ (ndp _) (fun a e hm => Nat.lt_irrefl _ (Nat.lt_of_lt_of_le (Src.lt I1 hqx a e) (big a hm))) (fun a e hm => Nat.lt_irrefl _ (Nat.lt_of_lt_of_le (Src.lt I1 hqy a e) (big a hm))), ⟨hz, hTI, ⟨_, _, hTO⟩, st1 _ _ g1, st2 _ _ g2⟩, fun b hb => I1.fpOk (big b hb) (I1.hok.fresh (big b hb)), q⟩
end VS
namespace VS
open PySem PySem.Spec PyProof.Rows L2
variable [Tables]
abbrev Mov (z : Sit) (br : Bool) (A' : List Addr) (b : Addr) : Prop := (b ∈ A' ∧ (br = false ∨ z.ep = false)) ∨ (br = false ∧ some b ∈ z.own)
section
variable {c : Sta} {Γ : List Bool} {z : Sit} {br : Bool}
theorem src_of {d : VS.D} {ds : List VS.D} {v : V} {S' : Store} {A' : List Addr} {H' : Hp} (r : z.R S' A' H') (o : VOk z br d v A' H') (e : iterB d = some ds) :
    ∃ (src : Src) (xs : List V), v = src.v ∧ (∀ H2, Chg (Mov z br A') H' H2 → src.holds z.X.K H2 xs) ∧ xs.length = ds.length ∧
      ∀ (i : Nat) (d : VS.D), ds[i]? = some d → ∃ x, xs[i]? = some x ∧ ∀ H2 O2 A2, Go (Mov z br A') H' H2 (Ex z.act.O0 A' z.own) O2 A' A2 → Rep H2 O2 A2 d x := by
  have nM : ∀ a, ¬ Ex z.act.O0 A' z.own a → ¬ Mov z br A' a := fun a n q => n (q.elim (fun q => .inr (.inl q.1)) fun q => .inr (.inr q.2))
  have el : ∀ {es : List VS.D} {us : List V}, RepL H' (Ex z.act.O0 A' z.own) A' es us → ∀ (i : Nat) (d : VS.D), es[i]? = some d → ∃ x, us[i]? = some x ∧ ∀ H2 O2 A2, Go (Mov z br A') H' H2 (Ex z.act.O0 A' z.own) O2 A' A2 → Rep H2 O2 A2 d x := fun l i d hi => by
    obtain ⟨x, e1, e2⟩ := l.get hi
    exact ⟨x, e1, fun H2 O2 A2 g => Rep.go g d x e2⟩
  cases d with
  | lst es =>
    cases e
    have w : ∃ a vs, v = .ref a ∧ H' a = some (.lst vs) ∧ RepL H' (Ex z.act.O0 A' z.own) A' ds vs ∧ ¬ Mov z br A' a := by
      rcases o with ⟨a, vs, e, h, n, l⟩ | ⟨hb, a, e, m, vs, h, l⟩
      · exact ⟨a, vs, e, h, l, nM a n⟩
      · refine ⟨a, vs, e, h, l, fun q => q.elim (fun q => m.elim (fun m => r.apart a m q.1) fun m => q.2.elim (fun q => ?_) fun q => ?_) fun q => ?_⟩
        · rw [hb] at q; cases q
        · rw [m.1] at q; cases q
        · rw [hb] at q; cases q.1
    obtain ⟨a, vs, e, h, l, n⟩ := w
    exact ⟨.l a, vs, e, fun H2 q => q.sql h n, l.len, el l⟩
  | tup es =>
    cases e
    obtain ⟨a, vs, e, h, l⟩ := o.tup
    exact ⟨.t a, vs, e, fun H2 q => .of (q.imm a _ h fun z => z), l.len, el l⟩
  | tix es =>
    cases e
    obtain ⟨a, ob, vs, e, h, _, l⟩ := o.tix
    exact ⟨.t a, vs, e, fun H2 q => .inl (.inr ⟨ob, q.imm a _ h fun z => z⟩), l.len, el l⟩
  | scr es =>
    cases e
    have w : ∃ a ob vs, v = .ref a ∧ H' a = some (.frz ob (.lst vs)) ∧ RepL H' (Ex z.act.O0 A' z.own) A' ds vs := by
      rcases o with q | ⟨_, _, _, _, q⟩
      · exact q
      · exact q.elim
    obtain ⟨a, ob, vs, e, h, l⟩ := w
    exact ⟨.l a, vs, e, fun H2 q => .inl (.inr ⟨ob, q.imm a _ h fun x => x⟩), l.len, el l⟩
  | str s =>
    cases e
    obtain ⟨e, ok⟩ := o.str
    refine ⟨.s ⟨s.toArray⟩, s.map fun c => V.str ⟨#[c]⟩, e, fun H2 q => rfl, by simp, fun i d hi => ?_⟩
    rw [List.getElem?_map] at hi
    cases hc : s[i]? with
    | none => rw [hc] at hi; cases hi
    | some cp =>
      rw [hc] at hi
      cases hi
      exact ⟨.str ⟨#[cp]⟩, by rw [List.getElem?_map, hc]; rfl, fun H2 O2 A2 g => ⟨rfl, by show 1 ≤ 16777216; decide, fun y hy => (by rw [List.mem_singleton.mp hy]; exact ok.2 cp (List.mem_of_getElem? hc))⟩⟩
  | _ => cases e
theorem enumL_get : ∀ (ds : List VS.D) (k i : Nat), (enumL k ds)[i]? = ds[i]?.map fun d => .tup [.int ((k + i : Nat) : Int), d]
  | [], k, i => rfl
  | d :: ds, k, 0 => rfl
  | d :: ds, k, i + 1 => by
    show (enumL (k + 1) ds)[i]? = _
    rw [enumL_get ds (k + 1) i, List.getElem?_cons_succ]
    congr 1
    funext d
    rw [show k + 1 + i = k + (i + 1) by omega]
theorem enumL_len (ds : List VS.D) (k : Nat) : (enumL k ds).length = ds.length := by
  induction ds generalizing k with
  | nil => rfl
  | cons d ds ih => show (enumL (k + 1) ds).length + 1 = _; rw [ih]; rfl
theorem zipL_get : ∀ (as bs : List VS.D) (i : Nat) (d : VS.D), (zipL as bs)[i]? = some d → ∃ a b, as[i]? = some a ∧ bs[i]? = some b ∧ d = .tup [a, b]
  | a :: as, b :: bs, 0, d, h => by cases h; exact ⟨a, b, rfl, rfl, rfl⟩
  | a :: as, b :: bs, i + 1, d, h => zipL_get as bs i d h
  | [], _, i, d, h => by simp [zipL] at h
  | _ :: _, [], i, d, h => by simp [zipL] at h
theorem zipL_len : ∀ (as bs : List VS.D), (zipL as bs).length = min as.length bs.length
  | a :: as, b :: bs => by
    show (zipL as bs).length + 1 = _
    rw [zipL_len as bs, List.length_cons, List.length_cons]
    omega
  | [], bs => by simp [zipL]
  | _ :: _, [] => by simp [zipL]
variable {e e2 : Expr} {fe f2 : DE} {p pos tpos : Pos} {elts : List Expr} {kk : Nat}
theorem vi_enum (hg : glob c "enumerate" = true) (hm : c.g.mg "enumerate" = none) (he : VE c Γ br e fe) (hs : ∀ env, starEach [e] env = [(false, eval e env)]) : VI c Γ br (.Tuple elts kk tpos) (.Call (.Name "enumerate" p) [e] [] pos) (iEnumD fe) := VI.mk <| fun z hz R h =>
  wpI_of (piE (hz.gl hg) (by rw [hz.on.mg]; exact hm) (pa_cons pe_wp pa_nil (hs _)) (hs _)) (he z hz _ (IPost.bind h fun d v S' A' H' s o h' => by
    rw [bind_run] at h'
    unfold dIter at h'
    cases ei : iterB d with
    | none => rw [ei] at h'; exact h'.elim
    | some ds =>
      rw [ei] at h'
      dsimp only at h'
      obtain ⟨src, xs, ev, hold, hl, el⟩ := src_of o.1 o.2 ei
      refine ⟨src, xs, by rw [ev], hold H' Chg.refl, h' _ A' H' Step.refl o.1 ⟨fun i H2 hi q => ?_, fun H2 q => ?_, fun i d' H2 x H3 hi q y => ?_⟩⟩
      · rw [enumL_len] at hi
        obtain ⟨x, ex, _⟩ := el i ds[i] (List.getElem?_eq_getElem hi)
        exact ⟨xs, x, hold H2 q, ex⟩
      · rw [enumL_len]
        exact ⟨xs, hold H2 q, hl⟩
      · rw [enumL_get] at hi
        cases hd : ds[i]? with
        | none => rw [hd] at hi; cases hi
        | some d1 =>
          rw [hd] at hi
          cases hi
          obtain ⟨T, x1, e1, n, e3, k⟩ := y
          subst e1 e3
          obtain ⟨x2, ex, rep⟩ := el i d1 hd
          have e4 := k xs (hold H2 q)
          rw [ex] at e4
          cases e4
          refine ⟨chg_new n, fun O2 A2 g => ⟨T, _, rfl, upd_same, _, _, rfl, ?_, _, _, rfl, (rep H2 O2 A2 g).new n, rfl⟩⟩
          show V.int _ = V.int _
          rw [Nat.zero_add]))
theorem vi_zip (hg : glob c "zip" = true) (hm : c.g.mg "zip" = none) (he : VE c Γ br e fe) (h2 : VE c Γ br e2 f2) (hs : ∀ env, starEach [e, e2] env = (false, eval e env) :: starEach [e2] env) (hs2 : ∀ env, starEach [e2] env = [(false, eval e2 env)]) (hpl : ∀ env, (backTo pos (starEach [e2] env)).any (·.1) = false) :
    VI c Γ br (.Tuple elts kk tpos) (.Call (.Name "zip" p) [e, e2] [] pos) (iZipD fe f2) := VI.mk <| fun z hz R h =>
  wpI_of (piZ (hz.gl hg) (by rw [hz.on.mg]; exact hm) (pa_cons pe_wp (pa_cons pe_wp pa_nil (hs2 _)) (hs _)) (hs _) (hpl _)) (he z hz _ (IPost.bind h fun a v S1 A1 H1 s1 o1 h1 => h2 (z.to S1 A1 H1) (hz.to o1.1) _ (IPost.bind h1 fun b u S' A' H' s o h' => by
    rw [bind_run] at h'
    unfold dIter at h'
    cases ei : iterB a with
    | none => rw [ei] at h'; exact h'.elim
    | some as =>
      rw [ei] at h'
      dsimp only at h'
      rw [bind_run] at h'
      cases ej : iterB b with
      | none => rw [ej] at h'; exact h'.elim
      | some bs =>
        rw [ej] at h'
        dsimp only at h'
        have oa : VOk (z.to S' A' H') br a v A' H' := VOk.step (z := z) o1.1 s o1.2
        obtain ⟨r1, xs, ev, hold1, hl1, el1⟩ := src_of (z := z.to S' A' H') o.1 oa ei
        obtain ⟨r2, ys, eu, hold2, hl2, el2⟩ := src_of (z := z.to S' A' H') o.1 o.2 ej
        refine ⟨r1, r2, xs, ys, by rw [ev, eu], hold1 H' Chg.refl, hold2 H' Chg.refl, h' _ A' H' Step.refl o.1 ⟨fun i H2 hi q => ?_, fun H2 q => ?_, fun i d' H2 x H3 hi q y => ?_⟩⟩
        · rw [zipL_len] at hi
          have la : i < as.length := by omega
          have lb : i < bs.length := by omega
          obtain ⟨x, ex, _⟩ := el1 i as[i] (List.getElem?_eq_getElem la)
          obtain ⟨y, ey, _⟩ := el2 i bs[i] (List.getElem?_eq_getElem lb)
          exact ⟨xs, ys, x, y, hold1 H2 q, hold2 H2 q, ex, ey⟩
        · rw [zipL_len]
          exact ⟨xs, ys, hold1 H2 q, hold2 H2 q, by omega, by omega, by omega⟩
        · obtain ⟨a1, b1, ea, eb, ed⟩ := zipL_get as bs i d' hi
          subst ed
          obtain ⟨T, x1, y1, e1, n, e3, k1, k2⟩ := y
          subst e1 e3
          obtain ⟨x2, ex, rep1⟩ := el1 i a1 ea
          obtain ⟨y2, ey, rep2⟩ := el2 i b1 eb
          have e4 := k1 xs (hold1 H2 q)
          rw [ex] at e4
          cases e4
          have e5 := k2 ys (hold2 H2 q)
          rw [ey] at e5
          cases e5
          exact ⟨chg_new n, fun O2 A2 g => ⟨T, _, rfl, upd_same, _, _, rfl, (rep1 H2 O2 A2 g).new n, _, _, rfl, (rep2 H2 O2 A2 g).new n, rfl⟩⟩)))
end
end VS
namespace VS
open PySem PySem.Spec PyProof.Rows L2
variable [Tables]
def wpMt (X : Cx) (id : String) : V → List V → Hp → VK → Prop := fun x xs H Q => ∀ pins s σ v us, Inv X pins σ H s → RelV x v → Vals xs us → wpAny (model X.prog X.w) X.A (call (.builtin id) (v :: us)) (EP X pins σ Q) X.xe s
theorem mtR_wp {X : Cx} {id : String} : MtR X id (wpMt X id) := fun pins s σ H x xs v us Q I r rs h => h pins s σ v us I r rs
theorem wpMt_of {X : Cx} {id : String} {r : V → List V → Hp → VK → Prop} (h : MtR X id r) {x xs H Q} (q : r x xs H Q) : wpMt X id x xs H Q := fun pins s σ v us I rx rv => h pins s σ H x xs v us Q I rx rv q
def eM0 (g : List Nat → M VS.D) (fo : DE) : DE := fun ρ => fo ρ >>= asS >>= g
section
variable {c : Sta} {Γ : List Bool} {z : Sit} {br : Bool} {o e : Expr} {fo fe : DE} {name : Str} {id : String} {apos pos : Pos}
def VM1 (c : Sta) (id : String) (g : List Nat → VS.D → M VS.D) : Prop := ∀ (Γ : List Bool) (z : Sit), z.Ok c Γ → ∀ s d u, StrOk s → VOk z true d u z.A z.H → ∀ Q : VK, Post z (okE z false) (g s d z.S) Q → wpMt z.X id (.str ⟨s.toArray⟩) [u] z.H Q
theorem m1_run {β : Type} {ok : VS.D → Store → β → List Addr → Hp → Prop} {g : List Nat → VS.D → M VS.D} (hz : z.Ok c Γ) (ho : VE c Γ true o fo) (he : VE c Γ true e fe) {Q : β → Hp → Prop} {R : V → V → Hp → Prop} (h : Post z ok (eM1 g fo fe z.ρ z.S) Q)
    (k : ∀ s d u S' A' H', StrOk s → (z.to S' A' H').Ok c Γ → Step z.ep z.A z.H A' H' → VOk z true d u A' H' → Post (z.to S' A' H') ok (g s d S') Q → R (.str ⟨s.toArray⟩) u H') :
    wpE z.X o z.σ z.H fun x H1 => (∃ a, x = .str a) ∧ wpE z.X e z.σ H1 fun y H2 => R x y H2 := by
  refine ho z hz _ (Post.bind h fun d v S1 A1 H1 s1 o1 h1 => ?_)
  cases d with
  | str s =>
    obtain ⟨ev, ok1⟩ := o1.2.str
    subst ev
    refine ⟨⟨_, rfl⟩, ?_⟩
    have h2 : Post (z.to S1 A1 H1) ok ((fe z.ρ >>= fun e => g s e) S1) Q := h1
    exact he (z.to S1 A1 H1) (hz.to o1.1) _ (Post.bind h2 fun d u S2 A2 H2 s2 o2 h3 => k s d u S2 A2 H2 ok1 (hz.to o2.1) (s1.trans s2) o2.2 h3)
  | _ => exact h1.elim
theorem ve_m1 {g : List Nat → VS.D → M VS.D} (hg : VM1 c id g) (slot : Slot "str" name id) (ty : typeOf (.builtin id) = pure (.type "method_descriptor")) (ho : VE c Γ true o fo) (he : VE c Γ true e fe)
    (hs : ∀ env, starEach [e] env = [(false, eval e env)]) (hb : ∀ env, attributeBase o name env (eval o env) = eval o env) (hl : (apos.endLine == pos.line) = true) : VE c Γ br (.Call (.Attribute o name apos) [e] [] pos) (eM1 g fo fe) := VE.mk <| fun z hz Q h =>
  wpE_of (pe_m1 slot ty mtR_wp pe_wp pe_wp (hs _) (hb _) hl) (m1_run (R := fun x u H2 => wpMt z.X id x [u] H2 Q) hz ho he h fun s d u S' A' H' ok hz' st o2 h3 => hg Γ (z.to S' A' H') hz' s d u ok o2 Q (Post.nobr (br := br) h3))
theorem txts_ok {H : Hp} {O : Addr → Prop} {A : List Addr} : ∀ {ds : List VS.D} {vs : List V} {ss : List (List Nat)}, txts ds = some ss → RepL H O A ds vs → vs = (ss.map fun s => (⟨s.toArray⟩ : Str)).map V.str ∧ ∀ s ∈ ss, StrOk s
  | [], vs, ss, e, h => by cases e; exact ⟨h, fun s z => (by cases z)⟩
  | d :: ds, vs, ss, e, h => by
    obtain ⟨v, r, e1, h1, h2⟩ := h
    cases d with
    | str s =>
      unfold txts at e
      cases q : txts ds with
      | none => rw [q] at e; cases e
      | some ss' =>
        rw [q] at e
        cases e
        obtain ⟨e3, ok⟩ := txts_ok q h2
        refine ⟨by rw [e1, e3, show v = _ from h1.1]; rfl, fun t ht => ?_⟩
        rcases List.mem_cons.mp ht with z | z
        · rw [z]; exact h1.2
        · exact ok t z
    | _ => cases e
theorem joinL_ok {a : List Nat} (ha : StrOk a) : ∀ {ss : List (List Nat)}, (∀ s ∈ ss, StrOk s) → (∀ x ∈ TL.joinL a ss, x < 1114112) ∧ (TL.joinL a ss).length ≤ sumL ss + ss.length * a.length
  | [], _ => ⟨fun x h => (by cases h), Nat.zero_le _⟩
  | [s], h => ⟨(h s (List.mem_singleton.mpr rfl)).2, by show s.length ≤ _; simp [sumL]⟩
  | s :: t :: r, h => by
    obtain ⟨h1, h2⟩ := joinL_ok ha (ss := t :: r) fun q hq => h q (List.mem_cons_of_mem _ hq)
    have e : TL.joinL a (s :: t :: r) = s ++ (a ++ TL.joinL a (t :: r)) := rfl
    rw [e]
    refine ⟨fun x hx => ?_, ?_⟩
    · rcases List.mem_append.mp hx with q | q
      · exact (h s List.mem_cons_self).2 x q
      · rcases List.mem_append.mp q with q | q
        · exact ha.2 x q
        · exact h1 x q
    · rw [List.length_append, List.length_append]
      have e2 : sumL (s :: t :: r) = s.length + sumL (t :: r) := by simp [sumL]
      have e3 : (s :: t :: r).length * a.length = (t :: r).length * a.length + a.length := by rw [List.length_cons, Nat.succ_mul]
      rw [e2, e3]
      omega
theorem vm_join : VM1 c "str.join" dJoin := fun Γ z hz a d u oka od Q p => by
  unfold dJoin at p
  cases e : seqOf d with
  | none => rw [e] at p; exact p.elim
  | some ds =>
    rw [e] at p
    dsimp only at p
    cases et : txts ds with
    | none => rw [et] at p; exact p.elim
    | some ss =>
      rw [et] at p
      dsimp only at p
      split at p
      · rename_i hl
        have key : ∃ (q : Addr) (vs : List V), u = .ref q ∧ (SqL z.X.K z.H q vs ∨ SqT z.X.K z.H q vs) ∧ RepL z.H (Ex z.act.O0 z.A z.own) z.A ds vs := by
          cases d with
          | lst es => cases e; obtain ⟨q, vs, e1, h1, l⟩ := od.lst; exact ⟨q, vs, e1, .inl (.of h1), l⟩
          | tup es => cases e; obtain ⟨q, vs, e1, h1, l⟩ := od.tup; exact ⟨q, vs, e1, .inr (.of h1), l⟩
          | _ => cases e
        obtain ⟨q, vs, e1, h1, l⟩ := key
        obtain ⟨ev, oks⟩ := txts_ok et l
        subst e1 ev
        obtain ⟨j1, j2⟩ := joinL_ok oka oks
        have eS : ((ss.map fun s => (⟨s.toArray⟩ : Str)).map (·.length)).sum = sumL ss := by
          unfold sumL
          rw [List.map_map]
          congr 1
        refine wpMt_of mt_join ⟨_, q, ss.map fun s => (⟨s.toArray⟩ : Str), rfl, rfl, h1, ?_, ?_⟩
        · rw [eS, List.length_map]
          exact hl
        · refine Post.val hz p ⟨?_, ⟨Nat.le_trans j2 hl, j1⟩⟩
          congr 1
          have et2 := TL.tl_join (⟨a.toArray⟩ : Str) (ss.map fun s => (⟨s.toArray⟩ : Str))
          rw [TL.join_eq]
          have e5 : (ss.map fun s => (⟨s.toArray⟩ : Str)).map TL.tl = ss := by rw [List.map_map]; exact List.map_id'' (fun s => rfl) ss
          rw [e5] at et2
          cases hj : Str.join (⟨a.toArray⟩ : Str) (ss.map fun s => (⟨s.toArray⟩ : Str)) with
          | mk cps =>
            rw [hj] at et2
            have e6 : cps.toList = TL.joinL a ss := et2
            rw [← e6]
      · exact p.elim
def fSplit (a : List Nat) (d : VS.D) : M VS.D := match d with
  | .str b => if b ≠ [] ∧ (a.length + 2 ≤ 16777216 ∧ b.all (fun x => decide (x < 256)) = true) then retD (.lst ((TL.spl b 0 [] a).map .str)) else badD
  | _ => badD
end
section
variable {c : Sta} {Γ : List Bool} {z : Sit} {i : Nat} {x : Str} {e1 e2 : Expr} {f g : DE} {px qx pa pb pc pd pos : Pos}
theorem vs_insPop (hi : seen c i x = true) (hg : Γ[i]? = some true) (h1 : VE c Γ true e1 f) (h2 : VE c Γ true e2 g)
    (b1 : ∀ env, attributeBase (.Name x px) "insert" env (eval (.Name x px) env) = eval (.Name x px) env) (b2 : ∀ env, attributeBase (.Name x qx) "pop" env (eval (.Name x qx) env) = eval (.Name x qx) env)
    (few1 : ∀ env, ((backTo pb (starEach [e1, .Call (.Attribute (.Name x qx) "pop" pc) [e2] [] pd] env)).all (fun x => !x.1) && (backToKw pb (keywordEach [] env)).all (fun x => x.1.isSome) && decide (([e1, .Call (.Attribute (.Name x qx) "pop" pc) [e2] [] pd] : List Expr).length + ([] : List Keyword).length + (if ([] : List Keyword).isEmpty then 0 else 1) < 30)) = true)
    (few2 : ∀ env, ((backTo pd (starEach [e2] env)).all (fun x => !x.1) && (backToKw pd (keywordEach [] env)).all (fun x => x.1.isSome) && decide (([e2] : List Expr).length + ([] : List Keyword).length + (if ([] : List Keyword).isEmpty then 0 else 1) < 30)) = true)
    (l1 : (pa.endLine == pb.line) = true) (l2 : (pc.endLine == pd.line) = true)
    (s1 : ∀ env, starEach [e1, .Call (.Attribute (.Name x qx) "pop" pc) [e2] [] pd] env = (false, eval e1 env) :: starEach [.Call (.Attribute (.Name x qx) "pop" pc) [e2] [] pd] env)
    (s2 : ∀ env, starEach [.Call (.Attribute (.Name x qx) "pop" pc) [e2] [] pd] env = (false, eval (.Call (.Attribute (.Name x qx) "pop" pc) [e2] [] pd) env) :: starEach [] env) (s3 : ∀ env, starEach [e2] env = (false, eval e2 env) :: starEach [] env)
    (p1 : ∀ env, (backTo pb (starEach [.Call (.Attribute (.Name x qx) "pop" pc) [e2] [] pd] env)).any (·.1) = false) (p2 : ∀ env, (backTo pd (starEach [] env)).any (·.1) = false)
    (hs : ∀ env n, swapsWith (.Call (.Attribute (.Name x px) "insert" pa) [e1, .Call (.Attribute (.Name x qx) "pop" pc) [e2] [] pd] [] pb) none n env = pure false) :
    VSt c Γ Γ (.Expr (.Call (.Attribute (.Name x px) "insert" pa) [e1, .Call (.Attribute (.Name x qx) "pop" pc) [e2] [] pd] [] pb) pos) (sInsPop i f g) := VSt.mk <| fun z hz D h => by
  obtain ⟨hN, hv, hd, hcd⟩ := seen_ok hi
  have pv : ∀ {p}, PE z.X (.Name x p) (tVar i) := fun {p} => pe_var (i := i) (by rw [hz.on.N]; exact hN) (by rw [hz.on.sc]; exact hv) hd hcd
  refine wpS_of (ps_expr (pe_bm PySem.F.plainAttrs_list PySem.F.slot_list_insert PySem.F.type_list_insert mt_insert pv
    (pa_cons pe_wp (pa_cons (pe_bm PySem.F.plainAttrs_list PySem.F.slot_list_pop PySem.F.type_list_pop mt_popAt pv (pa_cons pe_wp pa_nil (s3 _)) (b2 _) (few2 _) l2 (s3 _) (p2 _)) pa_nil (s2 _)) (s1 _)) (b1 _) (few1 _) l1 (s1 _) (p1 _)) (hs _ _)) ?_
  obtain ⟨a, d, w1, w2, w3, ow⟩ := own_slot hz hg
  unfold sInsPop at h
  rw [w2] at h
  cases d with
  | lst l =>
    dsimp only at h
    obtain ⟨vl, hH, rl⟩ := ow
    refine ⟨.ref a, w3, .inl ⟨rfl, vl, .of hH⟩, ?_⟩
    refine h1 z hz _ (h.bind fun ad av S1 A1 H1 st1 o1 k1 => ?_)
    have hz1 := hz.to o1.1
    obtain ⟨a1, d1, f1, f2, _, ow1⟩ := own_slot (z := z.to S1 A1 H1) hz1 hg
    rw [w1] at f1
    cases f1
    rw [w2] at f2
    cases f2
    obtain ⟨vl1, hH1, rl1⟩ := ow1
    refine ⟨.ref a, w3, .inl ⟨rfl, vl1, .of hH1⟩, ?_⟩
    refine h2 (z.to S1 A1 H1) hz1 _ (SPost.bind (z := z.to S1 A1 H1) (k1.step st1) fun bd bv S2 A2 H2 st2 o2 k2 => ?_)
    have hz2 : (z.to S2 A2 H2).Ok c Γ := hz.to o2.1
    obtain ⟨a2, d2, f1, f2, _, ow2⟩ := own_slot (z := z.to S2 A2 H2) hz2 hg
    rw [w1] at f1
    cases f1
    rw [w2] at f2
    cases f2
    obtain ⟨vl2, hH2, rl2⟩ := ow2
    change H2 a = _ at hH2
    have mem : some a ∈ z.own := List.mem_of_getElem? w1
    cases ad with
    | int m =>
      cases bd with
      | int j =>
        change SPost (z.to S1 A1 H1) c Γ (match seqIndex? j l.length with
          | some k => (match l[k]? with
            | some d => if l.length ≤ sz ∧ -(2 ^ 63) ≤ j ∧ j < 2 ^ 63 ∧ 0 ≤ m ∧ m < 2 ^ 63 then Out.nx (z.ρ.set i (.lst ((l.eraseIdx k).take m.toNat ++ [d] ++ (l.eraseIdx k).drop m.toNat))) S2 else .bad
            | none => .bad)
          | none => .bad) D at k2
        cases ek : seqIndex? j l.length with
        | none => rw [ek] at k2; exact k2.elim
        | some k =>
          rw [ek] at k2
          dsimp only at k2
          cases ed : l[k]? with
          | none => rw [ed] at k2; exact k2.elim
          | some d =>
            rw [ed] at k2
            dsimp only at k2
            split at k2
            · rename_i hc
              obtain ⟨y, ey, ry⟩ := rl2.get ed
              have ha : av = .int m := o1.2.int
              have hb : bv = .int j := o2.2.int
              have hm : Mut (H2 a) := by rw [hH2]; trivial
              have hO : Ex z.act.O0 A2 z.own a := .inr (.inr mem)
              have hk : k < l.length := (List.getElem?_eq_some_iff.mp ed).1
              subst ha hb
              refine ⟨a, vl2, j, k, y, rfl, rfl, hH2, hc.2.1, hc.2.2.1, by rw [rl2.len]; exact ek, ey, ?_⟩
              refine ⟨a, _, m, y, rfl, rfl, upd_same, ?_, hc.2.2.2.1, hc.2.2.2.2, ?_⟩
              · have e9 := List.length_eraseIdx_of_lt (l := vl2) (i := k) (by rw [rl2.len]; exact hk)
                rw [e9, rl2.len, ← sz_line]
                have := hc.1
                omega
              · rw [upd_upd]
                refine k2.nx hz.own (o2.1.mutate (d := .lst _) w1 hm ⟨_, upd_same, ?_⟩) (st2.move.trans (Move.mut mem hm))
                exact RepL.go (goUpd hm hO) _ _ ((((rl2.erase k).take _).append (RepL.cons ry RepL.nil)).append ((rl2.erase k).drop _))
            · exact k2.elim
      | _ => exact k2.elim
    | _ => cases bd <;> exact k2.elim
  | _ => exact h.elim
end
end VS
namespace VS
open PySem PySem.Spec PyProof.Rows L2
variable [Tables]
def ofFD : Flat2 → VS.D
  | .inl i => .int i
  | .inr s => .str s.cps.toList
section
variable {fa : List He.Fa} {fn : List He.DefD} {tv : List TabV} {w : World} {K : PySem.W.Frag}
end
structure KTab (g : Glo) (x : Str) (kvs : List (Str × Flat2)) : Prop where
  ex : ∃ a es n, g.mg x = some (.ref a) ∧ KDict g.K g.w a es n ∧ dicV g.K a = some (kvs.map some)
def tabIx (kvs : List (Str × Flat2)) : VS.D → M VS.D
  | .str s => match kvs.lookup ⟨s.toArray⟩ with
    | some f => retD (ofFD f)
    | none => badD
  | _ => badD
def tabIn (b : Bool) (kvs : List (Str × Flat2)) : VS.D → M VS.D
  | .str s => retD (.bl (xor b (kvs.lookup ⟨s.toArray⟩).isSome))
  | _ => badD
section
variable {c : Sta} {Γ : List Bool} {z : Sit} {br : Bool} {x : Str} {kvs : List (Str × Flat2)} {e : Expr} {fe : DE} {p pos : Pos}
end
section
variable {c : Sta} {Γ : List Bool} {z : Sit} {br : Bool} {x : Str} {pos : Pos}
end
end VS
namespace VS
open PySem PySem.Spec PyProof.Rows L2
variable [Tables]
section
variable {c : Sta} {Γ Γ₁ : List Bool} {z : Sit} {D : Ends} {br : Bool} {x : Str} {kvs : List (Str × Flat2)} {e : Expr} {fe : DE} {p pos : Pos} {f : DS} {sts : List Stmt} {st : Stmt}
theorem vop_iadd : VOp c (inplaceOp .Add) dIAdd := fun Γ z hz d e v u o1 o2 Q h => by
  cases d with
  | int i => cases e with
    | int j =>
      rw [o1.int, o2.int]
      exact wpOp_of (f := inplaceOp .Add) ip_add ⟨i, j, rfl, rfl, Post.val hz h rfl⟩
    | _ => exact h.elim
  | _ => exact h.elim
def tVal (f : DE) : DT := fun ρ => f ρ >>= asB
theorem vbl_freeze (i : Nat) (h : VBl c Γ Γ₁ sts f) : VBl c Γ (Γ₁.set i false) sts f := by
  constructor
  intro z hz D p
  refine h z hz D ?_
  cases q : f z.ρ z.S with
  | nx ρ' S' =>
    rw [q] at p
    intro own' A' σ' H' eo r m
    exact p.nx (own' := own'.set i none) (by rw [isSome_set, eo]) (r.freeze i) ⟨m.pre, m.newA, fun a ha => m.newO a ((mem_set_own ha).elim (fun e => by cases e) id), m.chg⟩
  | ret d S' => rw [q] at p; exact p
  | exc x ρ' S' => rw [q] at p; exact p
  | bad => rw [q] at p; exact p
end
end VS
namespace VS
open PySem PySem.Spec PyProof.Rows L2
variable [Tables]
section
variable {c : Sta} {Γ Γ₁ : List Bool} {z : Sit} {D : Ends} {f : DS} {st : Stmt}
theorem vs_fz (i : Nat) (h : VSt c Γ Γ₁ st f) : VSt c Γ (Γ₁.set i false) st f := by
  constructor
  intro z hz D p
  refine h z hz D ?_
  cases q : f z.ρ z.S with
  | nx ρ' S' =>
    rw [q] at p
    intro own' A' σ' H' eo r m
    exact p.nx (own' := own'.set i none) (by rw [isSome_set, eo]) (r.freeze i) ⟨m.pre, m.newA, fun a ha => m.newO a ((mem_set_own ha).elim (fun e => by cases e) id), m.chg⟩
  | ret d S' => rw [q] at p; exact p
  | exc x ρ' S' => rw [q] at p; exact p
  | bad => rw [q] at p; exact p
end
theorem fn_zero {g : Glo} {qual name : Str} {params : Arguments} {body : List Stmt} {scope : Scope} {f : Addr} {fd : FuncData} {ps : List Str} {k : Nat} {fr pu : Bool} {dvs : List V} {kws : List (Str × V)} (F : FunD g.K name qual params body scope dvs kws f fd) :
    FnOk g.P g.w g.K g.mg g.base (L2.CX g.P g.w) k f fd ps (spV g ps.length fr pu fun _ _ => .bad) :=
  ⟨fun vs H Q E h => (by obtain ⟨_, _, _, _, _, _, _, _, h⟩ := h; exact h.elim), fun A outer s H args us vs Q E hr he hb hv h => (by obtain ⟨_, _, _, _, _, _, _, _, h⟩ := h; exact h.elim)⟩
end VS
namespace VS
open PySem PySem.Spec PyProof.Rows L2
variable [Tables]
section
variable {c : Sta} {Γ : List Bool} {br : Bool} {o e : Expr} {fo fe : DE} {apos pos px cpos : Pos} {i : Nat} {x : Str} {fs : DA} {es : List Expr}
theorem ve_join (ho : VE c Γ true o fo) (he : VE c Γ true e fe) (hs : ∀ env, starEach [e] env = [(false, eval e env)]) (hb : ∀ env, attributeBase o "join" env (eval o env) = eval o env) (hl : (apos.endLine == pos.line) = true) : VE c Γ br (.Call (.Attribute o "join" apos) [e] [] pos) (eM1 dJoin fo fe) :=
  ve_m1 vm_join PySem.F.slot_str_join PySem.F.type_str_join ho he hs hb hl
theorem vs_append (hi : seen c i x = true) (hg : Γ[i]? = some true) (ha : VA c Γ false [e] fs) (hline : (apos.endLine == cpos.line) = true) (he : ∀ env, starEach [e] env = (false, eval e env) :: starEach [] env)
    (hfew : ∀ env, ((backTo cpos (starEach [e] env)).all (fun x => !x.1) && (backToKw cpos (keywordEach [] env)).all (fun x => x.1.isSome)
      && decide (([e] : List Expr).length + ([] : List Keyword).length + (if ([] : List Keyword).isEmpty then 0 else 1) < 30)) = true) :
    VSt c Γ Γ (.Expr (.Call (.Attribute (.Name x px) "append" apos) [e] [] cpos) pos) (sMut i gApp fs) :=
  vs_mut hi hg PySem.F.slot_list_append PySem.F.type_list_append (fun _ => mt_append) mut_app ha (fun _ => rfl) hfew hline he (fun _ => rfl) (fun _ _ => rfl)
end
end VS
namespace VS
open PySem PySem.Spec PyProof.Rows L2
variable [Tables]
section
variable {c : Sta} {Γ : List Bool} {e : Expr} {fe : DE} {i : Nat} {x : Str} {pos pos' : Pos}
theorem vs_setK (hi : stored c i x = true) (hl : i < Γ.length) (hk : c.sc.names.lookup x = some .cell) (he : VF c Γ e fe) (hs : ∀ (env : Env) n, env.kindOf x = some .cell → swapsWith e (some (.Name x pos')) n env = pure false) : VSt c Γ (Γ.set i true) (.Assign [.Name x pos'] e pos) (sSet i fe) := VSt.mk fun z hz D h => by
  obtain ⟨h1, h2, h3⟩ := stored_ok hi hz
  have hk2 : z.X.env.kindOf x = some .cell := by
    have q : z.X.env.scope.names.lookup x = some .cell := by rw [hz.on.sc]; exact hk
    exact q
  refine wpS_of (ps_set (i := i) hz.on.nd h1 h2 pe_wp (hs _ _ hk2) h3) (he z hz _ (h.bind fun d v S' A' H' s o h' => ?_))
  obtain ⟨p, e1, n, na, r, ow⟩ := o
  subst e1
  have n0 : z.act.H0 p = none := none0 hz n
  have no : some p ∉ z.own := fun q => hz.rel.trk p (.inr (.inr q)) n
  have nO : ¬ z.act.O0 p := fun q => hz.rel.trk p (.inl q) n
  refine h'.nx (own' := z.own.set i (some p)) (by rw [List.map_set, hz.own]; rfl) (r.setOwn ow n0 na no nO (own_lt hz hl)) ⟨s.pre, s.new, fun b hb => ?_, s.chg.mono fun _ h => .inl h.2⟩
  rcases mem_set_own hb with e | hb
  · cases e; exact .inr n
  · exact .inl hb
theorem sw_cell {elt : Expr} {gs : List Comprehension} {scope : Scope} {p : Pos} {env : Env} {n : Nat} (h : env.kindOf x = some .cell) : swapsWith (.ListComp elt gs scope p) (some (.Name x pos')) n env = pure false := by
  unfold swapsWith
  dsimp only
  rw [h]
  simp only [Option.some_beq_some, show (NameKind.cell == NameKind.local) = false from rfl, Bool.and_false, Bool.false_and]
end
end VS
namespace VS
open PySem PySem.Spec PyProof.Rows L2
variable [Tables] in
theorem rel_none {pu : Bool} {H : Hp} : Rel ⟨pu, H, fun _ => False, []⟩ [] [] [] [] [] H where
  len1 := rfl
  len2 := rfl
  slot := fun i d o v h => by cases h
  inj := fun i j a h => by cases h
  lenA := rfl
  cell := fun n d a h => by cases h
  nodA := List.nodup_nil
  apart := fun a h => by cases h
  apart0 := fun a h => by cases h
  pre := List.prefix_refl _
  newA := fun a h => by cases h
  newO := fun a h => by cases h
  trk := fun b h => by
    rcases h with h | h | h
    · exact h.elim
    · cases h
    · cases h
  chg := Chg.refl
variable [Tables] in
theorem repL_ints2 {H : Hp} {O : Addr → Prop} {A : List Addr} : ∀ ns : List Int, RepL H O A (ns.map .int) (ns.map V.int)
  | [] => rfl
  | n :: ns => ⟨_, _, rfl, rfl, repL_ints2 ns⟩
variable [Tables] in
theorem sp_law {g : Glo} {f : List VS.D → M VS.D} {fr pu : Bool} {H : Hp} {a : Addr} {ns : List Int} (ht : LamX.Tabs Tables.T H) (hfr : fr = false) (hf : ∃ S, f [.scr (ns.map .int)] [] = .ok (.bl true) S) (hH : ∃ o, H a = some (.frz o (.lst (ns.map V.int)))) :
    spV g 1 fr pu f [.ref a] H (fun v _ => v = .bl true) fun _ _ _ => False := by
  subst hfr
  obtain ⟨o, hH⟩ := hH
  obtain ⟨S, hf⟩ := hf
  refine ⟨ht, [.scr (ns.map .int)], [], [], fun _ => False, rfl, rel_none, ⟨_, _, rfl, ⟨a, o, _, rfl, hH, repL_ints2 ns⟩, rfl⟩, ?_⟩
  rw [hf]
  intro v A' H' ok
  exact ok.2
theorem walk_ofV {l : PySem.W.OpenLaw} {n k : Nat} {q : Program} {loose : List Str} {XP : (Str → Option Value) → Heap → Prop} {YP : World → Heap → Prop} {d : DefRec} {x : Str} {fr pu : Bool} {f : List VS.D → M VS.D}
    (hn : l.most = some n) (hn2 : n ≤ sizeLine) (hdf : d.params.defaults = []) (hr : Room k callerA) 
    (F : ∀ (w : World) (mg : Str → Option Value) (fa : Addr) (h : Heap), YP w h → h.Ns mainGlobals mg → mg d.name = some (.ref fa) →
      ∃ (K : PySem.W.Frag) (fd : FuncData), K.In h ∧ NoL K ∧ (∀ (s : Shared) (u : Value), BindsTo s fd ⟨[u], []⟩ [(x, u)]) ∧
        ∀ base : Heap, K.In base → base.Ns mainGlobals mg → FnOk l.prog w K mg base (L2.CX l.prog w) k fa fd [x] (spV ⟨l.prog, w, K, mg, base⟩ 1 fr pu f))
    (L : ∀ ns : List Int, ∃ S, f [.scr (ns.map .int)] [] = .ok (.bl true) S) (hfr : fr = false := by rfl) :
    PySem.W.WalkO q loose XP YP l.row.toRowW d [] (fun f vs => PySem.call f vs) := by
  refine Att.attach_call hn hdf fun w s0 s1 mg mb fa o pm cd doc a vs ns G Y ho hd hcd hmg hobj hints hlen hg => ?_
  obtain ⟨K, fd, KX, nl, hb, hF⟩ := F w mg fa _ Y G.T.g hmg
  have hK : ∀ its m, (K.lookup a = some { cls := .type "list", data := .seq its m } → False) := fun its m e => by
    have z := nl a _ e
    have z2 : isL { cls := .type "list", data := .seq its m } = true := rfl
    rw [z2] at z
    cases z
  refine law_call (sp := fun vs H Q E => ∀ base, spV ⟨l.prog, w, K, mg, base⟩ 1 fr pu f vs H Q E) KX G.T.g G.T.b G.T.builtins G.T.nolimit hg hobj hints (Nat.le_trans hlen hn2) hr (fun base kb gb => (hF base kb gb).imp fun vs H Q E h => h base) hb (fun H hO hS base => ?_) fun H e s' hx => ?_
  · refine sp_law (fun _ h => by cases h) hfr (L ns) ?_
    rcases hS with hS | ⟨o2, its, m, h1, h2, h3, h4, h5⟩
    · rcases hS with hS | hS
      · rcases hO a with z | ⟨ob, xs, z⟩
        · rw [hS] at z; cases z
        · rw [hS] at z; cases z
      · exact hS
    · have z := KX a _ h1
      rw [hobj] at z
      cases z
      exact (hK _ _ h1).elim
  · obtain ⟨a, B, H', cls, d, _, _, _, _, _, _, _, h⟩ := hx
    exact h
end VS
namespace VS
open PySem PySem.Spec PyProof.Rows L2
variable [Tables]
open Sem (wp)
section
variable {prog : Program} {w : World} {A : Around} {E : Value → Shared → Prop} {s : Shared}
variable {it z TI TO i1 i2 : Addr} {fp fp1 fp2 : List Addr} {n n1 n2 i : Nat} {P P1 P2 : Nat → Value → Prop} {St St1 St2 : Nat → Heap → Prop} {a1 a2 : Value}
end
end VS
namespace VS
open PySem PySem.Spec PyProof.Rows L2
variable [Tables]
def iZipS (f g : DE) : DI := fun ρ => f ρ >>= fun a => g ρ >>= fun b => dIter a >>= fun as => dIter b >>= fun bs S => if as.length = bs.length then .ok (zipL as bs) S else .bad
section
variable {c : Sta} {Γ : List Bool} {br : Bool} {e e2 : Expr} {fe f2 : DE} {p pos tpos kp kpos : Pos} {kj : _} {elts : List Expr} {kk : Nat}
end
end VS
namespace VS
open PySem PySem.Spec PyProof.Rows L2
variable [Tables]
def gExT : List VS.D → List VS.D → Option (List VS.D)
  | l, [.lst ds] => if l.length + ds.length ≤ sz then some (l ++ ds) else none
  | l, [.tup ds] => if l.length + ds.length ≤ sz then some (l ++ ds) else none
  | _, _ => none
section
variable {c : Sta} {Γ : List Bool} {i : Nat} {x : Str} {fs : DA} {e f o : Expr} {px p apos cpos pos : Pos} {br : Bool} {fo fe ff : DE} {kvs : List (Str × Flat2)}
def dRstrip (a : List Nat) (d : VS.D) : M VS.D := match d with
  | .str b => if (Txt.rstripChars ⟨a.toArray⟩ ⟨b.toArray⟩).cps.toList.length ≤ sz ∧ (Txt.rstripChars ⟨a.toArray⟩ ⟨b.toArray⟩).cps.toList.all (fun y => decide (y < 1114112)) = true then retD (.str (Txt.rstripChars ⟨a.toArray⟩ ⟨b.toArray⟩).cps.toList) else badD
  | _ => badD
def dGetD (a d : VS.D) (e : VS.D) : M VS.D := match a with
  | .dic t kvs => match toK d with
    | some k => if k.isRight = t then match lookK k kvs with
      | some x => retD x
      | none => retD e
      else badD
    | none => badD
  | _ => badD
def eGet (fo fe ff : DE) : DE := fun ρ => fo ρ >>= fun a => match a with
  | .dic t kvs => fe ρ >>= fun d => ff ρ >>= fun e => dGetD (.dic t kvs) d e
  | _ => fun _ => .bad
def tabGet (kvs : List (Str × Flat2)) (d e : VS.D) : M VS.D := match d with
  | .str s => match kvs.lookup ⟨s.toArray⟩ with
    | some f => retD (ofFD f)
    | none => retD e
  | _ => badD
end
end VS
namespace VS
open PySem PySem.Spec PyProof.Rows L2
variable [Tables]
def eTabGet (kvs : List (Str × Flat2)) (fe ff : DE) : DE := fun ρ => fe ρ >>= fun d => ff ρ >>= fun e => tabGet kvs d e
section
variable {c : Sta} {Γ : List Bool} {x : Str} {e f : Expr} {p apos cpos pos : Pos} {br : Bool} {fe ff : DE} {kvs : List (Str × Flat2)}
end
end VS
namespace VS
open PySem PySem.Spec PyProof.Rows L2
variable [Tables]
section
variable {c : Sta} {Γ : List Bool} {z : Sit} {pos : Pos} {H : Hp} {O : Addr → Prop} {A : List Addr}
theorem Post.newK (hz : z.Ok c Γ) {a : Addr} (ha : z.H a = none) {kvs : List (DK × VS.D)} {l : List (Key × V)} {Q : VK} (p : Post z (okF z) (.ok (.dic false kvs) z.S) Q) (hr : RepK (upd z.H a (.dK l)) (Ex (z.act.plus a).O0 z.A z.own) z.A kvs l) : Q (.ref a) (upd z.H a (.dK l)) := by
  have nA := hz.nA ha
  refine p _ _ z.A (step_new ha) ⟨a, rfl, ha, nA, hz.rel.plus ha (chg_new ha) (by rw [upd_same]; exact fun z => by cases z), _, upd_same, hr⟩
theorem Post.newDT (hz : z.Ok c Γ) {a : Addr} (ha : z.H a = none) {kvs : List (DK × VS.D)} {l : List (List Key × V)} {Q : VK} (p : Post z (okF z) (.ok (.dic true kvs) z.S) Q) (hr : RepT (upd z.H a (.dT l)) (Ex (z.act.plus a).O0 z.A z.own) z.A kvs l) : Q (.ref a) (upd z.H a (.dT l)) := by
  have nA := hz.nA ha
  refine p _ _ z.A (step_new ha) ⟨a, rfl, ha, nA, hz.rel.plus ha (chg_new ha) (by rw [upd_same]; exact fun z => by cases z), _, upd_same, hr⟩
theorem vf_dict0T : VF c Γ (.Dict [] [] pos) (eC (.dic true [])) := VF.mk <| fun z hz Q p => wpE_of pe_dnewT fun a ha => Post.newDT hz ha p rfl
theorem flat_key {d : VS.D} {k : K1} {v : V} (e : flatK d = some k) (h : Rep H O A d v) : ∃ y : Key, k1 y = k ∧ keyOk y ∧ v = kV y := by
  cases d with
  | int i => cases e; exact ⟨.inl i, rfl, trivial, h⟩
  | str s =>
    cases e
    obtain ⟨e1, ok⟩ := h
    exact ⟨.inr ⟨s.toArray⟩, by simp [k1], by simpa [keyOk] using ok, e1⟩
  | _ => cases e
theorem pairs_ok {K : PySem.W.Frag} : ∀ {ds : List VS.D} {vs : List V} {kvs : List (DK × VS.D)}, pairsD ds = some kvs → RepL H O A ds vs →
    ∃ (ps : List Addr) (l : List (Key × V)), vs = ps.map V.ref ∧ Paired (fun p kv => SqT K H p [kV kv.1, kv.2]) ps l ∧ Paired (fun p kv => p.1 = .inl (k1 kv.1) ∧ keyOk kv.1 ∧ Rep H O A p.2 kv.2) kvs l
  | [], vs, kvs, e, h => by cases e; exact ⟨[], [], h, .nil, .nil⟩
  | d :: ds, vs, kvs, e, h => by
    obtain ⟨v, r, e1, h1, h2⟩ := h
    unfold pairsD at e
    split at e
    · rename_i e3; cases e3
    · rename_i k w r2 e3
      cases e3
      split at e
      · rename_i k' kvs' ek er
        cases e
        obtain ⟨a, us, ev, ha, l⟩ := h1
        obtain ⟨u1, r1, f1, g1, u2, r3, f2, g2, g3⟩ := l
        have f3 : r3 = [] := g3
        subst f3 f2 f1 ev
        obtain ⟨y, ey, oy, evy⟩ := flat_key ek g1
        subst evy
        obtain ⟨ps, l, e4, p1, p2⟩ := pairs_ok (K := K) er h2
        exact ⟨a :: ps, (y, u2) :: l, by rw [e1, e4]; rfl, .cons (.inl (.of ha)) p1, .cons ⟨by rw [ey], oy, g2⟩ p2⟩
      · cases e
    · cases e
theorem pairs_go {H' : Hp} {O' : Addr → Prop} {Mt : Addr → Prop} (g : Go Mt H H' O O' A A) : ∀ {kvs : List (DK × VS.D)} {l : List (Key × V)}, Paired (fun p kv => p.1 = .inl (k1 kv.1) ∧ keyOk kv.1 ∧ Rep H O A p.2 kv.2) kvs l →
    Paired (fun p kv => p.1 = .inl (k1 kv.1) ∧ keyOk kv.1 ∧ Rep H' O' A p.2 kv.2) kvs l
  | _, _, .nil => .nil
  | _, _, .cons q r => .cons ⟨q.1, q.2.1, Rep.go g _ _ q.2.2⟩ (pairs_go g r)
theorem merge_rep : ∀ {kvs : List (DK × VS.D)} {l : List (Key × V)}, Paired (fun p kv => p.1 = .inl (k1 kv.1) ∧ keyOk kv.1 ∧ Rep H O A p.2 kv.2) kvs l → ∀ {acc : List (DK × VS.D)} {la : List (Key × V)}, RepK H O A acc la →
    RepK H O A (kvs.foldl (fun acc p => putD acc p.1 p.2) acc) (mergeK la l)
  | _, _, .nil, _, _, h => h
  | _, _, .cons (a := p) (b := kv) q r, acc, la, h => by
    show RepK H O A (List.foldl _ (putD acc p.1 p.2) _) (mergeK (putK la kv.1 kv.2) _)
    refine merge_rep r ?_
    rw [q.1]
    exact repK_put q.2.1 q.2.2 h
theorem vc_dictP : VCallF c (.type "dict") (f1 fDict) := vcallF1 fun Γ z hz d v o Q p => by
  cases d with
  | lst ds =>
    obtain ⟨a, vs, e, h, l⟩ := o.lst
    rw [e]
    dsimp only [fDict] at p
    cases q : pairsD ds with
    | none => rw [q] at p; exact p.elim
    | some kvs =>
      rw [q] at p
      obtain ⟨ps, lk, e2, p1, p2⟩ := pairs_ok (K := z.X.K) q l
      subst e2
      refine wpCall_of (call_dictP hz.on.calm) ⟨a, ps, lk, rfl, .inl (.of h), p1, fun t ht => Post.newK hz ht p ?_⟩
      have nf : ¬ Ex z.act.O0 z.A z.own t := hz.free (S' := z.S) ht Step.refl (hz.nA ht)
      have g : Go (fun _ => False) z.H (upd z.H t (.dK (mergeK [] lk))) (Ex z.act.O0 z.A z.own) (Ex (z.act.plus t).O0 z.A z.own) z.A z.A :=
        ⟨chg_new ht, fun _ q => q.elim, fun b hb => by
          rcases hb with (hb | hb) | hb
          · exact .inl (.inl hb)
          · exact .inr (by rw [hb]; exact ht)
          · exact .inl (.inr hb), fun _ _ e => e⟩
      refine merge_rep ?_ (acc := []) (la := []) rfl
      exact pairs_go g p2
  | _ => exact p.elim
theorem keysI_ok : ∀ {kvs : List (DK × VS.D)} {l : List (Key × V)} {is : List Int}, keysI kvs = some is → RepK H O A kvs l → l.map (·.1) = is.map Sum.inl
  | [], l, is, e, h => by cases e; have h : l = [] := h; rw [h]; rfl
  | p :: r, l, is, e, h => by
    obtain ⟨k, v, r2, e1, h1, h2⟩ := h
    unfold keysI at e
    split at e
    · rename_i e3; cases e3
    · rename_i i d r3 e3
      cases e3
      cases er : keysI r with
      | none => rw [er] at e; cases e
      | some is2 =>
        rw [er] at e
        cases e
        have q : (Sum.inl (Sum.inl i) : DK) = .inl (k1 k) := h1.2.1
        have q2 : k1 (.inl i) = k1 k := Sum.inl.inj q
        have q3 := k1_inj q2
        rw [e1, ← q3, List.map_cons, List.map_cons, keysI_ok er h2]
    · cases e
theorem vc_sorted2 : VCallF c (.builtin "sorted") (f1 fSorted2) := vcallF1 fun Γ z hz d v o Q p => by
  have old : ∀ d, Post z (okF z) (fSorted d z.S) Q → VOk z true d v z.A z.H → wpCall z.X (.builtin "sorted") [v] z.H Q := fun d p o => vc_sorted Γ z hz [d] [v] (.cons o .nil) Q p
  cases d with
  | dic t kvs =>
    cases t with
    | false =>
      obtain ⟨a, e, l, h, r⟩ := o.dic
      rw [e]
      dsimp only [fSorted2] at p
      cases q : keysI kvs with
      | none => rw [q] at p; exact p.elim
      | some is =>
        rw [q] at p
        dsimp only at p
        by_cases hl : is.length < 64
        · rw [if_pos hl] at p
          refine wpCall_of (call_sortedDI hz.on.calm) ⟨a, l, is, rfl, .inl h, keysI_ok q r, hl, fun ys t pm up ht => ?_⟩
          have e2 : ys = sortI is := up_unique (pm.trans (sortI_perm is).symm) up (sortI_up is)
          subst e2
          exact p.newL hz ht (repL_ints _)
        · rw [if_neg hl] at p; exact p.elim
    | true => exact old _ p o
  | lst ds => exact old _ p o
  | _ => exact p.elim
end
end VS
namespace L2
open PySem PySem.Spec PyProof.Rows
section
variable {P : Program} {w : World} {A : Around} {E : Value → Shared → Prop} {s : Shared}
abbrev bareSet (w : World) : Obj := { cls := .type "set", dict := none, data := .set #[] 0 (.fresh 0 0 (!w.params.followText "set-order")) }
abbrev withSet (w : World) (s : Shared) : Shared := { s with heap := s.heap.push (bareSet w) }
set_option maxHeartbeats 3200000 in
theorem set_of_list {l : Addr} {items : Array Value} (ns : List Int) {Q : Value → Shared → Prop} (hh : A.handled = none) (hl : s.heap.IsList l items) (hit : IntsAre items.toList ns) (hb : ns.length + 1 < scanBound)
    (h : ∀ (h' : Heap) (tk c : Nat), SetR w h' s.heap.objs.size (fun j => decide (j ∈ ns)) c → c ≤ ns.length → (∀ b o, s.heap.get? b = some o → h'.get? b = some o) → Q (.ref s.heap.objs.size) { s with heap := h', toks := tk }) :
    wpAny (model P w) A (call (.type "set") [.ref l]) Q E s := by
  have sz : items.size = ns.length := (Array.length_toList (xs := items)) ▸ IntsAre.length hit
  obtain ⟨_, _, hmro⟩ := F.called_set.mro
  have hmade := F.called_set.made
  have hsub := F.called_set.sub
  refine wpAny_call (codeAny_of_tree (show wpAny _ _ (callAny (.type "set") _) _ _ _ from wpAny_pure ⟨Code.quiet_builtin _ (by decide +kernel), codeAny_builtin F.entry_type_call ?_⟩))
  rw [Around.under_plain (weight_type_call_type "set" [.ref l] []) rfl]
  have h1 := F.called_set.notType
  have h2 := F.called_set.canCreate
  have hct := F.typeCall_set_1 (.ref l)
  repeat (any_goals (first | assumption | wp_step))
  refine codeAny_mono (code_set_led1 (.ref l) (E := E) (Q₁ := fun obj s₁ => obj = .ref s.heap.objs.size ∧ s₁ = withSet w s) ⟨rfl, rfl⟩) fun r s₁ hr => ?_
  cases r with
  | error e => exact hr
  | ok fl =>
    cases fl with
    | ret obj =>
      obtain ⟨rfl, rfl⟩ := hr
      have hS : (s.heap.push (bareSet w)).get? s.heap.objs.size = some (bareSet w) := Heap.get?_push_size _ rfl
      have hT : Shared.TypeIs (withSet w s) (.ref s.heap.objs.size) "set" := ⟨_, hS, rfl⟩
      have hli := F.called_set.init.lookup
      have hbi := F.called_set.init.bind (.ref s.heap.objs.size)
      repeat (any_goals (first | assumption | wp_step))
      refine codeAny_mono (codeAny_call_builtin (R := wants (fun r s₂ => r = .none ∧ ∃ h' tk c, s₂ = { s with heap := h', toks := tk } ∧ SetR w h' s.heap.objs.size (fun j => decide (j ∈ ns)) c ∧ c ≤ ns.length ∧ (∀ b o, s.heap.get? b = some o → h'.get? b = some o)) E)
        F.called_set.init.plain F.entry_set_init (check_set_init_1 hT ?_)) fun r₂ s₂ hr₂ => ?_
      · obtain ⟨⟨ocls, odict, odata, oslots⟩, hol, hcl, nl, hdl⟩ := hl
        simp only at hcl hdl
        subst hcl hdl
        have hol' := Heap.get?_push_of_some (bareSet w) hol
        have hsls := F.sub_list_set
        have hslf := F.sub_list_frozenset
        have hne : (Value.type "list" == Value.type "dict") = false := by decide
        have hl1 : (s.heap.push (bareSet w)).IsList l items := ⟨_, hol', rfl, nl, rfl⟩
        unfold Builtin.«set.__init__» noKeywords Builtin.Frozenset.updateFrom
        generalize hPI : pyIter = PI
        wp_walk
        subst hPI
        refine wpAny_pyIter_list hl1 (wpAny_bind (wpAny_runValue ?_))
        have hlS : l < s.heap.objs.size := Heap.lt_size hol
        have hh3 : A.in1.in1.in1.handled = none := by simp [hh]
        have tsz : (s.heap.push (bareSet w)).objs.size = s.heap.objs.size + 1 := Heap.size_push ..
        have hneI : l ≠ (s.heap.push (bareSet w)).objs.size := by rw [tsz]; exact Nat.ne_of_lt (Nat.lt_succ_of_lt hlS)
        have hSf : s.heap.objs.size ∉ [(s.heap.push (bareSet w)).objs.size, l] := by
          rw [tsz]
          intro q
          rcases List.mem_cons.mp q with q | q
          · exact Nat.ne_of_lt (Nat.lt_succ_self _) q
          · exact Nat.ne_of_gt hlS (List.mem_singleton.mp q)
        have hval : ∀ (i : Nat) (v : Value), items[i]? = some v → ∃ k t, ns[i]? = some k ∧ v = .int k t := fun i v hv => by
          have hi : i < ns.length := sz ▸ (Array.getElem?_eq_some_iff.mp hv).1
          obtain ⟨t, e⟩ := PyProof.Rows.IntsAre.int_at hit i v (by rw [Array.getElem?_toList]; exact hv)
          exact ⟨ns[i], t, List.getElem?_eq_getElem hi, by rw [e, List.getD_eq_getElem?_getD, List.getElem?_eq_getElem hi]; rfl⟩
        refine set_update_ints ((Walks.list hh3 _ l hneI items).toS) s.heap.objs.size hSf ns sz hb hval (items.size - 0) 0 _ (by omega) (Nat.zero_le _) ⟨⟨_, Heap.get?_push_size _ rfl, rfl, rfl⟩, (hl1.push _)⟩ ?hS0 ?hR
        case hS0 => exact ⟨0, Nat.le_refl 0, setR_new_at (Heap.get?_push_of_some _ hS)⟩
        case hR =>
          rintro ⟨h', g2, d', tk', os'⟩ c' hm hc' hS'
          obtain rfl : g2 = s.gens := hm.gens
          obtain rfl : d' = s.drawn := hm.drawn
          obtain rfl : os' = s.os := hm.os
          show wpAny _ _ _ _ _ _
          refine wpAny_pure ?_
          show wpAny _ _ (ret Value.none) _ _ _
          refine wpAny_pure ⟨rfl, h', tk', c', rfl, hS', sz ▸ hc', fun b o e => ?_⟩
          have hb0 : b < s.heap.objs.size := Heap.lt_size e
          refine hm.heap b o (fun q => ?_) (Heap.get?_push_of_some _ (Heap.get?_push_of_some _ e))
          rcases List.mem_cons.mp q with q | q
          · exact Nat.ne_of_lt hb0 q
          · have := List.mem_singleton.mp q; rw [tsz] at this; exact Nat.ne_of_lt (Nat.lt_succ_of_lt hb0) this
      · cases r₂ with
        | error e => exact hr₂
        | ok fl₂ =>
          cases fl₂ with
          | ret r =>
            obtain ⟨rfl, h', tk, c', rfl, hS', hc', hk'⟩ := hr₂
            repeat (any_goals (first | assumption | wp_step))
            exact h _ _ _ hS' hc' hk'
          | _ => exact hr₂.elim
    | _ => exact hr.elim
end
section
variable {X : Cx}
def rSetInts (K : PySem.W.Frag) (w : World) : List V → Hp → VK → Prop := fun xs H Q => ∃ (a : Addr) (ns : List Int), xs = [.ref a] ∧ SqL K H a (ns.map V.int) ∧ ns.length < 64 ∧ ∀ p c, c ≤ ns.length → H p = none → Q (.ref p) (upd H p (SetO w p (fun j => decide (j ∈ ns)) c))
theorem cr_setInts (hc : X.calm = true) : CallR X (.type "set") (rSetInts X.K X.w) := by
  intro pins s σ H vs us Q I r h
  obtain ⟨a, ns, rfl, hs, h64, q⟩ := h
  obtain ⟨its, rv, hl, hz⟩ := I.list hs
  rw [Vals.ref1 r]
  refine set_of_list ns (I.ok.hd hc) hl.isList (by rw [List.toList_toArray]; exact rv.ints) (by unfold scanBound; omega) fun h' tk c R hcl k => ?_
  have hp : H s.heap.objs.size = none := I.hok.fresh (Nat.le_refl _)
  exact ⟨.ref s.heap.objs.size, _, I.laid (t' := tk) k (Nat.le_refl _) (setO_new R), rfl, q _ c hcl hp⟩
end
end L2
namespace VS
open PySem PySem.Spec PyProof.Rows L2
variable [Tables]
theorem strict_unique {a b : List Int} (ha : a.Pairwise (· < ·)) (hb : b.Pairwise (· < ·)) (h : ∀ k, k ∈ a ↔ k ∈ b) : a = b := by
  have na : a.Nodup := ha.imp fun q => by omega
  have nb : b.Nodup := hb.imp fun q => by omega
  exact up_unique ((List.perm_ext_iff_of_nodup na nb).mpr h) (ha.imp fun q => by omega) (hb.imp fun q => by omega)
section
variable {c : Sta} {Γ : List Bool} {e : Expr} {fe : DE} {p p2 pos pos2 : Pos}
theorem vf_sortSet (hs : glob c "sorted" = true) (hm : c.g.mg "sorted" = none) (hs2 : glob c "set" = true) (hm2 : c.g.mg "set" = none) (ha : VE c Γ true e fe)
    (he : ∀ env, starEach [e] env = [(false, eval e env)])
    (he2 : ∀ env, starEach [.Call (.Name "set" p2) [e] [] pos2] env = [(false, eval (.Call (.Name "set" p2) [e] [] pos2) env)])
    (hpl : ∀ env, (backTo pos2 (starEach [] env)).any (·.1) = false) (hpl2 : ∀ env, (backTo pos (starEach [] env)).any (·.1) = false) :
    VF c Γ (.Call (.Name "sorted" p) [.Call (.Name "set" p2) [e] [] pos2] [] pos) (eCall (f1 fSortSet) (aCons fe aNil)) := VF.mk <| fun z hz Q h =>
  wpE_of (pe_callB (cr_sortedSet hz.on.calm) (hz.gl hs) (by rw [hz.on.mg]; exact hm) rfl
    (pa_cons (pe_callTy (cr_setInts hz.on.calm) (hz.gl hs2) (by rw [hz.on.mg]; exact hm2) rfl pa_wp (glob_ok hs2).2.2 (glob_ok hs2).2.1 (he _) (hpl _)) pa_nil (he2 _)) (glob_ok hs).2.2 (glob_ok hs).2.1 (he2 _) (hpl2 _))
    ((va_cons ha va_nil he) z hz _ (Post.bind (show Post z (okF z) ((aCons fe aNil z.ρ >>= f1 fSortSet) z.S) Q from h) fun ds vs S1 A1 H1 s1 o1 h1 => by
      have hz1 := hz.to o1.1
      have h1 := h1.back s1
      have key : ∀ d v, VOk (z.to S1 A1 H1) true d v A1 H1 → Post (z.to S1 A1 H1) (okF (z.to S1 A1 H1)) (fSortSet d S1) Q → rSetInts z.X.K z.X.w [v] H1 fun x H2 => rSortedSet z.X.w [x] H2 Q := by
        intro d v q1 h2
        cases d with
        | lst ds =>
          obtain ⟨a, us, e, ho, l⟩ := q1.lst
          subst e
          unfold fSortSet onInts at h2
          dsimp only at h2
          cases q : intsD ds with
          | none => rw [q] at h2; exact h2.elim
          | some ns =>
            rw [q] at h2
            dsimp only at h2
            have ev := ints_ok q l
            subst ev
            split at h2
            · rename_i hlen
              refine ⟨a, ns, rfl, .of ho, hlen, fun t c hc ht => ?_⟩
              refine ⟨t, _, c, rfl, upd_same, by omega, fun ns' t2 up mem len ht2 => ?_⟩
              have e2 : ns' = setI ns := strict_unique up up_setI fun k => by rw [mem, mem_setI]; simp
              subst e2
              have hz2 : ((z.to S1 A1 H1).to S1 A1 (upd H1 t (SetO z.X.w t (fun j => decide (j ∈ ns)) c))).Ok _ _ := hz1.to (o1.1.alloc ht)
              exact (Post.back (z := z.to S1 A1 H1) (step_new ht) (Post.step (step_new ht) h2)).newL hz2 ht2 (repL_ints _)
            · exact h2.elim
        | _ => exact h2.elim
      cases o1.2 with
      | nil => exact h1.elim
      | cons q1 t =>
        cases t with
        | cons _ _ => exact h1.elim
        | nil => exact key _ _ q1 h1))
end
end VS
namespace VS
open PySem PySem.Spec PyProof.Rows L2
variable [Tables]
def tLend (ft : DT) : DT := fun ρ S => match ft ρ S with
  | .ok b _ => .ok b S
  | _ => .bad
section
variable {c : Sta} {Γ : List Bool} {t : Expr} {ft : DT}
end
end VS
namespace VS
open PySem PySem.Spec PyProof.Rows L2
variable [Tables]
section
variable {H : Hp} {O : Addr → Prop} {A : List Addr}
end
section
variable {c : Sta} {Γ : List Bool} {e e2 : Expr} {fs : DA} {p p2 pos pos2 : Pos}
end
end VS
namespace VS
open PySem PySem.Spec PyProof.Rows L2
variable [Tables]
def testD (g : DG) (ft : DT) : List VS.D → List VS.D → Store → Option (List VS.D)
  | [], ρ, S => some ρ
  | d :: ds, ρ, S => match g d ρ with
    | some ρ1 => match ft ρ1 S with
      | .ok false _ => testD g ft ds ρ1 S
      | _ => none
    | none => none
def toNx (S : Store) : Option (List VS.D) → Out
  | some ρ => .nx ρ S
  | none => .bad
def sForT (i : DI) (g : DG) (ft : DT) : DS := fun ρ S => match i ρ S with
  | .ok ds S' => toNx S' (testD g ft ds ρ S')
  | _ => .bad
section
variable {c : Sta} {Γ : List Bool} {t : Expr} {ft : DT} {pos ipos : Pos}
end
end VS
namespace VS
open PySem PySem.Spec PyProof.Rows L2
variable [Tables]
def kitB2 (u t1 t2 : String) : Option Bool := match kitB u t1 with
  | some true => some true
  | some false => kitB u t2
  | none => none
def dIsiB (t1 t2 : String) (d : VS.D) : M VS.D := match tyName d with
  | some u => match kitB2 u t1 t2 with
    | some b => retD (.bl b)
    | none => badD
  | none => badD
section
variable {c : Sta} {Γ : List Bool} {br : Bool}
end
end VS
namespace L2
open PySem PySem.Spec PyProof.Rows
section
variable {X : Cx}
variable {o e : Expr} {es : List Expr} {to : TE} {ta : TA} {name : Str} {apos cpos : Pos} {id : String} {r : V → List V → Hp → VK → Prop}
end
end L2
namespace VS
open PySem PySem.Spec PyProof.Rows L2
variable [Tables]
section
variable {c : Sta} {Γ : List Bool} {br : Bool} {o e : Expr} {fo fe : DE} {apos pos : Pos}
def dTix : VS.D → M VS.D
  | .lst ds => retD (.tix ds)
  | _ => badD
def idxI (k : Int) (ns : List Int) : Option Nat := if k ∈ ns then some (ns.idxOf k) else none
def dTixAt (d e : VS.D) : M VS.D := match d, e with
  | .tix ds, .int k => match intsD ds with
    | some ns => match idxI k ns with
      | some j => retD (.int (j : Nat))
      | none => badD
    | none => badD
  | _, _ => badD
def eTixAt (fo fe : DE) : DE := fun ρ => fo ρ >>= fun d => match d with
  | .tix ds => fe ρ >>= fun k => dTixAt (.tix ds) k
  | _ => fun _ => .bad
end
end VS
namespace VS
open PySem PySem.Spec PyProof.Rows L2
variable [Tables]
section
variable {H : Hp} {O O' : Addr → Prop} {A A' : List Addr}
end
section
variable {c : Sta} {Γ : List Bool} {t : Expr} {ft : DT} {z : Sit}
end
def sMutX (fo : DE) (g : List VS.D → List VS.D → Option (List VS.D)) (fs : DA) : DS := fun ρ S => sLift fo ρ S fun d S1 => match d with
  | .ref n => match S1[n]? with
    | some (.lst _) => sLift fs ρ S1 fun ds S2 => match S2[n]? with
      | some (.lst l) => match g l ds with
        | some l' => .nx ρ (S2.set n (.lst l'))
        | none => .bad
      | _ => .bad
    | _ => .bad
  | _ => .bad
section
variable {c : Sta} {Γ : List Bool} {o e : Expr} {es : List Expr} {fo : DE} {fs : DA} {name : Str} {id : String} {apos cpos pos : Pos} {r : V → List V → Hp → VK → Prop} {g : List VS.D → List VS.D → Option (List VS.D)}
def gClr : List VS.D → List VS.D → Option (List VS.D)
  | _, [] => some []
  | _, _ => none
end
end VS
namespace L2
open PySem PySem.Spec PyProof.Rows
end L2
namespace VS
open PySem PySem.Spec PyProof.Rows L2
variable [Tables]
section
variable {c : Sta} {Γ : List Bool} {br : Bool} {e : Expr} {fe : DE} {p p2 pos pos2 kp kpos : Pos}
theorem rg_ints (j : Int) : rgV 0 j = ((List.range j.toNat).map fun k : Nat => (k : Int)).map V.int := by
  unfold rgV
  rw [List.map_map, Int.sub_zero]
  refine List.map_congr_left fun k _ => ?_
  show V.int (0 + (k : Int)) = V.int (k : Int)
  rw [Int.zero_add]
theorem vf_listRg (hl : glob c "list" = true) (hm : c.g.mg "list" = none) (hr : glob c "range" = true) (hm2 : c.g.mg "range" = none) (he : VE c Γ true e fe)
    (hs : ∀ env, starEach [.Call (.Name "range" p2) [e] [] pos2] env = (false, eval (.Call (.Name "range" p2) [e] [] pos2) env) :: starEach [] env) (hs2 : ∀ env, starEach [e] env = (false, eval e env) :: starEach [] env) :
    VF c Γ (.Call (.Name "list" p) [.Call (.Name "range" p2) [e] [] pos2] [] pos) (eUn fRange fe) := VF.mk <| fun z hz Q h =>
  wpE_of (pe_listRg hz.on.calm (hz.gl hl) (by rw [hz.on.mg]; exact hm) (prg_1 (hz.gl hr) (by rw [hz.on.mg]; exact hm2) pe_wp (hs2 _)) (hs _))
    (he z hz _ (Post.bind (show Post z (okF z) ((fe z.ρ >>= fRange) z.S) Q from h) fun d v S1 A1 H1 s1 o1 h1 => by
      have hz1 := hz.to o1.1
      have h1 := h1.back s1
      cases d with
      | int j =>
        dsimp only [fRange] at h1
        split at h1
        · rename_i hj
          refine ⟨j, o1.2.int, RgOk.of_le (by omega) (by omega) (by omega) (by omega), fun q hq => ?_⟩
          rw [rg_ints]
          refine Post.newL hz1 hq ?_ h1
          have := repL_ints (H := H1) (O := Ex z.act.O0 A1 z.own) (A := A1) ((List.range j.toNat).map fun k : Nat => (k : Int))
          rw [List.map_map] at this
          exact this
        · exact h1.elim
      | _ => exact h1.elim))
end
section
variable {c : Sta} {Γ : List Bool} {z : Sit} {D : Ends} {i j : Nat} {x y : Str} {px py p2 q2 pos tpos : Pos} {kk : Nat} {k l e : Expr} {fk fl fv : DE}
end
end VS
namespace L2
open PySem PySem.Spec PyProof.Rows
section
open PySem.W PySem.Calls PySem.HandSPX PySem.OEX
open Builtin Builtin.ObjectAttr
variable {prog : Program} {w : World} {R : Result → Shared → Prop} {A : Around} {hp : Heap} {g : Array GenState} {d : Drawn} {t : Nat} {os : OsState}
end
section
variable {X : Cx} {pins : List (Addr × Obj)} {σ : St} {H : Hp} {s : Shared} {a C dx : Addr} {f : Str} {y : V} {u : Value} {fs : List (Str × V)} {Q : Unit → Shared → Prop} {E : Value → Shared → Prop} {A : Around}
end
end L2
namespace L2
open PySem PySem.Spec PyProof.Rows
end L2
namespace L2
open PySem PySem.Spec PyProof.Rows
end L2
namespace VS
open PySem PySem.Spec PyProof.Rows L2
variable [Tables]
end VS
namespace VS
open PySem PySem.Spec PyProof.Rows L2
variable [Tables]
theorem Rel.touch {act : Act} {own : Own} {ρ : List VS.D} {S : Store} {A : List Addr} {σ : L2.St} {H : Hp} (r : Rel act own ρ S A σ H) {a : Addr} {u : HO} (ho : act.O0 a) (hA : a ∉ A) (hm : Mut (H a)) (hn : act.H0 a = none) : Rel act own ρ S A σ (upd H a u) := by
  have cg : Chg (fun b => b = a) H (upd H a u) := chg_upd rfl hm
  have g : Go (fun b => b = a) H (upd H a u) (Ex act.O0 A own) (Ex act.O0 A own) A A := ⟨cg, fun b e => by rw [e]; exact .inl ho, fun _ z => .inl z, fun _ _ e => e⟩
  refine ⟨r.len1, r.len2, fun i d o v h1 h2 h3 => ?_, r.inj, r.lenA, fun n d b h1 h2 => ?_, r.nodA, r.apart, r.apart0, r.pre, r.newA, r.newO, fun b hb => cg.dom b (r.trk b hb), r.chg.trans cg fun b e => .inr (by rw [e]; exact hn)⟩
  · have q := r.slot i d o v h1 h2 h3
    cases o with
    | none => exact q.imp id fun ⟨x, e, z⟩ => ⟨x, e, Rep.go g _ _ z⟩
    | some b => exact ⟨q.1, OwnOk.go g (fun e => r.apart0 b (List.mem_of_getElem? h2) (by rw [e]; exact ho)) q.2⟩
  · exact (r.cell n d b h1 h2).imp id fun z => OwnOk.go g (fun e => hA (by rw [← e]; exact List.mem_of_getElem? h2)) z
section
variable {c : Sta} {Γ : List Bool} {pos kp : Pos} {keys : List (Option Expr)} {values : List Expr} {ks : List Str} {v : Expr} {y : Str} {j : Nat} {fe : DE} {fs : DA}
end
end VS
namespace L2
open PySem PySem.Spec PyProof.Rows
end L2
namespace VS
open PySem PySem.Spec PyProof.Rows L2
variable [Tables]
end VS
namespace L2
open PySem PySem.Spec PyProof.Rows
end L2
namespace VS
open PySem PySem.Spec PyProof.Rows L2
variable [Tables]
end VS
namespace L2
open PySem PySem.Spec PyProof.Rows
theorem tup_times1 (l : Addr) (items : Array Value) (n : Nat) (dd : Option Addr) (sl : Array (Option Value)) (u : Tok) :
    Meets (Builtin.«tuple.__mul__» ⟨[.ref l, .int 1 u], []⟩) (fun _ R s => s.heap.get? l = some ⟨.type "tuple", dd, .seq items n, sl⟩ ∧ R (.ok (.ret (Value.ref l))) s) :=
  .of_wp fun prog w A R s h => by
    obtain ⟨hp, g, d, tk, os⟩ := s
    obtain ⟨hl, h⟩ := h
    have f2 := AutoSeq1.idx_int
    wp_walk using wpAny_loadPart' hl
    exact ⟨_, rfl, h⟩
theorem tup_times0 (l : Addr) (items : Array Value) (n : Nat) (dd : Option Addr) (sl : Array (Option Value)) (u : Tok) (hi : items.isEmpty = false) :
    Meets (Builtin.«tuple.__mul__» ⟨[.ref l, .int 0 u], []⟩) (fun _ R s => s.heap.get? l = some ⟨.type "tuple", dd, .seq items n, sl⟩ ∧
      R (.ok (.ret (Value.ref s.heap.objs.size))) { s with heap := s.heap.push { cls := Value.type "tuple", data := Data.seq #[] }, toks := s.toks }) :=
  .of_wp fun prog w A R s h => by
    obtain ⟨hp, g, d, tk, os⟩ := s
    obtain ⟨hl, h⟩ := h
    have f2 := AutoSeq1.idx_int
    wp_walk using wpAny_loadPart' hl
    exact ⟨_, rfl, h⟩
end L2
namespace VS
open PySem PySem.Spec PyProof.Rows L2
variable [Tables]
end VS
namespace L2
open PySem PySem.Spec PyProof.Rows
theorem set1T {X : Cx} {pins : List (Addr × Obj)} {σ : St} {H : Hp} {s : Shared} {E : Value → Shared → Prop} {D b : Addr} {ks : List (List Key × V)} {k : List Key} {v : V} {r : Value} {Q : Unit → Shared → Prop} (hu : X.A.units < cLine) (I : Inv X pins σ H s) (hD : H D = some (.dT ks)) (lt : ks.length < sizeLine)
    (eb : H b = some (.tup (k.map kV))) (rv : RelV v r) (h : ∀ s', Inv X pins σ (upd H D (.dT (putK ks k v))) s' → Q () s') : wpAny (model X.prog X.w) X.A (dictSet D (.ref b) r) Q E s := by
  obtain ⟨_, hsys, xs, rel, dd⟩ := dt_of I.hok hD
  have small : (putK ks k v).length ≤ sizeLine := Nat.le_trans (length_putK ks k v) lt
  refine wpAny_dictSet_heap (hsz := by rw [← Paired.length rel]; omega) (show (tupleKind (mixKind X.prog X.w)).room X.A from hu) (key_of I.hok eb) dd fun h' ⟨q, es, ep, hq, a2, a3, a4, _, a5⟩ hs => h _ (d_write I (by rw [hD]; trivial) hs ⟨q, hq⟩ ⟨small, hsys, _, (rel.put k eb rv).keeps (fun c ys ec => (upd_ne (ne_of ec hD (fun z => nomatch z))).trans ec), q, es, ep, hq, a2, a3, a4, a5⟩)
def tDisp1 (tk tv : TE) : TE := fun σ H Q => ∀ p, H p = none → tk σ (upd H p (.dT [])) fun x H1 => tv σ H1 fun y H2 => H2 p = some (.dT []) ∧ ∃ (k : List Key) (b : Addr), x = .ref b ∧ H2 b = some (.tup (k.map kV)) ∧ Q (.ref p) (upd H2 p (.dT (putK [] k y)))
theorem pe_disp1 {X : Cx} {k v : Expr} {tk tv : TE} {pos : Pos} (hu : X.A.units < cLine) (hk : PE X k tk) (hv : PE X v tv) : PE X (.Dict [some k] [v] pos) (tDisp1 tk tv) := by
  refine ⟨fun pins s σ H Q I q => ?_⟩
  have fr := I.hok.fresh (Nat.le_refl s.heap.objs.size)
  have ln : (pairTrees [some k] [v] X.env pos).length = 1 := pairTrees_length [some k] [v] X.env pos rfl rfl
  rw [arm_eval_Dict, zip_pairTrees [some k] [v] X.env pos rfl rfl, dictDisplay_pairs (pairTrees [some k] [v] X.env pos) (fun z => by rw [z] at ln; cases ln) (by omega)]
  refine wpAny_bind (wpAny_standAt (wpAny_bind ?_)); unfold subDict
  refine wpAny_bind (wpAny_alloc ?_); refine wpAny_bind (wpAny_holding ?_)
  rw [if_pos (show (pairTrees [some k] [v] X.env pos).length ≤ 15 by omega)]
  have I1 := I.laid (a := s.heap.objs.size) (o := .dT []) (h' := s.heap.push ⟨.type "dict", none, .dict #[] 0, #[]⟩) (t' := s.toks) (fun _ _ q => Heap.get?_push_of_some _ q) (Nat.le_refl _) (dt_empty s.heap I.big)
  refine wpAny_bind (pairTrees_cons_walk (thn (hk.run pins _ σ _ _ I1 (q _ fr)) fun u s1 ⟨x, H1, J1, rx, q1⟩ => thn (hv.run pins s1 σ H1 _ J1 q1) fun w2 s2 ⟨y, H2, J2, ry, q2⟩ => pairTrees_nil_walk ?_))
  obtain ⟨hp, kk, b, ex, eb, q3⟩ := q2
  subst ex
  cases rx
  refine wpAny_holding (wpAny_bind ?_)
  rw [List.forIn_cons]
  refine wpAny_bind (wpAny_bind (set1T hu J2 hp (by decide) eb ry fun s3 J3 => wpAny_pure ?_))
  dsimp only
  rw [List.forIn_nil]
  exact wpAny_pure (wpAny_pure (wpAny_pure (wpAny_pure ⟨.ref _, _, J3, rfl, q3⟩)))
end L2
namespace VS
open PySem PySem.Spec PyProof.Rows L2
variable [Tables]
section
variable {c : Sta} {Γ : List Bool} {k v : Expr} {pos : Pos} {fk fv : DE} {br : Bool}
theorem vf_disp1 (hk : VE c Γ false k fk) (hv : VE c Γ false v fv) : VF c Γ (.Dict [some k] [v] pos) (eCall disp1D (aCons fk (aCons fv aNil))) := VF.mk <| fun z hz Q p => by
  refine wpE_of (pe_disp1 (by have := units1 hz.on.room; omega) pe_wp pe_wp) fun a ha => ?_
  have nA := hz.nA ha
  have hz1 : Sit.Ok { z with act := z.act.plus a, H := upd z.H a (.dT []) } c Γ := ⟨hz.g, hz.on, hz.tk, hz.own, hz.pu, hz.rel.plus ha (chg_new ha) (show upd z.H a (.dT []) a ≠ none by rw [upd_same]; exact fun q => by cases q)⟩
  have h0a : z.act.H0 a = none := none0 hz ha
  have up : ∀ {A2 : List Addr} {H2 : Hp}, Step z.ep z.A (upd z.H a (.dT [])) A2 H2 → Step z.ep z.A z.H A2 H2 := fun s => (step_new ha).trans s
  have core : ∀ Q' : List V → Hp → Prop, Post { z with act := z.act.plus a, H := upd z.H a (.dT []) } (okA { z with act := z.act.plus a, H := upd z.H a (.dT []) } false) (aCons fk (aCons fv aNil) z.ρ z.S) Q' → wpE z.X k z.σ (upd z.H a (.dT [])) fun x H1 => wpE z.X v z.σ H1 fun y H2 => Q' [x, y] H2 := fun Q' p => by
    refine hk { z with act := z.act.plus a, H := upd z.H a (.dT []) } hz1 _ (Post.bind (ok2 := okA { z with act := z.act.plus a, H := upd z.H a (.dT []) } false) (f := fun d => aCons fv aNil z.ρ >>= fun ds S => .ok (d :: ds) S) p fun d u S1 A1 H1 s1 o1 h1 => ?_)
    refine hv (({ z with act := z.act.plus a, H := upd z.H a (.dT []) } : Sit).to S1 A1 H1) (hz1.to o1.1) _ ?_
    have h1' : Post (({ z with act := z.act.plus a, H := upd z.H a (.dT []) } : Sit).to S1 A1 H1) (okA { z with act := z.act.plus a, H := upd z.H a (.dT []) } false) ((fv z.ρ >>= fun e S => .ok [d, e] S) S1) Q' := by
      refine cast ?_ h1
      congr 1
      show M.bind (M.bind (fv z.ρ) fun e => M.bind (aNil z.ρ) fun ds S => .ok (e :: ds) S) (fun ds S => .ok (d :: ds) S) S1 = M.bind (fv z.ρ) (fun e S => .ok [d, e] S) S1
      unfold M.bind
      cases fv z.ρ S1 <;> rfl
    exact Post.bind h1' fun e w S2 A2 H2 s2 o2 h2 => h2 [u, w] H2 A2 Step.refl ⟨o2.1, .cons (o1.2.step o1.1 s2) (.cons o2.2 .nil)⟩
  refine core (fun vs H2 => H2 a = some (.dT []) ∧ ∃ (kk : List Key) (b : Addr), (vs[0]?).getD .non = .ref b ∧ H2 b = some (.tup (kk.map kV)) ∧ Q (.ref a) (upd H2 a (.dT (putK [] kk ((vs[1]?).getD .non))))) ?_
  change Post z (okF z) ((aCons fk (aCons fv aNil) z.ρ >>= disp1D) z.S) Q at p
  rw [bind_run] at p
  show Post _ _ (aCons fk (aCons fv aNil) z.ρ z.S) _
  cases q : aCons fk (aCons fv aNil) z.ρ z.S with
  | bad => rw [q] at p; exact p.elim
  | exc x S' =>
    rw [q] at p
    intro cls oe H' A' s r o
    exact p cls oe H' A' (up s) r.minus (o.less fun b hb => hb.imp .inl id)
  | ok ds S' =>
    rw [q] at p
    dsimp only at p
    intro vs H2 A2 s2 o2
    have keep : H2 a = some (.dT []) := s2.chg.keep a _ upd_same fun z => nA z.2
    have na2 : a ∉ A2 := fun hm => by
      rcases s2.new a hm with e | e
      · exact nA e
      · have e : upd z.H a (.dT []) a = none := e
        rw [upd_same] at e
        cases e
    have lr := repL_of o2.2
    refine ⟨keep, ?_⟩
    unfold disp1D at p
    split at p
    · rename_i d e
      obtain ⟨u, r1, ev, hu, lr2⟩ := lr
      subst ev
      obtain ⟨w, r2, ew, hw, lr3⟩ := lr2
      subst ew
      have er : r2 = [] := lr3
      subst er
      rcases ek : toK d with _ | (kq | ks)
      · simp only [ek] at p; exact p.elim
      · simp only [ek] at p; exact p.elim
      · simp only [ek] at p
        obtain ⟨ds, ed, ek2⟩ := toK_r ek
        subst ed
        obtain ⟨b, vs, e3, e4, rl⟩ := hu
        obtain ⟨ys, f1, f2, ko⟩ := flatKs_ok ek2 rl
        subst f2 f1
        refine ⟨ys, b, e3, e4, ?_⟩
        refine p _ _ A2 ⟨s2.pre, fun b hb => (s2.new b hb).imp id fun e => ?_, ?_⟩ ⟨a, rfl, ha, na2, o2.1.touch (.inr rfl) na2 (by rw [keep]; trivial) h0a, _, upd_same, ?_⟩
        · have e : upd z.H a (.dT []) b = none := e
          by_cases hb : b = a
          · rw [hb, upd_same] at e; cases e
          · rw [upd_ne hb] at e; exact e
        · have s3 := up s2
          refine ⟨fun b o e n t => ?_, fun b o e n t => ?_, fun b e => upd_dom (s3.chg.dom b e), fun t p hp => tab_upd (.inr (by rw [keep]; trivial)) (s3.chg.tab t p hp)⟩
          · rw [upd_ne (ne_of_none e ha)]; exact s3.chg.keep0 b o e n t
          · rw [upd_ne (ne_of_none e ha)]; exact s3.chg.imm0 b o e n t
        · have cg : Chg (fun b => b = a) H2 (upd H2 a (.dT (putK [] ys w))) := chg_upd rfl (by rw [keep]; trivial)
          have g : Go (fun b => b = a) H2 (upd H2 a (.dT (putK [] ys w))) (Ex (z.act.plus a).O0 A2 z.own) (Ex (z.act.plus a).O0 A2 z.own) A2 A2 := ⟨cg, fun b e => by rw [e]; exact .inl (.inr rfl), fun _ q => .inl q, fun _ _ e => e⟩
          exact repT_put (kvs := []) (l := []) ko (Rep.go g _ _ hw) rfl
    · exact p.elim
end
end VS
namespace L2
open PySem PySem.Spec PyProof.Rows
end L2
namespace VS
open PySem PySem.Spec PyProof.Rows L2
variable [Tables]
section
variable {c : Sta} {Γ Γ' : List Bool} {e : Expr} {fe : DE} {br : Bool} {p1 p2 p3 pos : Pos} {j : Nat}
def dRevS : VS.D → M VS.D
  | .str s => if s.length ≤ sz then retD (.str s.reverse) else badD
  | _ => badD
theorem vf_revL (he : VE c Γ true e fe) : VF c Γ (.Subscript e (.Slice none none (some (.UnaryOp .USub (.Constant (.int 1) j p1) p2)) p3) pos) (eUn fRevL fe) := VF.mk <| fun z hz Q h =>
  wpE_of (pe_revL pe_wp) (he z hz _ (Post.bind (show Post z (okF z) ((fe z.ρ >>= fRevL) z.S) Q from h) fun d v S1 A1 H1 s1 o1 h1 => by
    unfold fRevL at h1
    split at h1
    · obtain ⟨a, vs, e1, r1, l1⟩ := o1.2.lst
      exact ⟨a, vs, e1, .of r1, fun q hq => Post.newL (z := z.to S1 A1 H1) (hz.to o1.1) hq l1.reverse (Post.back s1 h1)⟩
    · exact h1.elim))
theorem rep_key {H : Hp} {O : Addr → Prop} {A : List Addr} : ∀ {k : Key}, keyOk k → Rep H O A (ofK1 (k1 k)) (kV k)
  | .inl _, _ => rfl
  | .inr x, h => ⟨by show V.str x = .str ⟨x.cps.toList.toArray⟩; cases x; rfl, h⟩
theorem rep_keysK {H : Hp} {O : Addr → Prop} {A : List Addr} : ∀ {kvs : List (DK × VS.D)} {l : List (Key × V)}, RepK H O A kvs l → RepL H O A (kvs.map fun p => ofK p.1) (l.map fun kv => kV kv.1)
  | [], l, h => by rw [show l = [] from h]; exact RepL.nil
  | (k', d) :: ps, l, h => by
    obtain ⟨y, v, r, e, ⟨ko, e2, _⟩, h2⟩ := h
    subst e e2
    exact RepL.cons (rep_key ko) (rep_keysK h2)
theorem rep_ks {H : Hp} {O : Addr → Prop} {A : List Addr} : ∀ {k : List Key}, (∀ y ∈ k, keyOk y) → RepL H O A ((k.map k1).map ofK1) (k.map kV)
  | [], _ => RepL.nil
  | _ :: _, h => RepL.cons (rep_key (h _ (List.mem_cons_self ..))) (rep_ks fun y hy => h y (List.mem_cons_of_mem _ hy))
theorem rep_keysT {H : Hp} {O : Addr → Prop} {A : List Addr} : ∀ {kvs : List (DK × VS.D)} {l : List (List Key × V)} {bs : List Addr}, RepT H O A kvs l → IsKeys H l bs → RepL H O A (kvs.map fun p => ofK p.1) (bs.map V.ref)
  | [], l, bs, h, q => by
    rw [show l = [] from h] at q
    cases q
    exact RepL.nil
  | (k', d) :: ps, l, bs, h, q => by
    obtain ⟨y, v, r, e, ⟨ko, e2, _⟩, h2⟩ := h
    subst e e2
    cases q with
    | cons q1 q2 => exact RepL.cons ⟨_, _, rfl, q1, rep_ks ko⟩ (rep_keysT h2 q2)
theorem vc_listD {c : Sta} : VCallF c (.type "list") (f1 fListD) := vcallF1 fun Γ z hz d v o Q p => by
  have old : Post z (okF z) (fList d z.S) Q → wpCall z.X (.type "list") [v] z.H Q := fun h => vc_list Γ z hz [d] [v] (.cons o .nil) Q h
  unfold fListD at p
  split at p
  · rename_i t kvs
    obtain ⟨a, e, q⟩ := o.dic
    subst e
    cases t with
    | false =>
      obtain ⟨l, r, rp⟩ := q
      exact wpCall_of (call_listD hz.on.calm) ⟨a, l, rfl, .inl r, fun t ht => p.newL hz ht (rep_keysK rp)⟩
    | true =>
      obtain ⟨l, r, rp⟩ := q
      refine wpCall_of (call_list_dT hz.on.calm) ⟨a, l, rfl, .inl r, fun t bs ht hb => p.newL hz ht ?_⟩
      exact rep_keysT rp hb
  · exact old p
end
end VS
namespace L2
open PySem PySem.Spec PyProof.Rows
end L2
namespace L2
open PySem PySem.Spec PyProof.Rows LamX
section
variable {X : Cx} {pins : List (Addr × Obj)} {σ : L2.St} {H : Hp} {s : Shared}
end
end L2
namespace VS
open PySem PySem.Spec PyProof.Rows L2
section
variable {P : Program} {w : World} {K : PySem.W.Frag} {mg mb : Str → Option Value} {s : Shared} {a : Addr} {vs : List Value} {xs : List V} {cs : List (Addr × Addr)}
end
end VS
namespace VS
open PySem PySem.Spec PyProof.Rows L2
def cpL (K : PySem.W.Frag) (ls : List LamF) : List (Addr × Addr) := (cpsOf K ls).filterMap id
section
variable {K : PySem.W.Frag} {h : Heap} {ls : List LamF}
theorem LamH.cp (c : LamH K h ls) {x : Addr × Addr} (hx : x ∈ cpL K ls) : PySem.W.codeHdIn K x.1 x.2 = true ∧ h.get? x.2 = some tabO := by
  obtain ⟨y, hy, e⟩ := List.mem_filterMap.mp hx
  obtain ⟨l, hl, rfl⟩ := List.mem_map.mp hy
  obtain ⟨i, hi⟩ := List.getElem?_of_mem hl
  obtain ⟨z, e1, e2, e3⟩ := c.at i hi
  have e4 : cpOf K (l K) = some x := e
  rw [e1] at e4; cases e4
  exact ⟨e2, e3⟩
theorem LamH.nodup (c : LamH K h ls) : ((cpL K ls).map (·.2)).Nodup := by
  unfold LamH okL at c
  have q := of_decide_eq_true (Bool.and_eq_true_iff.mp c).2
  have e : ((cpL K ls).map (·.2)) = (cpsOf K ls).filterMap fun x => x.map (·.2) := by
    unfold cpL
    rw [List.map_filterMap]
    rfl
  rw [e]; exact q
end
end VS
namespace VS
open PySem PySem.Spec PyProof.Rows L2
variable [Tables]
section
variable {c : Sta} {Γ : List Bool} {o e : Expr} {es : List Expr} {fo : DE} {fs : DA} {apos cpos : Pos} {br : Bool}
end
end VS
namespace VS
open PySem PySem.Spec PyProof.Rows L2
variable [Tables]
section
variable {c : Sta} {Γ : List Bool} {i j : Nat} {x y : Str} {px pos' apos cpos pos : Pos}
theorem vs_pop (hj : stored c j y = true) (hi : seen c i x = true) (hg : Γ[i]? = some true)
    (hbase : ∀ env, attributeBase (.Name x px) "pop" env (eval (.Name x px) env) = eval (.Name x px) env) (hline : (apos.endLine == cpos.line) = true)
    (hs : ∀ env n, swapsWith (.Call (.Attribute (.Name x px) "pop" apos) [] [] cpos) (some (.Name y pos')) n env = pure false) :
    VSt c Γ (Γ.set j false) (.Assign [.Name y pos'] (.Call (.Attribute (.Name x px) "pop" apos) [] [] cpos) pos) (sPop j i) := VSt.mk <| fun z hz D h => by
  obtain ⟨hN, hv, hd, hcd⟩ := seen_ok hi
  obtain ⟨h1, h2, h3⟩ := stored_ok hj hz
  refine wpS_of (ps_set (i := j) hz.on.nd h1 h2 (pe_bm0 PySem.F.plainAttrs_list PySem.F.slot_list_pop PySem.F.type_list_pop mt_pop (pe_var (i := i) (by rw [hz.on.N]; exact hN) (by rw [hz.on.sc]; exact hv) hd hcd) (hbase _) hline) (hs _ _) h3) ?_
  obtain ⟨a, d, e1, e2, e3, ow⟩ := own_slot hz hg
  unfold sPop at h
  rw [e2] at h
  cases d with
  | lst l =>
    dsimp only at h
    obtain ⟨vl, hH, rl⟩ := ow
    cases q : l[l.length - 1]? with
    | none => rw [q] at h; exact h.elim
    | some d =>
      rw [q] at h
      obtain ⟨w, hw, rw'⟩ := rl.get q
      have mem : some a ∈ z.own := List.mem_of_getElem? e1
      have hm : Mut (z.H a) := by rw [hH]; trivial
      refine ⟨.ref a, e3, .inl ⟨rfl, vl, .of hH⟩, a, vl, w, rfl, rfl, hH, by rw [rl.len]; exact hw, ?_⟩
      have g := goUpd (O := Ex z.act.O0 z.A z.own) (A := z.A) (u := .lst vl.dropLast) hm (.inr (.inr mem))
      have rl2 : RepL (upd z.H a (.lst vl.dropLast)) (Ex z.act.O0 z.A z.own) z.A l.dropLast vl.dropLast := by
        rw [List.dropLast_eq_take, List.dropLast_eq_take, rl.len]
        exact RepL.go (by rw [List.dropLast_eq_take, rl.len] at g; exact g) _ _ (rl.take _)
      have r1 := hz.rel.mutate (d := .lst l.dropLast) e1 hm ⟨vl.dropLast, upd_same, rl2⟩
      obtain ⟨m1, m2, m3, m4⟩ := Move.mut (A := z.A) (u := .lst vl.dropLast) mem hm
      exact SPost.nx h (own' := z.own.set j none) (by rw [isSome_set, hz.own]) (r1.setVal (.inr (Rep.go g _ _ rw'))) ⟨m1, m2, fun b hb => (mem_set_own hb).elim (fun e => by cases e) (m3 b), m4⟩
  | _ => exact h.elim
end
end VS
namespace VS
open PySem PySem.Spec PyProof.Rows L2
namespace B2
open PySem.NumText PySem.Calls
def IsB (c : Nat) : Prop := c = 48 ∨ c = 49
theorem IsB.hex {c : Nat} (h : IsB c) : Hx.IsHex c := .inl (by rcases h with rfl | rfl <;> omega)
end B2
section
variable [Tables] {c : Sta}
end
end VS
namespace VS
open PySem PySem.Spec PyProof.Rows L2
variable [Tables]
end VS
namespace L2
open PySem PySem.Spec PyProof.Rows
section
variable {X : Cx} {CX : CXT} {k : Nat} {f C : Addr} {fd : FuncData} {ps : List Str} {sp : Sp} {E : St → XK} {x m : Str} {p pos apos : Pos} {e o : Expr} {es : List Expr} {ta : TE} {t : TA}
end
end L2
namespace L2
open PySem PySem.Spec PyProof.Rows
end L2
namespace VS
open PySem PySem.Spec PyProof.Rows L2
variable [Tables]
section
variable {c : Sta}
end
end VS
namespace L2
open PySem PySem.Spec PyProof.Rows
section
variable {X : Cx} {CX : CXT} {pins : List (Addr × Obj)} {σ : L2.St} {H : Hp} {s : Shared} {a C dx g : Addr} {f : Str} {n : Nat} {sp : Sp} {fd : FuncData} {ps : List Str}
end
end L2
namespace L2
open PySem PySem.Spec PyProof.Rows
section
variable {X : Cx} {CX : CXT} {pins : List (Addr × Obj)} {σ : L2.St} {H : Hp} {s : Shared} {a C dx g : Addr} {fs : List (Str × V)} {n : Nat} {sp : Sp} {fd : FuncData} {ps : List Str}
end
end L2
namespace L2
open PySem PySem.Spec PyProof.Rows
section
variable {prog : Program} {w : World} {A : Around} {E : Value → Shared → Prop} {s : Shared} {K : PySem.W.Frag} {x C L f : Addr} {h₀ : Heap} {m : Str → Option Value} {ox : Obj} {od : Option Obj} {b tb : Value}
end
end L2
namespace L2
open PySem PySem.Spec PyProof.Rows PySem.Calls
section
variable {X : Cx} {CX : CXT} {pins : List (Addr × Obj)} {σ : L2.St} {H : Hp} {s : Shared} {a C dx g : Addr} {fs : List (Str × V)} {n : Nat} {sp : Sp} {fd : FuncData} {ps : List Str}
end
end L2
namespace VS
open PySem PySem.Spec PyProof.Rows L2
variable [Tables]
section
variable {c : Sta} {Γ : List Bool} {z : Sit} {x : Str} {as ps : List Str} {fn : List VS.D → M VS.D} {k : Nat} {a b e : Expr} {fa fb fe : DE} {pos p : Pos} {br : Bool}
end
end VS
namespace L2
open PySem PySem.Spec PyProof.Rows
end L2
namespace VS
open PySem PySem.Spec PyProof.Rows L2
variable [Tables]
theorem map_some {α β : Type} {r : Option α} {f : α → β} {b : β} (h : r.map f = some b) : ∃ s, r = some s ∧ f s = b := Option.map_eq_some_iff.mp h
end VS
namespace VS
open PySem PySem.Spec PyProof.Rows L2
variable [Tables]
section
variable {c : Sta} {Γ : List Bool} {z : Sit} {br : Bool} {o : Expr} {fo : DE} {apos cpos pos : Pos}
theorem put_val (hpu : c.pu = false) (hep : c.ep = false) (hz : z.Ok c Γ) {n : Nat} {a : Addr} (ha : z.A[n]? = some a) (hm : Mut (z.H a)) {u : HO} {d r : VS.D} {v : V} {Q : VK} (ow : OwnOk (upd z.H a u) z.O z.A a d) (hv : Rep z.H z.O z.A r v)
    (h : Post z (okE z br) (.ok r (z.S.set n d)) Q) : Q v (upd z.H a u) := by
  have mem : a ∈ z.A := List.mem_of_getElem? ha
  have g := goUpd (O := z.O) (A := z.A) (u := u) hm (.inr (.inl mem))
  have hzep : z.ep = false := by rw [hz.pu.2.1]; exact hep
  exact h v _ z.A ⟨List.prefix_refl _, fun _ q => .inl q, chg_upd ⟨hzep, mem⟩ hm⟩ ⟨hz.rel.put ha (.inl (by rw [hz.pu.1, hpu])) hm ow, .inl (Rep.go g _ _ hv)⟩
end
section
variable {c : Sta} {Γ : List Bool} {z : Sit} {br : Bool} {o e f : Expr} {fo fe ff : DE} {apos cpos pos : Pos}
end
end VS
namespace L2
open PySem PySem.Spec PyProof.Rows
end L2
namespace VS
open PySem PySem.Spec PyProof.Rows L2
variable [Tables]
section
variable {c : Sta} {Γ : List Bool} {z : Sit} {br : Bool} {x : Str} {kfs : List (Str × Str)} {e : Expr} {fe : DE} {p pos : Pos}
variable {ps : List Str} {pu : Bool} {k i : Nat} {es : List Expr} {fs : DA} {T : List (Str × (List VS.D → M VS.D))}
end
end VS
namespace VS
open PySem PySem.Spec PyProof.Rows L2
variable [Tables]
section
variable {c : Sta} {Γ : List Bool} {z : Sit} {br : Bool} {x kw : Str} {as : List Str} {e e2 : Expr} {es : List Expr} {fs : DA} {fe : DE} {pos p : Pos} {kp : Pos} {ps : List Str} {fn : List VS.D → M VS.D} {k : Nat}
end
end VS
namespace VS
open PySem PySem.Spec PyProof.Rows L2
variable [Tables]
section
end
section
variable {c : Sta} {Γ : List Bool} {z : Sit} {br : Bool} {e : Expr} {fe : DE} {p pos tpos kp kpos : Pos} {kj : _} {elts : List Expr} {kk : Nat}
end
end VS
namespace L2
open PySem PySem.Spec PyProof.Rows
end L2
namespace VS
open PySem PySem.Spec PyProof.Rows L2
variable [Tables]
section
variable {c : Sta} {Γ : List Bool} {z : Sit} {br : Bool} {o e : Expr} {fo fi : DE} {apos cpos pos : Pos}
theorem ve_popI (hpu : c.pu = false) (hep : c.ep = false) (ho : VE c Γ false o fo) (hi : VE c Γ false e fi) (hbase : ∀ env, attributeBase o "pop" env (eval o env) = eval o env) (hline : (apos.endLine == cpos.line) = true)
    (few : ∀ env, ((backTo cpos (starEach [e] env)).all (fun x => !x.1) && (backToKw cpos (keywordEach [] env)).all (fun x => x.1.isSome) && decide (([e] : List Expr).length + ([] : List Keyword).length + (if ([] : List Keyword).isEmpty then 0 else 1) < 30)) = true)
    (s1 : ∀ env, starEach [e] env = (false, eval e env) :: starEach [] env) (p1 : ∀ env, (backTo cpos (starEach [] env)).any (·.1) = false) :
    VE c Γ br (.Call (.Attribute o "pop" apos) [e] [] cpos) (ePopI fo fi) := VE.mk <| fun z hz Q h => by
  refine wpE_of (pe_bm PySem.F.plainAttrs_list PySem.F.slot_list_pop PySem.F.type_list_pop mt_popAt pe_wp (pa_cons pe_wp pa_nil (s1 _)) (hbase _) (few _) hline (s1 _) (p1 _)) ?_
  refine ho z hz _ (Post.bind (show Post z (okE z br) ((fo z.ρ >>= fun o => isLC o >>= fun _ => fi z.ρ >>= fun k => popIC o k) z.S) Q from h) fun d v S1 A1 H1 st1 o1 h1 => ?_)
  rw [bind_run] at h1
  cases d with
  | ref n =>
    obtain ⟨a, ea, rfl⟩ := o1.2.ref
    have hz1 := hz.to o1.1
    cases es : S1[n]? with
    | none => rw [show isLC (.ref n) S1 = .bad by unfold isLC; dsimp only; rw [es]] at h1; exact h1.elim
    | some d1 =>
      cases d1 with
      | lst l =>
        rw [show isLC (.ref n) S1 = .ok () S1 by unfold isLC; dsimp only; rw [es]] at h1
        dsimp only at h1
        rcases hz1.rel.cell n _ a es ea with u | ⟨vl, hH, rl⟩
        · cases u
        refine ⟨.inl ⟨rfl, vl, .of hH⟩, ?_⟩
        refine hi (z.to S1 A1 H1) hz1 _ (Post.bind h1 fun k u S2 A2 H2 st2 o2 h2 => ?_)
        have hz2 := hz1.to o2.1
        have ea2 : A2[n]? = some a := pre_get st2.pre ea
        cases k with
        | int i =>
          have eu := o2.2.int
          subst eu
          have h2 : Post (z.to S2 A2 H2) (okE z br) (popIC (.ref n) (.int i) S2) Q := h2
          unfold popIC at h2
          dsimp only at h2
          cases es2 : S2[n]? with
          | none => rw [es2] at h2; exact h2.elim
          | some d2 =>
            rw [es2] at h2
            cases d2 with
            | lst l2 =>
              dsimp only at h2
              cases q1 : seqIndex? i l2.length with
              | none => rw [q1] at h2; exact h2.elim
              | some k =>
                rw [q1] at h2
                dsimp only at h2
                cases q2 : l2[k]? with
                | none => rw [q2] at h2; exact h2.elim
                | some d =>
                  rw [q2] at h2
                  dsimp only at h2
                  split at h2
                  · rename_i hb
                    rcases hz2.rel.cell n _ a es2 ea2 with u | ⟨vl2, hH2, rl2⟩
                    · cases u
                    obtain ⟨w, hw, rw'⟩ := rl2.get q2
                    have mem : a ∈ A2 := List.mem_of_getElem? ea2
                    have hm : Mut (H2 a) := by
                      have : H2 a = some (.lst vl2) := hH2
                      rw [this]; trivial
                    have g := goUpd (O := Ex z.act.O0 A2 z.own) (A := A2) (u := .lst (vl2.eraseIdx k)) hm (.inr (.inl mem))
                    have rl3 : RepL (upd H2 a (.lst (vl2.eraseIdx k))) (Ex z.act.O0 A2 z.own) A2 (l2.eraseIdx k) (vl2.eraseIdx k) := RepL.go g _ _ (rl2.erase k)
                    exact ⟨a, vl2, i, k, w, rfl, rfl, hH2, hb.1, hb.2, by rw [rl2.len]; exact q1, hw, put_val (z := z.to S2 A2 H2) hpu hep hz2 ea2 hm (d := .lst (l2.eraseIdx k)) ⟨vl2.eraseIdx k, upd_same, rl3⟩ rw' h2⟩
                  · exact h2.elim
            | _ => exact h2.elim
        | _ => exact h2.elim
      | _ => rw [show isLC (.ref n) S1 = .bad by unfold isLC; dsimp only; rw [es]] at h1; exact h1.elim
  | _ => exact h1.elim
end
end VS
namespace ZL
open PySem PySem.Spec PyProof.Rows L2
section
variable {prog : Program} {w : World} {A : Around} {E : Value → Shared → Prop} {s : Shared} {z TI TO i1 i2 : Addr} {fp1 fp2 : List Addr} {n1 n2 i : Nat} {P1 P2 : Nat → Value → Prop} {St1 St2 : Nat → Heap → Prop}
end
section
variable {prog : Program} {w : World} {A : Around} {E : Value → Shared → Prop} {s : Shared} {z TI TO i1 i2 : Addr} {fp1 fp2 : List Addr} {n1 n2 i : Nat} {P1 P2 : Nat → Value → Prop} {St1 St2 : Nat → Heap → Prop} {L : Addr}
end
section
variable {prog : Program} {w : World} {A : Around} {s : Shared} {R : Result → Shared → Prop} {z TI TO i1 i2 L : Addr} {fp1 fp2 : List Addr} {n1 n2 n : Nat} {P1 P2 : Nat → Value → Prop} {St1 St2 : Nat → Heap → Prop}
end
section
variable {prog : Program} {w : World} {A : Around} {E : Value → Shared → Prop} {s : Shared} {z TI TO i1 i2 : Addr} {fp1 fp2 : List Addr} {n1 n2 n : Nat} {P1 P2 : Nat → Value → Prop} {St1 St2 : Nat → Heap → Prop}
end
end ZL
namespace ZL
open PySem PySem.Spec PyProof.Rows L2
section
variable {P : Program} {w : World} {A : Around} {E : Value → Shared → Prop} {s : Shared}
end
section
variable {X : Cx}
end
end ZL
namespace VS
open PySem PySem.Spec PyProof.Rows L2
variable [Tables]
section
variable {c : Sta} {Γ : List Bool} {e o : Expr} {fe fo : DE} {p p2 q pos apos : Pos}
end
end VS
namespace L2
open PySem PySem.Spec PyProof.Rows
section
variable {X : Cx}
end
end L2
namespace VS
open PySem PySem.Spec PyProof.Rows L2
variable [Tables]
section
variable {c : Sta} {Γ : List Bool} {br : Bool} {o e : Expr} {fo fe : DE} {apos pos : Pos}
end
end VS
namespace ZL
open PySem PySem.Spec PyProof.Rows L2
open VS (IsZipS noe_item noe_end stop_it zs_item zs_end)
abbrev IsZipOut (h : Heap) (z TI TO T : Addr) (f : Bool) : Prop :=
  h.get? z = some { cls := .type "zip", dict := none, data := .fields #[rawInt T, .bool f, .bool true, .ref TI, .ref TO], slots := #[] }
section
variable {prog : Program} {w : World} {A : Around} {E : Value → Shared → Prop} {s : Shared} {z TI TO i1 i2 : Addr} {fp1 fp2 : List Addr} {n1 n2 i : Nat} {P1 P2 : Nat → Value → Prop} {St1 St2 : Nat → Heap → Prop}
theorem outS {T : Addr} {f : Bool} {oT : Obj} {Q : Bool → Shared → Prop} (hz : IsZipOut s.heap z TI TO T f) (hT : s.heap.get? T = some oT)
    (k : ∀ q, IsZipOut q z TI TO T true → Heap.SameBut z s.heap q → Q false { s with heap := q }) : wpAny (model prog w) A (Builtin.SmallTypes.ownedTupleIsFree (.ref z)) Q E s := by
  unfold Builtin.SmallTypes.ownedTupleIsFree
  refine wpAny_bind (wpAny_field (s := s) hz rfl (x := rawInt T) rfl ?_)
  show wpAny (model prog w) A (loadIfAlive ((T : Int).toNat) >>= _) _ _ _
  rw [show ((T : Int).toNat) = T from Int.toNat_natCast T]
  refine wpAny_bind (PySem.W.kdx_alive hT ?_)
  simp only [Option.isNone_some, Bool.false_eq_true, if_false]
  refine wpAny_bind (wpAny_field (s := s) hz rfl (x := .bool f) rfl ?_)
  cases f with
  | true =>
    rw [if_neg (show ¬ ((Value.bool true != Value.bool true) = true) from fun q => nomatch q)]
    exact wpAny_pure (k s.heap hz (.refl _ _))
  | false =>
    rw [if_pos (show (Value.bool false != Value.bool true) = true from by decide)]
    exact wpAny_bind (wpAny_setField_rec (s := s) hz (by simp) fun q a b => wpAny_pure (k q a b))
end
section
variable {prog : Program} {w : World} {A : Around} {E : Value → Shared → Prop} {s : Shared} {z TI TO i1 i2 L : Addr} {fp1 fp2 : List Addr} {n1 n2 i : Nat} {P1 P2 : Nat → Value → Prop} {St1 St2 : Nat → Heap → Prop} {st : Bool}
end
end ZL
namespace VS
open PySem PySem.Spec PyProof.Rows L2
variable [Tables]
section
variable {X : Cx} {pins : List (Addr × Obj)} {σ : L2.St} {H : Hp} {s : Shared}
end
end VS
namespace VS
open PySem PySem.Spec PyProof.Rows L2
variable [Tables]
section
variable {H : Hp} {O : Addr → Prop} {A : List Addr}
end
section
variable {c : Sta} {Γ : List Bool} {e e2 : Expr} {fs : DA} {p p2 pos pos2 : Pos}
end
end VS
namespace L2
open PySem PySem.Spec PyProof.Rows
section
variable {prog : Program} {w : World} {A : Around} {E : Value → Shared → Prop} {s : Shared}
end
section
variable {X : Cx}
end
end L2
namespace VS
open PySem PySem.Spec PyProof.Rows L2
variable [Tables]
section
variable {c : Sta} {Γ : List Bool} {e : Expr} {fe : DE} {br : Bool} {p1 p2 p3 pos : Pos} {j : Nat}
end
end VS
namespace VS
open PySem PySem.Spec PyProof.Rows L2
variable [Tables]
section
variable {c : Sta} {Γ Γ₁ Γ₂ : List Bool} {z : Sit}
def notStar : Expr → Bool
  | .Starred .. => false
  | _ => true
theorem star_of : ∀ a : Expr, notStar a = true → (match a with | .Starred .. => true | _ => false) = false := fun a h => by
  cases a <;> first | rfl | cases h
theorem sw_two {env : Env} {x y : Str} {a b : Expr} {px py pt pt2 : Pos} {kt k2} (hk : env.blockKind = .function) (hx : env.scope.names.lookup x = some .local) (hy : env.scope.names.lookup y = some .local) (hxy : (y == x) = false) (hl : px.line = py.line)
    (ha : notStar a = true) (hb : notStar b = true) (hf : [a, b].all (foldedForSure 8) = false) (hc : [a, b].all (constantsAlone 8) = false) :
    swappedStores [.Tuple [.Name x px, .Name y py] kt pt] (.Tuple [a, b] k2 pt2) env = pure (some [x, y]) := by
  have k1 : env.kindOf x = some .local := hx
  have k2 : env.kindOf y = some .local := hy
  have sa := star_of a ha
  have sb := star_of b hb
  unfold swappedStores
  simp [hk, hf, hc, k1, k2, hl, hxy, List.eraseDups, List.eraseDupsBy, List.eraseDupsBy.loop, Expr.pos]
  intro h
  rcases h with h | h
  · exact absurd (h.symm.trans sa) (by decide)
  · exact absurd (h.symm.trans sb) (by decide)
def parOk (c : Sta) (i j : Nat) (x y : Str) : Bool := decide (c.N[i]? = some x) && decide (c.N[j]? = some y) && (c.sc.names.lookup x == some .local) && (c.sc.names.lookup y == some .local) && !(y == x) && !(i == j) && (if c.sc.kind.isAnnotationScope then true else c.sc.kind == .function)
theorem vs_par {i j : Nat} {x y : Str} {a b : Expr} {fs : DA} {px py pt pt2 pos : Pos} {kt k2} (hp : parOk c i j x y = true) (hl : px.line = py.line) (ha : notStar a = true) (hb : notStar b = true)
    (hf : [a, b].all (foldedForSure 8) = false) (hc : [a, b].all (constantsAlone 8) = false) (hs : ∀ env n, swapsWithSole [.Tuple [.Name x px, .Name y py] kt pt] (.Tuple [a, b] k2 pt2) n env = pure false)
    (h : VA c Γ false [a, b] fs) : VSt c Γ ((Γ.set i false).set j false) (.Assign [.Tuple [.Name x px, .Name y py] kt pt] (.Tuple [a, b] k2 pt2) pos) (sAsg (eTup fs) (gT (gsCons (gN i) (gsCons (gN j) gsNil)))) := VSt.mk fun z hz D hh => by
  unfold parOk at hp
  simp only [Bool.and_eq_true, decide_eq_true_eq, beq_iff_eq, Bool.not_eq_true', beq_eq_false_iff_ne] at hp
  obtain ⟨⟨⟨⟨⟨⟨p1, p2⟩, p3⟩, p4⟩, p5⟩, p6⟩, p7⟩ := hp
  have hk : z.X.env.blockKind = .function := by
    unfold Env.blockKind
    rw [hz.on.sc]
    cases q : c.sc.kind.isAnnotationScope with
    | true => rfl
    | false => rw [q] at p7; simpa using p7
  have l1 : z.X.env.scope.names.lookup x = some .local := by rw [hz.on.sc]; exact p3
  have l2 : z.X.env.scope.names.lookup y = some .local := by rw [hz.on.sc]; exact p4
  refine wpS_of (ps_par hz.on.calm hz.on.nd (by rw [hz.on.N]; exact p1) (by rw [hz.on.N]; exact p2) p6 l1 l2 pa_wp (sw_two hk l1 l2 (by simpa using p5) hl ha hb hf hc) (hs _ _)) ?_
  have e1 : sAsg (eTup fs) (gT (gsCons (gN i) (gsCons (gN j) gsNil))) z.ρ z.S = sLift fs z.ρ z.S fun ds S' => sLift (fun _ => tupD ds) z.ρ S' fun d S2 => match gT (gsCons (gN i) (gsCons (gN j) gsNil)) d z.ρ with
    | some ρ' => .nx ρ' S2
    | none => .bad := by
    unfold sAsg sLift eTup
    have e0 : (fs z.ρ >>= tupD) z.S = M.bind (fs z.ρ) tupD z.S := rfl
    rw [e0]
    unfold M.bind
    cases fs z.ρ z.S <;> rfl
  rw [e1] at hh
  refine h z hz _ (hh.bind fun ds vs S1 A1 H1 s1 o1 h1 => ?_)
  have l := repL_of o1.2
  have e2 : ∃ d1 d2, ds = [d1, d2] := by
    unfold sLift tupD at h1
    by_cases q : ds.length ≤ sz
    · rw [if_pos q] at h1
      match ds, h1 with
      | [], h1 => exact h1.elim
      | [_], h1 => exact h1.elim
      | [d1, d2], _ => exact ⟨d1, d2, rfl⟩
      | _ :: _ :: _ :: _, h1 => exact h1.elim
    · rw [if_neg q] at h1; exact h1.elim
  obtain ⟨d1, d2, rfl⟩ := e2
  have h2 : SPost z c ((Γ.set i false).set j false) (.nx ((z.ρ.set i d1).set j d2) S1) D := by
    unfold sLift tupD at h1
    rw [if_pos (by show 2 ≤ sz; decide)] at h1
    exact h1
  obtain ⟨v, vs', rfl, rv, r2⟩ := l
  obtain ⟨w, vs2, rfl, rw', r3⟩ := r2
  have e3 : vs2 = [] := r3
  subst e3
  refine ⟨v, w, rfl, ?_⟩
  have ok1 := hz.to o1.1
  have t1 := Rel.setVal (i := i) ok1.rel (.inr rv)
  have t2 := Rel.setVal (i := j) (d := d2) (v := w) t1 (.inr (Rep.go (Mt := fun _ => False) ⟨Chg.refl, fun _ z => z.elim, fun b q => .inl (ex_set q), fun _ _ e => e⟩ _ _ rw'))
  refine h2.nx ?_ t2 ?_
  · rw [isSome_set, isSome_set]
    show ((z.own.map Option.isSome).set i false).set j false = _
    rw [hz.own]
  · refine ⟨s1.pre, s1.new, fun b hb => .inl ?_, s1.chg.mono fun _ h => .inl h.2⟩
    have hb' : some b ∈ (z.own.set i none).set j none := hb
    exact sub_set (sub_set hb')
end
end VS
namespace L2
open PySem PySem.Spec PyProof.Rows
theorem entry_contains_iter : entryFor table "proto.contains_iter" = some Builtin.«proto.contains_iter» := PySem.entryFor_of_fast (by kernel_rfl)
theorem plain_contains_iter : plainId "proto.contains_iter" = true := by decide +kernel
theorem values_no_contains : typeLookup (.type "dict_values") "__contains__" = pure none := by rw [typeLookup_type, builtinLookup_eq_fast]; kernel_rfl
section
variable {prog : Program} {w : World} {A : Around} {R : Result → Shared → Prop} {I : Addr} {fp wr : List Addr} {n : Nat} {P : Nat → Value → Prop} {St : Nat → Heap → Prop}
theorem codeAny_contains_loop (W : Walks prog w A.in1 I fp wr n P St) (j : Int) (t : Tok) (is : List Int) (hn : n = is.length) (hP : ∀ i v, P i v → ∃ t, v = Value.int (is.getD i 0) t) :
    ∀ (k i : Nat) (s : Shared), n - i = k → i ≤ n → St i s.heap →
    (∀ h' tk, (∀ b o, b ∉ wr → s.heap.get? b = some o → h'.get? b = some o) → R (.ok (.ret (.bool (decide (j ∈ is.drop i))))) { s with heap := h', toks := tk }) →
    codeAny (model prog w) A (.builtin "proto.contains_iter" ⟨[.ref I, .int j t], []⟩) R s := by
  intro k
  induction k with
  | zero =>
    intro i s hk hi hst hR
    have hin : i = n := by omega
    subst hin
    refine codeAny_builtin entry_contains_iter ?_
    rw [Around.under_plainId plain_contains_iter _]
    show wpAny _ A.in1 (pyNext (.ref I) >>= _) _ _ s
    refine wpAny_bind (W.done s _ _ hst fun h' tk hm => ?_)
    refine wpAny_bind (wpAny_rule ?_)
    have e : decide (j ∈ is.drop i) = false := by rw [hn, List.drop_length]; simp
    have q := hR h' tk hm
    rw [e] at q
    exact wpAny_pure q
  | succ k ih =>
    intro i s hk hi hst hR
    have hlt : i < n := by omega
    refine codeAny_builtin entry_contains_iter ?_
    rw [Around.under_plainId plain_contains_iter _]
    show wpAny _ A.in1 (pyNext (.ref I) >>= _) _ _ s
    refine wpAny_bind (W.item i s _ _ hlt hst fun v h' tk hp hst' hm => ?_)
    obtain ⟨t', rfl⟩ := hP i v hp
    have hd : is.drop i = is.getD i 0 :: is.drop (i + 1) := by
      rw [List.drop_eq_getElem_cons (by omega), List.getD_eq_getElem?_getD, List.getElem?_eq_getElem (by omega)] <;> rfl
    refine wpAny_bind (wpAny_eqBool_int ?_)
    generalize is.getD i 0 = g at hd hp ⊢
    by_cases e : g = j
    · rw [show (g == j) = true by simpa using e]
      rw [if_pos rfl]
      refine wpAny_bind (wpAny_rule ?_)
      have q := hR h' tk hm
      rw [hd, show decide (j ∈ g :: is.drop (i + 1)) = true by simp [e]] at q
      exact wpAny_pure q
    · rw [show (g == j) = false by simpa using e]
      rw [if_neg (by simp)]
      refine wpAny_pure ⟨plainId_quiet plain_contains_iter _, ih (i + 1) _ (by omega) hlt hst' fun h2 tk2 hm2 => ?_⟩
      have q := hR h2 tk2 fun b o hb e => hm2 b o hb (hm b o hb e)
      rw [hd, show decide (j ∈ g :: is.drop (i + 1)) = decide (j ∈ is.drop (i + 1)) by simp [show ¬ j = g from fun z => e z.symm]] at q
      exact q
end
section
variable {X : Cx} {i o : Expr} {pos apos mpos : Pos} {ty td : TE}
def rNotVals : R2 := fun x y H Q => ∃ (j : Int) (a : Addr) (kvs : List (Key × V)) (is : List Int), x = V.int j ∧ y = V.ref a ∧ H a = some (.dK kvs) ∧ kvs.map (·.2) = is.map V.int ∧ Q (.bl (!decide (j ∈ is))) H
theorem pc_notVals (hc : X.calm = true) (hi : PE X i ty) (ho : PE X o td) (hbase : attributeBase o "values" X.env (eval o X.env) = eval o X.env) (hline : (apos.endLine == mpos.line) = true) :
    PC X .NotIn i (.Call (.Attribute o "values" apos) [] [] mpos) (tOp rNotVals ty td) := by
  refine ⟨fun pins s σ H Q I h => ?_⟩
  refine thn (hi.run pins s σ H _ I h) fun iv s0 ⟨y, H0, I0, ry, q0⟩ => ?_
  refine wpAny_Call_method0_late hbase hline (thn (ho.run pins s0 σ H0 _ I0 q0) fun v s1 ⟨x, H1, I1, r1, j, a, kvs, is, ey, ex, ha, hv, q⟩ => ?_)
  subst ex ey
  obtain rfl : v = Value.ref a := r1
  obtain ⟨t, rfl⟩ : ∃ t, iv = Value.int j t := ry
  obtain ⟨_, hsys, vs, rel, dof⟩ := dk_of I1.hok ha
  obtain ⟨ep, dat⟩ := dof.dictAt
  have dat' := dat
  obtain ⟨ob, es, hob, exx, hdat, hko, hpr, hnd⟩ := dat'
  refine ⟨"dict", "dict.values", F.plainAttrs_dict, F.slot_dict_values, F.type_dict_values, ⟨ob, hob, exx.1⟩, fun b e => ?_, Calls.callWith_builtin rfl (PySem.evalArgs_none ?_)⟩
  · cases e
    exact ⟨ob, hob, exx.2.1⟩
  refine call_meetsIn F.slot_dict_values ⟨ob, hob, exx.1⟩ F.entry_dict_values (F.args_dict_values_1 _) (meets_dict_values (mixKind X.prog X.w) a hsys) ⟨⟨vs, dof⟩, ?_⟩
  have k1 : ∀ b u, s1.heap.get? b = some u → (s1.heap.push { cls := .type "dict_values", data := .fields #[.ref a] }).get? b = some u := fun b u e => Heap.get?_push_of_some _ e
  have dat1 : (s1.heap.push { cls := .type "dict_values", data := .fields #[.ref a] }).DictAt (mixKind X.prog X.w) a vs ep := dat.keep k1
  have hlv : vs.length = is.length := by
    have e1 := congrArg List.length hv
    rw [List.length_map, List.length_map] at e1
    rw [← e1]
    exact (KV.length rel).symm
  have hval : ∀ (i : Nat) (v : Value), (∃ k, vs[i]? = some (k, v)) → ∃ t, v = Value.int (is.getD i 0) t := fun i v ⟨k, hk⟩ => by
    obtain ⟨x, h1, h2⟩ := KV.at' rel hk
    have e1 : (kvs.map (·.2))[i]? = some x := by rw [List.getElem?_map, h1] <;> rfl
    rw [hv, List.getElem?_map] at e1
    obtain ⟨j, hj, e2⟩ := Option.map_eq_some_iff.mp e1
    subst e2
    obtain ⟨t, e3⟩ := h2
    refine ⟨t, ?_⟩
    rw [e3, List.getD_eq_getElem?_getD, hj] <;> rfl
  have hlt : a < s1.heap.objs.size := Heap.lt_size hob
  have hsz : (s1.heap.push { cls := .type "dict_values", data := .fields #[.ref a] }).objs.size = s1.heap.objs.size + 1 := Heap.size_push _ _
  have hT : Shared.TypeIs { s1 with heap := s1.heap.push { cls := .type "dict_values", data := .fields #[.ref a] } } (.ref s1.heap.objs.size) "dict_values" := ⟨_, Heap.get?_push_size _ rfl, rfl⟩
  show wpAny _ _ (contains (.ref s1.heap.objs.size) (.int j t) >>= fun r => pure (Value.bool (!r))) _ _ _
  refine wpAny_bind ?_
  unfold contains
  refine wpAny_holding ?_
  rw [stdlibNamesSay?_of_typeIs hT]
  refine wpAny_bind (wpAny_specialOf hT values_no_contains ?_)
  rw [if_neg (by simp)]
  unfold callSpecialUnlessNone?
  refine wpAny_bind (wpAny_bind (wpAny_specialOf hT values_no_contains (wpAny_pure ?_)))
  refine wpAny_bind (wpAny_rule ?_)
  refine wpAny_bind (wpAny_tryCatch (wpAny_pyIter_values (v := s1.heap.objs.size) (d := a) ⟨_, Heap.get?_push_size _ rfl, rfl, rfl⟩ dat1 ?_))
  refine wpAny_bind (wpAny_runValue (codeAny_contains_loop (Walks.dictValues (knd := mixKind X.prog X.w) (A := X.A.in1) (I1.ok.hd hc) (s1.heap.push { cls := .type "dict_values", data := .fields #[.ref a] }).objs.size a (by rw [hsz]; exact Nat.ne_of_lt (Nat.lt_succ_of_lt hlt)) vs ep) j t is hlv hval vs.length 0 _ rfl (Nat.zero_le _)
    ⟨⟨_, Heap.get?_push_size _ rfl, rfl, rfl⟩, dat1.keep fun b u e => Heap.get?_push_of_some _ e⟩ fun h' tk hk => ?_))
  rw [List.drop_zero]
  refine wpAny_pure (wpAny_pure ⟨.bl _, H1, I1.kept (t' := tk) fun b u e => hk b u (fun hmem => ?_) (Heap.get?_push_of_some _ (k1 b u e)), rfl, q⟩)
  have e1 : b = (s1.heap.push { cls := .type "dict_values", data := .fields #[.ref a] }).objs.size := List.mem_singleton.mp hmem
  have e2 := Heap.lt_size e
  rw [hsz] at e1
  rw [e1] at e2
  exact absurd e2 (Nat.not_lt.mpr (Nat.le_succ _))
end
end L2
namespace VS
open PySem PySem.Spec PyProof.Rows L2
variable [Tables]
theorem intsV_rep {H : Hp} {O : Addr → Prop} {A : List Addr} : ∀ {kvs : List (DK × VS.D)} {l : List (Key × V)} {is : List Int}, RepK H O A kvs l → intsV kvs = some is → l.map (·.2) = is.map V.int
  | [], _, _, h, e => by rw [show _ = [] from h]; cases e; rfl
  | (k, d) :: ps, _, is, h, e => by
    obtain ⟨k', v, r, rfl, ⟨_, h1⟩, h2⟩ := h
    cases d with
    | int i =>
      change (intsV ps).map (i :: ·) = some is at e
      obtain ⟨js, e1, e2⟩ := Option.map_eq_some_iff.mp e
      subst e2
      have := intsV_rep h2 e1
      have hv : v = V.int i := h1.2
      simp [this, hv]
    | _ => cases e
section
variable {c : Sta} {Γ : List Bool} {br : Bool} {a o : Expr} {fa fo : DE} {pos apos mpos : Pos}
theorem vop_notVals {z : Sit} (hz : z.Ok c Γ) {d e : VS.D} {v u : V} (h1 : VOk z true d v z.A z.H) (h2 : VOk z true e u z.A z.H) {Q : VK} (h : Post z (okE z false) (dNotVals d e z.S) Q) : rNotVals v u z.H Q := by
  cases d with
  | int j => cases e with
    | dic t kvs => cases t with
      | false =>
        dsimp only [dNotVals] at h
        cases q : intsV kvs with
        | none => rw [q] at h; exact h.elim
        | some is =>
          rw [q] at h
          obtain ⟨b, e1, l, q1, r1⟩ := h2.dic
          exact ⟨j, b, l, is, h1.int, e1, q1, intsV_rep r1 q, h.val hz rfl⟩
      | true => exact h.elim
    | _ => exact h.elim
  | _ => exact h.elim
theorem vt_notVals (ha : VE c Γ true a fa) (hb : VE c Γ true o fo) (hbase : ∀ env, attributeBase o "values" env (eval o env) = eval o env) (hline : (apos.endLine == mpos.line) = true)
    (hm : behindInMarks .NotIn (.Call (.Attribute o "values" apos) [] [] mpos) = false) :
    VT c Γ (.Compare a [.NotIn] [.Call (.Attribute o "values" apos) [] [] mpos] pos) (tBin dNotVals fa fo) := VT.mk <| fun z hz Q h =>
  wpT_of (pt_cmp (pc_notVals hz.on.calm pe_wp pe_wp (hbase _) hline) hm) (two hz ha hb (f := fun x y => dNotVals x y >>= asB) h fun S' A' H' x y v u hz' o1 o2 h' => vop_notVals hz' o1 o2 (asB_post h'))
end
end VS
namespace L2
open PySem PySem.Spec PyProof.Rows
def mergeKT (kvs : List (List Key × V)) (more : List (List Key × Addr × V)) : List (List Key × V) := more.foldl (fun acc kv => putK acc kv.1 kv.2.2) kvs
theorem length_mergeKT : ∀ (more : List (List Key × Addr × V)) (kvs : List (List Key × V)), (mergeKT kvs more).length ≤ kvs.length + more.length
  | [], kvs => by show kvs.length ≤ kvs.length + 0; omega
  | p :: r, kvs => by
    have h1 := length_mergeKT r (putK kvs p.1 p.2.2)
    have h2 := length_putK kvs p.1 p.2.2
    show (mergeKT (putK kvs p.1 p.2.2) r).length ≤ _
    rw [List.length_cons]; omega
section
variable {X : Cx}
def rDictPT (K : PySem.W.Frag) : List V → Hp → VK → Prop := fun xs H Q => ∃ (a : Addr) (ps : List Addr) (kvs : List (List Key × Addr × V)), xs = [.ref a] ∧ SqL K H a (ps.map V.ref) ∧
  Paired (fun p kv => SqT K H p [.ref kv.2.1, kv.2.2] ∧ H kv.2.1 = some (.tup (kv.1.map kV))) ps kvs ∧ ∀ p, H p = none → Q (.ref p) (upd H p (.dT (mergeKT [] kvs)))
abbrev KTA (H : Hp) : List (List Key × Addr × V) → List (List Key × Addr × Value) → Prop := Paired fun p q => p.1 = q.1 ∧ p.2.1 = q.2.1 ∧ H q.2.1 = some (.tup (p.1.map kV)) ∧ RelV p.2.2 q.2.2
theorem pairs_ofT {pins : List (Addr × Obj)} {σ : St} {H : Hp} {s : Shared} (I : Inv X pins σ H s) : ∀ {ps : List Addr} {kvs : List (List Key × Addr × V)}, Paired (fun p kv => SqT X.K H p [.ref kv.2.1, kv.2.2] ∧ H kv.2.1 = some (.tup (kv.1.map kV))) ps kvs →
    ∃ prs : List (List Key × Addr × Value), KTA H kvs prs ∧ prs.length = ps.length ∧ ∀ (j : Nat) (q : List Key × Addr × Value), prs[j]? = some q → ∃ b : Addr, ps[j]? = some b ∧ IsTup s.heap b #[.ref q.2.1, q.2.2]
  | _, _, .nil => ⟨[], .nil, rfl, fun j q e => by simp at e⟩
  | _, _, .cons (a := p) (b := kv) h t => by
    obtain ⟨prs, r, hl, hp⟩ := pairs_ofT I t
    obtain ⟨its, rv, ht, _⟩ := I.tuple h.1
    obtain ⟨u, y, ei, ru, ry⟩ := vals2 rv
    subst ei
    cases (show u = Value.ref kv.2.1 from ru)
    refine ⟨(kv.1, kv.2.1, y) :: prs, .cons ⟨rfl, rfl, h.2, ry⟩ r, by rw [List.length_cons, List.length_cons, hl], fun j q e => ?_⟩
    cases j with
    | zero =>
      have e' : (kv.1, kv.2.1, y) = q := Option.some.inj e
      subst e'
      exact ⟨p, rfl, ht⟩
    | succ j =>
      obtain ⟨b, e1, e2⟩ := hp j q (by simpa using e)
      exact ⟨b, by simpa using e1, e2⟩
theorem kta_merge {H : Hp} : ∀ {more : List (List Key × Addr × V)} {rs : List (List Key × Addr × Value)}, KTA H more rs → ∀ {kvs : List (List Key × V)} {xs : List (List Key × Addr × Value)}, KT H kvs xs → KT H (mergeKT kvs more) (storedAllH xs rs)
  | _, _, .nil, _, _, h => h
  | _, _, .cons (a := p) (b := q) r t, kvs, xs, h => by
    obtain ⟨e1, e2, e3, e4⟩ := r
    show KT H (mergeKT (putK kvs p.1 p.2.2) _) (storedAllH (storedH xs q.1 q.2.1 q.2.2) _)
    refine kta_merge t ?_
    have := h.put p.1 (b := q.2.1) (y := p.2.2) (u := q.2.2) e3 e4
    rw [← e1]
    exact this
theorem kta_key {H : Hp} {P : Program} {w : World} {h : Heap} (ok : HOk P w H h) {more : List (List Key × Addr × V)} {rs : List (List Key × Addr × Value)} (r : KTA H more rs) : ∀ x ∈ rs, H x.2.1 = some (.tup (x.1.map kV)) := by
  induction r with
  | nil => intro x hx; cases hx
  | @cons p q ps qs hq t ih =>
    intro x hx
    rcases List.mem_cons.mp hx with e | hx
    · subst e
      rw [← hq.1]; exact hq.2.2.1
    · exact ih x hx
theorem call_dictPT (hcalm : X.calm = true) (hu : X.A.units + 2 < cLine) : CallR X (.type "dict") (rDictPT X.K) := by
  intro pins s σ H xs us Q I r q
  obtain ⟨a, ps, kvs, ex, hq, hp, q⟩ := q
  subst ex
  obtain ⟨u, eu, rx⟩ := vals1 r
  subst eu
  cases rx
  obtain ⟨its, rv, pl, hz⟩ := I.list hq
  have ei := refs_at rv
  subst ei
  rw [List.length_map] at hz
  obtain ⟨prs, rel, hl, hpr⟩ := pairs_ofT I hp
  obtain ⟨o, n, ho, hc, hd, hdat⟩ := pl
  have keys := kta_key I.hok rel
  refine call_dict_pairsH (knd := tupleKind (mixKind X.prog X.w)) (ps := prs) (PairArg.list (prog := X.prog) (w := X.w) a (ps.map Value.ref).toArray (fun j => ps.getD j 0) (prs.map fun q => (Value.ref q.2.1, q.2.2))) (I.ok.hd hcalm) hu ?_ ⟨by simp, fun i key v e => ?_⟩ (fun h' hk x hx => ?_) (by simp [hl]; exact hz) fun h' tk hd' k => ?_
  · refine ⟨⟨o, n, ho, hc, hd, hdat⟩, by simp [hl], fun j k v e => ?_⟩
    rw [List.getElem?_map] at e
    obtain ⟨q', e1, e2⟩ := Option.map_eq_some_iff.mp e
    obtain ⟨b, e3, e4⟩ := hpr j q' e1
    cases e2
    refine ⟨by simp [e3, List.getD_eq_getElem?_getD], .inl ?_⟩
    show s.heap.IsTuple (ps.getD j 0) _
    rw [List.getD_eq_getElem?_getD, e3]
    exact e4
  · have e : (prs.map fun q => (Value.ref q.2.1, q.2.2))[i]? = some (key, v) := e
    rw [List.getElem?_map] at e
    obtain ⟨q', e1, e2⟩ := Option.map_eq_some_iff.mp e
    cases e2
    exact ⟨q'.1, q'.2.1, e1, rfl⟩
  · obtain ⟨o1, it1, n1, g1, g2, g3, g4⟩ := key_of I.hok (keys x hx)
    exact ⟨o1, it1, n1, hk _ _ (Nat.ne_of_lt (Heap.lt_size g1)) (by simp) g1, g2, g3, g4⟩
  · have hm : (s.heap.objs.size == sysModules) = false := beq_eq_false_iff_ne.mpr (Nat.ne_of_gt I.big)
    have hlen : (mergeKT [] kvs).length ≤ sizeLine := by
      refine Nat.le_trans (length_mergeKT kvs []) ?_
      rw [List.length_nil, Nat.zero_add, Paired.length rel, hl]
      exact hz
    obtain ⟨q', es, ep, hq', h2, h3, h4, _, h5⟩ := hd'
    have hn : H s.heap.objs.size = none := I.hok.fresh (Nat.le_refl _)
    refine ⟨.ref s.heap.objs.size, upd H s.heap.objs.size (.dT (mergeKT [] kvs)), I.laid (t' := tk) (fun b o e => k b o (by simp) e) (Nat.le_refl _) ⟨hlen, hm, _, (kta_merge rel .nil).keeps fun c ys ec => ?_, q', es, ep, hq', h2, h3, h4, h5⟩, rfl, q _ hn⟩
    rw [upd_ne (ne_of_none ec hn)]
    exact ec
end
end L2
namespace VS
open PySem PySem.Spec PyProof.Rows L2
variable [Tables]
section
variable {c : Sta} {H : Hp} {O : Addr → Prop} {A : List Addr}
abbrev PT3 (H : Hp) (O : Addr → Prop) (A : List Addr) : List (DK × VS.D) → List (List Key × Addr × V) → Prop := Paired fun p kv => p.1 = .inr (kv.1.map k1) ∧ (∀ y ∈ kv.1, keyOk y) ∧ Rep H O A p.2 kv.2.2
theorem pairsT_ok {K : PySem.W.Frag} : ∀ {ds : List VS.D} {vs : List V} {kvs : List (DK × VS.D)}, pairsT ds = some kvs → RepL H O A ds vs →
    ∃ (ps : List Addr) (l : List (List Key × Addr × V)), vs = ps.map V.ref ∧ Paired (fun p kv => SqT K H p [.ref kv.2.1, kv.2.2] ∧ H kv.2.1 = some (.tup (kv.1.map kV))) ps l ∧ PT3 H O A kvs l
  | [], vs, kvs, e, h => by cases e; exact ⟨[], [], h, .nil, .nil⟩
  | d :: ds, vs, kvs, e, h => by
    obtain ⟨v, r, e1, h1, h2⟩ := h
    unfold pairsT at e
    split at e
    · rename_i e3; cases e3
    · rename_i k w r2 e3
      cases e3
      split at e
      · rename_i k' kvs' ek er
        cases e
        obtain ⟨a, us, ev, ha, l⟩ := h1
        obtain ⟨u1, r1, f1, g1, u2, r3, f2, g2, g3⟩ := l
        have f3 : r3 = [] := g3
        subst f3 f2 f1 ev
        obtain ⟨b, bs, eb, hb, lb⟩ := g1
        subst eb
        obtain ⟨ys, y1, y2, y3⟩ := flatKs_ok ek lb
        subst y2
        obtain ⟨ps, l, e4, p1, p2⟩ := pairsT_ok (K := K) er h2
        exact ⟨a :: ps, (ys, b, u2) :: l, by rw [e1, e4]; rfl, .cons ⟨.inl (.of ha), hb⟩ p1, .cons ⟨by rw [y1], y3, g2⟩ p2⟩
      · cases e
    · cases e
theorem pairsT_go {H' : Hp} {O' : Addr → Prop} {Mt : Addr → Prop} (g : Go Mt H H' O O' A A) : ∀ {kvs : List (DK × VS.D)} {l : List (List Key × Addr × V)}, PT3 H O A kvs l → PT3 H' O' A kvs l
  | _, _, .nil => .nil
  | _, _, .cons q r => .cons ⟨q.1, q.2.1, Rep.go g _ _ q.2.2⟩ (pairsT_go g r)
theorem mergeT_rep : ∀ {kvs : List (DK × VS.D)} {l : List (List Key × Addr × V)}, PT3 H O A kvs l → ∀ {acc : List (DK × VS.D)} {la : List (List Key × V)}, RepT H O A acc la →
    RepT H O A (kvs.foldl (fun acc p => putD acc p.1 p.2) acc) (mergeKT la l)
  | _, _, .nil, _, _, h => h
  | _, _, .cons (a := p) (b := kv) q r, acc, la, h => by
    show RepT H O A (List.foldl _ (putD acc p.1 p.2) _) (mergeKT (putK la kv.1 kv.2.2) _)
    refine mergeT_rep r ?_
    rw [q.1]
    exact repT_put q.2.1 q.2.2 h
theorem vc_dictPT : VCallF c (.type "dict") (f1 fDictT) := vcallF1 fun Γ z hz d v o Q p => by
  cases d with
  | lst ds =>
    obtain ⟨a, vs, e, h, l⟩ := o.lst
    rw [e]
    dsimp only [fDictT] at p
    cases q : pairsT ds with
    | none => rw [q] at p; exact p.elim
    | some kvs =>
      rw [q] at p
      obtain ⟨ps, lk, e2, p1, p2⟩ := pairsT_ok (K := z.X.K) q l
      subst e2
      refine wpCall_of (call_dictPT hz.on.calm (by have := units65 hz.on.room; omega)) ⟨a, ps, lk, rfl, .inl (.of h), p1, fun t ht => Post.newDT hz ht p ?_⟩
      have nf : ¬ Ex z.act.O0 z.A z.own t := hz.free (S' := z.S) ht Step.refl (hz.nA ht)
      have g : Go (fun _ => False) z.H (upd z.H t (.dT (mergeKT [] lk))) (Ex z.act.O0 z.A z.own) (Ex (z.act.plus t).O0 z.A z.own) z.A z.A :=
        ⟨chg_new ht, fun _ q => q.elim, fun b hb => by
          rcases hb with (hb | hb) | hb
          · exact .inl (.inl hb)
          · exact .inr (by rw [hb]; exact ht)
          · exact .inl (.inr hb), fun _ _ e => e⟩
      refine mergeT_rep ?_ (acc := []) (la := []) rfl
      exact pairsT_go g p2
  | _ => exact p.elim
end
end VS
namespace VS
open PySem PySem.Spec PyProof.Rows L2
variable [Tables]
theorem repT_get {H : Hp} {O : Addr → Prop} {A : List Addr} : ∀ {kvs : List (DK × VS.D)} {l : List (List Key × V)} {i : Nat} {p : DK × VS.D}, RepT H O A kvs l → kvs[i]? = some p → ∃ k v, l[i]? = some (k, v) ∧ p.1 = .inr (k.map k1) ∧ ∀ y ∈ k, keyOk y
  | [], _, _, _, _, e => by cases e
  | q :: kvs, l, i, p, h, e => by
    obtain ⟨k, v, r, rfl, h1, h2⟩ := h
    cases i with
    | zero =>
      cases e
      obtain ⟨dk, d⟩ := q
      exact ⟨k, v, rfl, h1.2.1, h1.1⟩
    | succ i =>
      obtain ⟨k', v', e1, e2, e3⟩ := repT_get (i := i) (p := p) h2 (by simpa using e)
      exact ⟨k', v', by simpa using e1, e2, e3⟩
theorem walk_fdtV {Mt : Addr → Prop} {H : Hp} {O : Addr → Prop} {A : List Addr} {a : Addr} {ob : Obj} {l : List (List Key × V)} {kvs : List (DK × VS.D)} (r : H a = some (.frz ob (.dT l))) (q : RepT H O A kvs l) : WalkV Mt H O A (Itkt a ob l) (kvs.map fun p => ofK p.1) := by
  have n : ∀ H', Chg Mt H H' → H' a = some (.frz ob (.dT l)) := fun H' q => q.imm a _ r fun z => z
  have w := walk_keysT (d := a) (o := ob) (kvs := l)
  have ll : l.length = (kvs.map fun p => ofK p.1).length := by rw [List.length_map, repT_len q]
  refine ⟨fun i H' hi q => w.goes i H' (by rw [ll]; exact hi) (n H' q), fun H' q => by rw [← ll]; exact w.stops H' (n H' q), fun i d H' x H'' hi q' y => ?_⟩
  obtain ⟨e1, k, v, b, e2, e3, e4⟩ := w.yields i H' x H'' (by rw [ll]; exact (List.getElem?_eq_some_iff.mp hi).1) (n H' q') y
  subst e1
  refine ⟨Chg.refl, fun O' A' g => ?_⟩
  rw [List.getElem?_map] at hi
  obtain ⟨p, hp, ep⟩ := Option.map_eq_some_iff.mp hi
  obtain ⟨k', v', f1, f2, f3⟩ := repT_get q hp
  rw [e2] at f1
  cases f1
  rw [← ep, f2, e3]
  exact ⟨b, _, rfl, e4, rep_ks f3⟩
section
variable {c : Sta} {Γ : List Bool} {e tg : Expr} {fe : DE} {br : Bool}
theorem vi_keyT (he : VE c Γ br e fe) : VI c Γ br tg e (iKeyT fe) := by
  constructor
  intro z hz R h
  intro pins s I
  have post : Post z (okE z br) (fe z.ρ z.S) (fun v H' => ∀ pins s1 u, Inv z.X pins z.σ H' s1 → RelV v u → wpAny (model z.X.prog z.X.w) z.X.A (pyIter u) (PIE z.X pins z.σ tg R) z.X.xe s1) := by
    cases q : fe z.ρ z.S with
    | ok d S' =>
      have e0 : iKeyT fe z.ρ z.S = dKeysT d S' := by show M.bind (fe z.ρ) dKeysT z.S = _; unfold M.bind; rw [q]
      rw [e0] at h
      have h0 : IPost z br (dKeysT d S') R := h
      intro v H' A' st o pins s1 u I1 r1
      cases d with
      | fdt kvs =>
        have h3 : ∀ J A' H', Step z.ep z.A z.H A' H' → z.R S' A' H' → WalkV (fun b => (b ∈ A' ∧ (br = false ∨ z.ep = false)) ∨ (br = false ∧ some b ∈ z.own)) H' (Ex z.act.O0 A' z.own) A' J (kvs.map fun p => ofK p.1) → R J H' := h0
        obtain ⟨a, ob, l, e, r, q⟩ := o.2.fdt
        subst e
        obtain rfl : u = Value.ref a := r1
        obtain ⟨hs, hgd, hx, es, ep, hdt, hsz, ent⟩ := I1.frzT r
        refine iter_keys hs hgd hx hdt (pi_one (tk := s1.toks) I1 _ (turn_keysT _ hdt) ⟨_, Heap.get?_push_size _ rfl, rfl, ?_⟩ (h3 _ A' H' st o.1 (walk_fdtV r q)))
        rw [hsz] <;> rfl
      | _ => exact h0.elim
    | exc x S' =>
      have e0 : iKeyT fe z.ρ z.S = .exc x S' := by show M.bind (fe z.ρ) dKeysT z.S = _; unfold M.bind; rw [q]
      rw [e0] at h; exact h
    | bad =>
      have e0 : iKeyT fe z.ρ z.S = .bad := by show M.bind (fe z.ρ) dKeysT z.S = _; unfold M.bind; rw [q]
      rw [e0] at h; exact h.elim
  exact thn (he z hz _ post pins s I) fun u s1 ⟨v, H', I1, r1, q⟩ => q pins s1 u I1 r1
end
section
variable {c : Sta} {Γ Γ₁ : List Bool} {z : Sit} {st : Stmt} {f : List VS.D → Store → Out}
theorem lock_relT (hz : z.Ok c Γ) {i : Nat} {kvs : List (DK × VS.D)} {p : Addr} {l : List (List Key × V)} (er : z.ρ[i]? = some (.dic true kvs)) (eo : z.own[i]? = some (some p)) (hp : z.H p = some (.dT l)) (rk : RepT z.H z.O z.A kvs l) (es : z.σ[i]? = some (some (.ref p))) (od : Obj) :
    Rel z.act (z.own.set i none) (z.ρ.set i (.fdt kvs)) z.S z.A z.σ (upd z.H p (.frz od (.dT l))) := by
  have r := hz.rel
  have mem : some p ∈ z.own := List.mem_of_getElem? eo
  have cg : Chg (fun b => b = p) z.H (upd z.H p (.frz od (.dT l))) := chg_upd rfl (by rw [hp]; exact trivial)
  have g : Go (fun b => b = p) z.H (upd z.H p (.frz od (.dT l))) z.O (Ex z.act.O0 z.A (z.own.set i none)) z.A z.A := ⟨cg, fun b e => by rw [e]; exact .inr (.inr mem), fun b q => .inl (ex_set q), fun _ _ e => e⟩
  have ne : ∀ {j : Nat} {a : Addr}, (z.own.set i none)[j]? = some (some a) → i ≠ j ∧ z.own[j]? = some (some a) ∧ a ≠ p := fun {j a} h => by
    have hij : i ≠ j := fun q => by
      subst q
      have l2 := (List.getElem?_eq_some_iff.mp h).1
      rw [List.length_set] at l2
      rw [List.getElem?_set_self l2] at h
      cases h
    rw [List.getElem?_set_ne hij] at h
    exact ⟨hij, h, fun q => hij (r.inj i j a (by rw [q]; exact eo) h)⟩
  have nm : ∀ {a : Addr}, some a ∈ z.own.set i none → some a ∈ z.own := fun h => (mem_set_own h).elim (fun e => by cases e) id
  refine ⟨by simp [r.len1], by simp [r.len2], fun j d o v h1 h2 h3 => ?_, fun j k a h1 h2 => r.inj j k a (ne h1).2.1 (ne h2).2.1, r.lenA, fun n d a h1 h2 => ?_, r.nodA, fun a ha => r.apart a (nm ha), fun a ha => r.apart0 a (nm ha), r.pre, r.newA, fun a ha => r.newO a (nm ha), fun b hb => cg.dom b (r.trk b (ex_set hb)), r.chg.trans cg fun x e => ?_⟩
  · by_cases hij : i = j
    · subst hij
      have l1 := (List.getElem?_eq_some_iff.mp er).1
      have l2 := (List.getElem?_eq_some_iff.mp eo).1
      rw [List.getElem?_set_self l1] at h1
      rw [List.getElem?_set_self l2] at h2
      rw [es] at h3
      cases h1; cases h2; cases h3
      exact .inr ⟨_, rfl, p, od, l, rfl, upd_same, RepT.go g kvs l rk⟩
    · rw [List.getElem?_set_ne hij] at h1
      cases o with
      | none =>
        rw [List.getElem?_set_ne hij] at h2
        exact (r.slot j d none v h1 h2 h3).imp id fun ⟨x, e, q⟩ => ⟨x, e, Rep.go g _ _ q⟩
      | some a =>
        obtain ⟨_, h2, n⟩ := ne h2
        have q := r.slot j d (some a) v h1 h2 h3
        exact ⟨q.1, OwnOk.go g n q.2⟩
  · exact (r.cell n d a h1 h2).imp id fun q => OwnOk.go g (fun e => r.apart p mem (by rw [← e]; exact List.mem_of_getElem? h2)) q
  · exact .inr (by rw [e]; exact r.newO p mem)
theorem vs_frzT (i : Nat) (hg : Γ[i]? = some true) (h1 : VSt c (Γ.set i false) Γ₁ st f) : VSt c Γ Γ₁ st (sFrzT i f) := by
  constructor
  intro z hz D h
  unfold sFrzT at h
  split at h
  · rename_i kvs er
    obtain ⟨o, eo, io⟩ := own_get hz hg
    cases o with
    | none => cases io
    | some p =>
    have l1 := hz.rel.len1
    have hi := (List.getElem?_eq_some_iff.mp er).1
    have es : z.σ[i]? = some z.σ[i] := List.getElem?_eq_getElem (by omega)
    obtain ⟨ev, l, hp, rk⟩ := hz.rel.slot i _ _ _ er eo es
    have es2 : z.σ[i]? = some (some (.ref p)) := by rw [es, ev]
    have mem : some p ∈ z.own := List.mem_of_getElem? eo
    intro pins s I
    obtain ⟨od, I1⟩ := I.lock (d := p) (u := .dT l) hp trivial
    have cg : Chg (fun b => b ∈ z.A ∨ some b ∈ z.own) z.H (upd z.H p (.frz od (.dT l))) := chg_upd (.inr mem) (by rw [hp]; exact trivial)
    have sub : ∀ a, some a ∈ z.own.set i none → some a ∈ z.own := fun a ha => (mem_set_own ha).elim (fun e => by cases e) id
    have none_of : ∀ b, upd z.H p (.frz od (.dT l)) b = none → z.H b = none := fun b e => by
      by_cases q : b = p
      · rw [q, upd_same] at e; cases e
      · rw [upd_ne q] at e; exact e
    have mv : ∀ {A' : List Addr} {own' : Own} {H' : Hp}, Move z.A (z.own.set i none) (upd z.H p (.frz od (.dT l))) A' own' H' → Move z.A z.own z.H A' own' H' := fun {A' own' H'} m =>
      ⟨m.pre, fun a ha => (m.newA a ha).imp id (none_of a), fun a ha => (m.newO a ha).imp (sub a) (none_of a), cg.trans (m.chg.mono fun b hb => hb.imp id (sub b)) fun x hx => .inl hx⟩
    refine h1 { z with own := z.own.set i none, ρ := z.ρ.set i (.fdt kvs), H := upd z.H p (.frz od (.dT l)) } ⟨hz.g, hz.on, hz.tk, by rw [isSome_set, hz.own], hz.pu, lock_relT hz er eo hp rk es2 od⟩ D ?_ pins s I1
    dsimp only
    cases q : f (z.ρ.set i (.fdt kvs)) z.S with
    | nx ρ' S' =>
      rw [q] at h
      intro own' A' σ' H' eo r m
      exact h own' A' σ' H' eo r (mv m)
    | ret d S' => rw [q] at h; exact h
    | exc x ρ' S' =>
      rw [q] at h
      intro cls oe A' σ' H' r m o
      exact h cls oe A' σ' H' r (mv m) o
    | bad => rw [q] at h; exact h.elim
  · exact h.elim
end
end VS
namespace L2
open PySem PySem.Spec PyProof.Rows
theorem args_sum2 (a b : Value) : argsOk "sum" ⟨[a, b], []⟩ := by unfold argsOk; kernel_rfl
theorem sub_list_strS : isSubtype (.type "list") (.type "str") = pure false := by rw [isSubtype_type]; kernel_rfl
theorem sub_list_bytesS : isSubtype (.type "list") (.type "bytes") = pure false := by rw [isSubtype_type]; kernel_rfl
theorem sub_list_bytearrayS : isSubtype (.type "list") (.type "bytearray") = pure false := by rw [isSubtype_type]; kernel_rfl
def joinI (its : Nat → List Value) : Nat → List Value
  | 0 => []
  | i + 1 => joinI its i ++ its i
theorem joinI_mono (its : Nat → List Value) : ∀ {n i : Nat}, i ≤ n → (joinI its i).length ≤ (joinI its n).length
  | 0, i, h => by rw [Nat.le_zero.mp h]; exact Nat.le_refl _
  | n + 1, i, h => by
    rcases Nat.eq_or_lt_of_le h with e | e
    · rw [e]; exact Nat.le_refl _
    · have := joinI_mono its (n := n) (i := i) (by omega)
      show _ ≤ (joinI its n ++ its n).length
      rw [List.length_append]
      omega
section
variable {prog : Program} {w : World} {A : Around} {R : Result → Shared → Prop} {I : Addr} {fp wr : List Addr} {n : Nat} {P : Nat → Value → Prop} {St : Nat → Heap → Prop}
theorem codeAny_sum_lists (W : Walks prog w A.in1 I fp wr n P St) (S : Addr) (hSf : S ∉ fp) (h0 : Heap) (hSz : h0.objs.size ≤ S) (hwr : ∀ b ∈ wr, h0.objs.size ≤ b) (hfp : ∀ b ∈ fp, b < S) (its : Nat → List Value)
    (hP : ∀ i v, P i v → ∃ b m, v = Value.ref b ∧ h0.get? b = some { cls := .type "list", data := .seq (its i).toArray m }) (hz : (joinI its n).length ≤ sizeLine) :
    ∀ (k i : Nat) (s : Shared) (T c m : Nat), n - i = k → i ≤ n → St i s.heap → (∀ b o, h0.get? b = some o → s.heap.get? b = some o) → S < s.heap.objs.size →
    s.heap.get? S = some { cls := .type "list", dict := none, data := .seq #[.ref T] c, slots := #[] } → T ≠ S → T ∉ wr → s.heap.get? T = some { cls := .type "list", data := .seq (joinI its i).toArray m } → (0 < i → h0.objs.size ≤ T) → 
    (∀ h' tk T' m', (∀ b o, h0.get? b = some o → h'.get? b = some o) → h'.get? T' = some { cls := .type "list", data := .seq (joinI its n).toArray m' } → (0 < n → h0.objs.size ≤ T') → R (.ok (.ret (.ref T'))) { s with heap := h', toks := tk }) →
    codeAny (model prog w) A (.builtin "sum.loop" ⟨[.ref I, .ref S, rawInt 2, rawInt 0], []⟩) R s := by
  have hSw : S ∉ wr := fun h => hSf (W.sub _ h)
  intro k
  induction k with
  | zero =>
    intro i s T c m hk hi hst hold hSl hS hTS hTw hT hTi hR
    have hin : i = n := by omega
    subst hin
    refine codeAny_builtin F.entry_sum_loop ?_
    rw [Around.under_plainId F.plain_sum_loop _]
    show wpAny _ A.in1 (seqItems? (.ref S) >>= _) _ _ s
    refine wpAny_bind (wpAny_seqItems hS rfl ?_)
    show wpAny _ A.in1 (tryCatch (pyNext (.ref I)) _ >>= _) _ _ s
    refine wpAny_bind (wpAny_tryCatch (W.done s _ _ hst fun h' tk hm => ?_))
    refine wpAny_pure (hR h' tk T m (fun b o e => hm b o (fun hb => ?_) (hold b o e)) (hm T _ hTw hT) hTi)
    exact Nat.lt_irrefl _ (Nat.lt_of_lt_of_le (Heap.lt_size e) (hwr b hb))
  | succ k ih =>
    intro i s T c m hk hi hst hold hSl hS hTS hTw hT hTi hR
    have hlt : i < n := by omega
    refine codeAny_builtin F.entry_sum_loop ?_
    rw [Around.under_plainId F.plain_sum_loop _]
    show wpAny _ A.in1 (seqItems? (.ref S) >>= _) _ _ s
    refine wpAny_bind (wpAny_seqItems hS rfl ?_)
    show wpAny _ A.in1 (tryCatch (pyNext (.ref I)) _ >>= _) _ _ s
    refine wpAny_bind (wpAny_tryCatch (W.item i s _ _ hlt hst fun v h' tk hp hst' hm => ?_))
    obtain ⟨b, mb, rfl, hb⟩ := hP i v hp
    have hold' : ∀ b o, h0.get? b = some o → h'.get? b = some o := fun b o e => hm b o (fun hb => Nat.lt_irrefl _ (Nat.lt_of_lt_of_le (Heap.lt_size e) (hwr b hb))) (hold b o e)
    have hS' := hm S _ hSw hS
    have hT' := hm T _ hTw hT
    have hb' := hold' b _ hb
    have hjs : joinI its (i + 1) = joinI its i ++ its i := rfl
    have hjl := joinI_mono its (n := n) (i := i + 1) hlt
    rw [hjs, List.length_append] at hjl
    have hSlt : S < h'.objs.size := Heap.lt_size hS'
    show wpAny _ A.in1 ((holding [Value.ref b] (binaryOp .Add (.ref T) (.ref b))).attempt >>= _) _ _ _
    refine wpAny_bind (wpAny_attempt (wpAny_holding (PySem.P.add_list (s := { s with heap := h', toks := tk }) hT' hb' ?_ (by simp; omega))))
    have e0 : (joinI its i).toArray ++ (its i).toArray = (joinI its (i + 1)).toArray := by rw [hjs]; simp
    rw [e0]
    have hS1 : (h'.push { cls := .type "list", data := .seq (joinI its (i + 1)).toArray }).get? S = some { cls := .type "list", dict := none, data := .seq #[.ref T] c, slots := #[] } := Heap.get?_push_of_some _ hS'
    show wpAny _ A.in1 (updateSeq S (fun _ => #[.ref h'.objs.size]) >>= _) _ _ _
    refine wpAny_bind (wpAny_updateSeq hS1 rfl ?_)
    have hS2 := Heap.get?_update_self (Obj.mapSeq fun _ => #[Value.ref h'.objs.size]) hS1 rfl
    refine wpAny_bind (wpAny_letGo ?_)
    have hne : S ≠ h'.objs.size := Nat.ne_of_lt hSlt
    have other : ∀ b o, b ≠ S → (h'.push { cls := .type "list", data := .seq (joinI its (i + 1)).toArray }).get? b = some o → (((h'.push { cls := .type "list", data := .seq (joinI its (i + 1)).toArray }).update S (Obj.mapSeq fun _ => #[Value.ref h'.objs.size])).update S (Obj.mapSeq fun _ => #[Value.ref h'.objs.size])).get? b = some o := fun b o nb e =>
      (Heap.get?_update_other _ _ (Ne.symm nb)).trans ((Heap.get?_update_other _ _ (Ne.symm nb)).trans e)
    refine wpAny_bind (wpAny_updateSeq hS2 rfl (wpAny_pure ⟨plainId_quiet F.plain_sum_loop _, ih (i + 1) _ h'.objs.size _ 0 (by omega) hlt (W.frame _ _ _ hst' fun b hb o e => other b o (fun z => hSf (by rw [← z]; exact hb)) (Heap.get?_push_of_some _ e)) (fun b o e => other b o (fun z => ?_) (Heap.get?_push_of_some _ (hold' b o e))) ?_ (Heap.get?_update_self _ hS2 rfl) (Ne.symm hne) (fun hw => ?_) (other _ _ (Ne.symm hne) (Heap.get?_push_size _ rfl)) (fun _ => Nat.le_trans hSz (Nat.le_of_lt hSlt)) fun h2 tk2 T2 m2 a1 a2 a3 => hR h2 tk2 T2 m2 a1 a2 a3⟩))
    · exact Nat.lt_irrefl _ (Nat.lt_of_lt_of_le (Heap.lt_size e) (by rw [z]; exact hSz))
    · exact Heap.lt_size (Heap.get?_update_self _ hS2 rfl)
    · exact Nat.lt_asymm hSlt (hfp _ (W.sub _ hw))
theorem call_sum_lists {E : Value → Shared → Prop} {s : Shared} {x : Value} {T m : Nat} {Q : Value → Shared → Prop} (hT : s.heap.get? T = some { cls := .type "list", data := .seq #[] m })
    (h : wpAny (model prog w) A.in1 (pyIter x) (fun it s₂ => ∃ I fp wr n P St its, it = .ref I ∧ Walks prog w A.in1 I fp wr n P St ∧ St 0 s₂.heap ∧ (∀ b ∈ fp, b < s₂.heap.objs.size) ∧ (∀ b ∈ wr, s.heap.objs.size ≤ b) ∧ (∀ b o, s.heap.get? b = some o → s₂.heap.get? b = some o) ∧ s.heap.objs.size ≤ s₂.heap.objs.size ∧
      (∀ i v, P i v → ∃ b m, v = Value.ref b ∧ s.heap.get? b = some { cls := .type "list", data := .seq (its i).toArray m }) ∧ (joinI its n).length ≤ sizeLine ∧ 0 < n ∧
      ∀ h' tk T' m', (∀ b o, s.heap.get? b = some o → h'.get? b = some o) → h'.get? T' = some { cls := .type "list", data := .seq (joinI its n).toArray m' } → s.heap.objs.size ≤ T' → Q (.ref T') { s₂ with heap := h', toks := tk }) E s) :
    wpAny (model prog w) A (call (.builtin "sum") [x, .ref T]) Q E s := by
  refine call_function_tree F.kind_sum F.plain_sum F.entry_sum (args_sum2 _ _) ?_
  unfold Builtin.«sum»
  simp only [List.length_cons, List.length_nil]
  rw [if_neg (by decide)]
  refine wpAny_bind (wpAny_of_eq (show Builtin.Builtins.bindParams "sum" ["start"] 0 ⟨[.ref T], []⟩ = pure [some (.ref T)] from rfl) ?_)
  refine wpAny_bind (wpAny_mono h (fun it s₂ h₂ => ?_) fun _ _ e => e)
  obtain ⟨I, fp, wr, n, P, St, its, rfl, W, hst, hfp, hwr, hold, hle, hP, hz, hn, hQ⟩ := h₂
  have hT2 := hold T _ hT
  have tT : s₂.TypeIs (.ref T) "list" := ⟨_, hT2, rfl⟩
  refine wpAny_bind (wpAny_pure ?_)
  simp only [List.forIn_cons, List.forIn_nil]
  refine wpAny_bind (wpAny_bind (wpAny_bind (wpAny_isInstance (T := "list") (b := false) tT sub_list_strS ?_)))
  simp only [Bool.false_eq_true, if_false]
  refine wpAny_pure (wpAny_bind (wpAny_bind (wpAny_isInstance (T := "list") (b := false) tT sub_list_bytesS ?_)))
  simp only [Bool.false_eq_true, if_false]
  refine wpAny_pure (wpAny_bind (wpAny_bind (wpAny_isInstance (T := "list") (b := false) tT sub_list_bytearrayS ?_)))
  simp only [Bool.false_eq_true, if_false]
  refine wpAny_pure (wpAny_pure ?_)
  refine wpAny_bind (wpAny_newObj_type ?_)
  have hSf : s₂.heap.objs.size ∉ fp := fun hm => Nat.lt_irrefl _ (hfp _ hm)
  refine wpAny_pure ⟨plainId_quiet F.plain_sum_loop _, codeAny_sum_lists W s₂.heap.objs.size hSf s.heap hle hwr hfp its hP hz n 0 _ T 0 m rfl (Nat.zero_le _)
    (W.frame 0 _ _ hst fun b _ o e => Heap.get?_push_of_some _ e) (fun b o e => Heap.get?_push_of_some _ (hold b o e)) ?_ (Heap.get?_push_size _ rfl) ?_ (fun hw => ?_) (Heap.get?_push_of_some _ hT2) (fun q => absurd q (Nat.lt_irrefl _)) fun h' tk T' m' a1 a2 a3 => hQ h' tk T' m' a1 a2 (a3 hn)⟩
  · rw [Heap.size_push]; exact Nat.lt_succ_self _
  · exact Nat.ne_of_lt (Heap.lt_size hT2)
  · exact Nat.lt_irrefl _ (Nat.lt_of_lt_of_le (Heap.lt_size hT) (hwr _ hw))
end
section
variable {X : Cx}
theorem joinI_flat (ts : List (List Value)) : ∀ n, n ≤ ts.length → joinI (fun j => ts.getD j []) n = (ts.take n).flatten
  | 0, _ => by simp [joinI]
  | n + 1, h => by
    show joinI (fun j => ts.getD j []) n ++ ts.getD n [] = _
    rw [joinI_flat ts n (by omega), List.take_add_one, List.flatten_append, List.getElem?_eq_getElem (by omega), List.getD_eq_getElem?_getD, List.getElem?_eq_getElem (by omega)]
    simp
theorem inner_vals {pins : List (Addr × Obj)} {σ : St} {H : Hp} {s : Shared} (I : Inv X pins σ H s) : ∀ {ps : List Addr} {ls : List (List V)}, Paired (fun p l => H p = some (.lst l)) ps ls →
    ∃ ts : List (List Value), ts.length = ps.length ∧ Vals ls.flatten ts.flatten ∧ ∀ (j : Nat) (p : Addr), ps[j]? = some p → ∃ m, s.heap.get? p = some { cls := .type "list", data := .seq (ts.getD j []).toArray m }
  | _, _, .nil => ⟨[], rfl, .nil, fun j p e => by simp at e⟩
  | _, _, .cons (a := p) (b := l) h t => by
    obtain ⟨ts, h1, h2, h3⟩ := inner_vals I t
    obtain ⟨z, its, n, r, hl, e⟩ := I.lstM h
    refine ⟨its :: ts, by rw [List.length_cons, List.length_cons, h1], ?_, fun j q ej => ?_⟩
    · rw [List.flatten_cons, List.flatten_cons]
      exact r.append h2
    · cases j with
      | zero =>
        have ej : p = q := Option.some.inj ej
        subst ej
        exact ⟨n, e⟩
      | succ j =>
        obtain ⟨m, hm⟩ := h3 j q (by simpa using ej)
        exact ⟨m, by simpa using hm⟩
def rSumL : List V → Hp → VK → Prop := fun xs H Q => ∃ (a b : Addr) (ps : List Addr) (ls : List (List V)), xs = [.ref a, .ref b] ∧ H a = some (.lst (ps.map V.ref)) ∧ Paired (fun p l => H p = some (.lst l)) ps ls ∧ H b = some (.lst []) ∧ ps ≠ [] ∧ ls.flatten.length ≤ sizeLine ∧
  ∀ p, H p = none → Q (.ref p) (upd H p (.lst ls.flatten))
theorem cr_sumL (hc : X.calm = true) : CallR X (.builtin "sum") rSumL := by
  intro pins s σ H xs us Q I r h
  obtain ⟨a, b, ps, ls, rfl, ha, hp, hb, hne, hz, q⟩ := h
  obtain ⟨u1, u2, rfl, r1, r2⟩ := vals2 r
  cases r1
  cases r2
  obtain ⟨z1, ia, na, ra, hla, ea⟩ := I.lstM ha
  have e1 := refs_at ra
  subst e1
  obtain ⟨z2, ib, nb, rb, hlb, eb⟩ := I.lstM hb
  cases rb
  obtain ⟨ts, t1, t2, t3⟩ := inner_vals I hp
  have hlt : a < s.heap.objs.size := Heap.lt_size ea
  have hlen : joinI (fun j => ts.getD j []) ps.length = ts.flatten := by
    rw [joinI_flat ts ps.length (by omega), List.take_of_length_le (by omega)]
  refine call_sum_lists (m := nb) eb (wpAny_pyIter_list (PySem.IsL.isList ea) ?_)
  have hsz : (s.heap.push { cls := .type "list_iterator", data := .fields #[.ref a, .int 0 0] }).objs.size = s.heap.objs.size + 1 := Heap.size_push _ _
  refine ⟨_, _, _, _, _, _, fun j => ts.getD j [], rfl, Walks.list (A := X.A.in1) (I.ok.hd hc) s.heap.objs.size a (Nat.ne_of_lt hlt) (ps.map Value.ref).toArray, ⟨⟨_, Heap.get?_push_size _ rfl, rfl, rfl⟩, (PySem.IsL.isList ea).at fun o e => Heap.get?_push_of_some _ e⟩, fun c hc => ?_, fun c hc => ?_, fun c o e => Heap.get?_push_of_some _ e, ?_, fun j v e => ?_, ?_, ?_, fun h' tk T' m' k hT hle => ?_⟩
  · show c < (s.heap.push _).objs.size
    rw [Heap.size_push]
    rcases List.mem_cons.mp hc with e | e
    · rw [e]; exact Nat.lt_succ_self _
    · rw [List.mem_singleton.mp e]; exact Nat.lt_succ_of_lt hlt
  · rw [List.mem_singleton.mp hc]
    exact Nat.le_refl _
  · show s.heap.objs.size ≤ (s.heap.push _).objs.size
    rw [Heap.size_push]
    exact Nat.le_succ _
  · have e : (ps.map Value.ref)[j]? = some v := by simpa using e
    rw [List.getElem?_map] at e
    obtain ⟨p, hp, rfl⟩ := Option.map_eq_some_iff.mp e
    obtain ⟨m, hm⟩ := t3 j p hp
    exact ⟨p, m, rfl, hm⟩
  · show (joinI (fun j => ts.getD j []) (ps.map Value.ref).toArray.size).length ≤ sizeLine
    rw [List.size_toArray, List.length_map, hlen, ← t2.length]
    exact hz
  · show 0 < (ps.map Value.ref).toArray.size
    rw [List.size_toArray, List.length_map]
    exact List.length_pos_iff.mpr hne
  · have hT : h'.get? T' = some { cls := .type "list", data := .seq (joinI (fun j => ts.getD j []) (ps.map Value.ref).toArray.size).toArray m' } := hT
    rw [List.size_toArray, List.length_map, hlen] at hT
    exact ⟨.ref T', upd H T' (.lst ls.flatten), I.laid (o := .lst ls.flatten) (t' := tk) k hle ⟨hz, ts.flatten, m', t2, hT⟩, rfl, q _ (I.hok.fresh hle)⟩
end
end L2
namespace VS
open PySem PySem.Spec PyProof.Rows L2
variable [Tables]
section
variable {c : Sta} {Γ : List Bool} {e e2 : Expr} {fs : DA}
theorem lsts_ok {H : Hp} {O : Addr → Prop} {A : List Addr} : ∀ {ds : List VS.D} {vs : List V} {xs : List (List VS.D)}, lstsD ds = some xs → RepL H O A ds vs →
    ∃ (ps : List Addr) (ls : List (List V)), vs = ps.map V.ref ∧ Paired (fun p l => H p = some (.lst l)) ps ls ∧ RepL H O A xs.flatten ls.flatten
  | [], vs, xs, e, h => by cases e; exact ⟨[], [], h, .nil, RepL.nil⟩
  | d :: ds, vs, xs, e, h => by
    obtain ⟨v, r, e1, h1, h2⟩ := h
    cases d with
    | lst es =>
      change (lstsD ds).map (es :: ·) = some xs at e
      obtain ⟨ys, f1, f2⟩ := Option.map_eq_some_iff.mp e
      subst f2
      obtain ⟨ps, ls, g1, g2, g3⟩ := lsts_ok f1 h2
      obtain ⟨a, us, ev, ha, _, l⟩ := h1
      subst ev g1
      exact ⟨a :: ps, us :: ls, e1, .cons ha g2, by rw [List.flatten_cons, List.flatten_cons]; exact l.append g3⟩
    | _ => cases e
theorem vc_sumL : VCallF c (.builtin "sum") (f2 fSumL) := by
  intro Γ z hz ds vs l Q p
  cases l with
  | nil => exact p.elim
  | cons h1 t => cases t with
    | nil => exact p.elim
    | cons h2 t => cases t with
      | cons _ _ => exact p.elim
      | nil =>
        rename_i d v e u
        change Post z (okF z) (fSumL d e z.S) Q at p
        cases d with
        | lst as => cases e with
          | lst bs => cases bs with
            | nil =>
              dsimp only [fSumL] at p
              cases q : lstsD as with
              | none => rw [q] at p; exact p.elim
              | some xs =>
                rw [q] at p
                dsimp only at p
                split at p
                · rename_i hc
                  obtain ⟨a, ws, e1, r1, l1⟩ := h1.lst
                  obtain ⟨b, us, e2, r2, l2⟩ := h2.lst
                  have eu : us = [] := l2
                  subst eu
                  obtain ⟨ps, ls, g1, g2, g3⟩ := lsts_ok q l1
                  subst g1
                  rw [e1, e2]
                  refine wpCall_of (cr_sumL hz.on.calm) ⟨a, b, ps, ls, rfl, r1, g2, r2, fun z => ?_, ?_, fun t nt => p.newL hz nt g3⟩
                  · subst z
                    have := l1.len
                    exact hc.1 (List.length_eq_zero_iff.mp (by simpa using this.symm))
                  · rw [g3.len, ← sz_line]
                    exact hc.2
                · exact p.elim
            | cons _ _ => exact p.elim
          | _ => exact p.elim
        | _ => exact p.elim
end
end VS
namespace L2
open PySem PySem.Spec PyProof.Rows
theorem tup_times0E (l : Addr) (n : Nat) (dd : Option Addr) (sl : Array (Option Value)) (u : Tok) :
    Meets (Builtin.«tuple.__mul__» ⟨[.ref l, .int 0 u], []⟩) (fun _ R s => s.heap.get? l = some ⟨.type "tuple", dd, .seq #[] n, sl⟩ ∧ R (.ok (.ret (Value.ref l))) s) :=
  .of_wp fun prog w A R s h => by
    obtain ⟨hp, g, d, tk, os⟩ := s
    obtain ⟨hl, h⟩ := h
    have f2 := AutoSeq1.idx_int
    wp_walk using wpAny_loadPart' hl
    exact ⟨_, rfl, h⟩
def rTupE (K : PySem.W.Frag) : R2 := fun x y H Q => ∃ l k xs, x = .ref l ∧ y = .int k ∧ SqT K H l xs ∧ ((k = 1 ∧ Q (.ref l) H) ∨ (k = 0 ∧ xs = [] ∧ Q (.ref l) H) ∨ k = 0 ∧ xs ≠ [] ∧ ∀ p, H p = none → Q (.ref p) (upd H p (.tup [])))
theorem op_tupE {X : Cx} : OpR X (binaryOp .Mult) (rTupE X.K) := by
  intro pins s σ H x y v u Q I rx ry h
  obtain ⟨l, k, xs, rfl, rfl, hT, q⟩ := h
  cases rx
  obtain ⟨t, rfl⟩ := ry
  obtain ⟨its, r, ⟨⟨cls, dd, data, sl⟩, ho, hc, n, hd⟩, hs⟩ := I.tuple hT
  simp only at hc hd
  subst hc hd
  have go : ∀ k, wpAny (model X.prog X.w) X.A (call (.builtin "tuple.__mul__") [.ref l, .int k t]) (EP X pins σ Q) X.xe s → wpAny (model X.prog X.w) X.A (binaryOp .Mult (.ref l) (.int k t)) (EP X pins σ Q) X.xe s := fun k hk =>
    wpAny_binaryOp_repeat_ref (T := "tuple") (U := "int") (by decide) ⟨_, ho, rfl⟩ (fun s' => typeIs_int s' k t) noFill_tuple_mul F.fills_int_mul F.slot_int_rmul repeat_tuple F.slot_int_index.lookup
      (call_meets F.slot_int_rmul (typeIs_int s k t) F.entry_int_rmul (F.args_int_rmul_2 _ _) (int_rmul_tuple k t l its.toArray n dd sl) ⟨ho, rfl, ⟨_, ho, rfl⟩, hk⟩)
  rcases q with ⟨rfl, q⟩ | ⟨rfl, e, q⟩ | ⟨rfl, hne, q⟩
  · exact go 1 (call_meets F.slot_tuple_mul ⟨_, ho, rfl⟩ F.entry_tuple_mul (F.args_tuple_mul_2 _ _) (tup_times1 l its.toArray n dd sl t) ⟨ho, .ref l, H, I, rfl, q⟩)
  · subst e
    cases r
    exact go 0 (call_meets F.slot_tuple_mul ⟨_, ho, rfl⟩ F.entry_tuple_mul (F.args_tuple_mul_2 _ _) (tup_times0E l n dd sl t) ⟨ho, .ref l, H, I, rfl, q⟩)
  · have hi : its.toArray.isEmpty = false := by
      cases its with
      | nil => exact absurd (List.eq_nil_of_length_eq_zero (by rw [r.length]; rfl)) hne
      | cons a b => rfl
    refine go 0 (call_meets F.slot_tuple_mul ⟨_, ho, rfl⟩ F.entry_tuple_mul (F.args_tuple_mul_2 _ _) (tup_times0 l its.toArray n dd sl t hi) ⟨ho, ?_⟩)
    refine ⟨.ref s.heap.objs.size, _, I.laid (t' := s.toks) (o := .tup []) (fun b ob q => Heap.get?_push_of_some _ q) (Nat.le_refl _) ?_, rfl, q _ (I.hok.fresh (Nat.le_refl _))⟩
    exact ⟨by simp, [], .nil, IsTup.new _ _⟩
end L2
namespace VS
open PySem PySem.Spec PyProof.Rows L2
variable [Tables]
theorem vop_mulE {c : Sta} : VOp c (binaryOp .Mult) dMulE := by
  intro Γ z hz d e v u h1 h2 Q h
  cases d with
  | tup ds => cases e with
    | int j =>
      change Post z (okE z false) ((if j = 1 then retD (.tup ds) else if j = 0 then retD (.tup []) else badD) z.S) Q at h
      obtain ⟨p, vs, e1, r1, l1⟩ := h1.tup
      rw [e1, h2.int]
      refine wpOp_of op_tupE ⟨_, _, _, rfl, rfl, .of r1, ?_⟩
      by_cases c1 : j = 1
      · rw [if_pos c1] at h
        exact .inl ⟨c1, h.val hz ⟨p, vs, rfl, r1, l1⟩⟩
      · rw [if_neg c1] at h
        by_cases c2 : j = 0
        · rw [if_pos c2] at h
          by_cases c3 : vs = []
          · subst c3
            exact .inr (.inl ⟨c2, rfl, h.val hz ⟨p, [], rfl, r1, RepL.nil⟩⟩)
          · exact .inr (.inr ⟨c2, c3, fun t nt => h.newT hz nt RepL.nil⟩)
        · rw [if_neg c2] at h
          exact h.elim
    | _ => exact h.elim
  | _ => exact h.elim
end VS
namespace VS
open PySem PySem.Spec PyProof.Rows L2
def W0 {α : Type} (r : Res α) (Q : α → Store → Prop) : Prop := match r with
  | .ok a S => Q a S
  | _ => False
def WS0 (o : Out) (N : List D → Store → Prop) (R : D → Store → Prop) : Prop := match o with
  | .nx ρ S => N ρ S
  | .ret d S => R d S
  | _ => False
def WG0 {α : Type} (o : Option α) (P : α → Prop) : Prop := match o with
  | some a => P a
  | none => False
section
variable {α β : Type} {Q : α → Store → Prop} {S : Store} {N : List D → Store → Prop} {R : D → Store → Prop} {ρ : List D}
@[simp] theorem W_ok_0 {a : α} : W0 (.ok a S) Q = Q a S := rfl
@[simp] theorem W_exc_0 {x : Exc} : W0 (.exc x S : Res α) Q = False := rfl
@[simp] theorem W_bad_0 : W0 (.bad : Res α) Q = False := rfl
@[simp] theorem WS_nx_0 : WS0 (.nx ρ S) N R = N ρ S := rfl
@[simp] theorem WS_ret_0 {d : D} : WS0 (.ret d S) N R = R d S := rfl
@[simp] theorem WS_exc_0 {x : Exc} : WS0 (.exc x ρ S) N R = False := rfl
@[simp] theorem WS_bad_0 : WS0 .bad N R = False := rfl
@[simp] theorem WG_some_0 {a : α} {P : α → Prop} : WG0 (some a) P = P a := rfl
@[simp] theorem WG_none_0 {P : α → Prop} : WG0 (none : Option α) P = False := rfl
theorem W0.mono {r : Res α} {Q Q' : α → Store → Prop} (h : W0 r Q) (k : ∀ a S, Q a S → Q' a S) : W0 r Q' := by
  cases r with
  | ok a S => exact k a S h
  | exc x S => exact h
  | bad => exact h
theorem WS0.mono {o : Out} {N N' : List D → Store → Prop} {R R' : D → Store → Prop} (h : WS0 o N R) (k : ∀ a S, N a S → N' a S) (l : ∀ a S, R a S → R' a S) : WS0 o N' R' := by
  cases o with
  | nx ρ S => exact k ρ S h
  | ret d S => exact l d S h
  | exc x ρ S => exact h
  | bad => exact h
@[simp] theorem W_bind_0 {m : M α} {f : α → M β} {Q : β → Store → Prop} : W0 ((m >>= f) S) Q = W0 (m S) fun a S' => W0 (f a S') Q := by
  show W0 (match m S with | .ok a S' => f a S' | .exc x S' => .exc x S' | .bad => .bad) Q = _
  cases m S <;> rfl
variable {P : D → Store → Prop} {B : Bool → Store → Prop} {L : List D → Store → Prop}
variable {f f1 f2 f3 : DE} {g g' : D → D → M D} {t u : DT} {a b : DA}
@[simp] theorem p_var_0 {i : Nat} : W0 (eVar i ρ S) P = WG0 ρ[i]? fun d => d ≠ .und ∧ P d S := by
  unfold eVar
  cases h : ρ[i]? with
  | none => rfl
  | some d => cases d <;> simp
@[simp] theorem p_any_0 {i : Nat} : W0 (eAny i ρ S) P = WG0 ρ[i]? fun d => d ≠ .und ∧ match d with
    | .ref n => WG0 S[n]? fun d => d ≠ .und ∧ P d S
    | d => P d S := by
  unfold eAny
  cases h : ρ[i]? with
  | none => rfl
  | some d => cases d with
    | ref n => 
      simp only [WG_some_0]
      cases h2 : S[n]? with
      | none => simp
      | some e => cases e <;> simp
    | _ => simp
@[simp] theorem p_con_0 {d : D} : W0 (eC d ρ S) P = P d S := rfl
@[simp] theorem p_un_0 {g : D → M D} : W0 (eUn g f ρ S) P = W0 (f ρ S) fun d S' => W0 (g d S') P := W_bind_0
@[simp] theorem p_bin_0 : W0 (eBin g f1 f2 ρ S) P = W0 (f1 ρ S) fun d S' => W0 (f2 ρ S') fun e S'' => W0 (g d e S'') P := by
  unfold eBin; simp only [W_bind_0]
@[simp] theorem p_asB_0 {d : D} : W0 (asB d S) B = match d with | .bl k => B k S | _ => False := by
  cases d <;> rfl
@[simp] theorem p_tbin_0 : W0 (tBin g f1 f2 ρ S) B = W0 (f1 ρ S) fun d S' => W0 (f2 ρ S') fun e S'' => W0 (g d e S'') fun k S3 => W0 (asB k S3) B := by
  unfold tBin; simp only [W_bind_0]
theorem W_ite_0 {c : Prop} [Decidable c] {m n : M α} : W0 ((if c then m else n) S) Q = if c then W0 (m S) Q else W0 (n S) Q := by split <;> rfl
@[simp] theorem p_chain_0 : W0 (eChain g g' f1 f2 f3 ρ S) P = W0 (f1 ρ S) fun d S' => W0 (f2 ρ S') fun e S'' => W0 (g d e S'') fun k S3 => W0 (asB k S3) fun k S4 => if k = true then W0 (f3 ρ S4) fun c S5 => W0 (g' e c S5) P else P (.bl false) S4 := by
  unfold eChain; simp only [W_bind_0, W_ite_0]; rfl
@[simp] theorem p_tof_0 : W0 (tOf f ρ S) B = W0 (f ρ S) fun d S' => W0 (dTru d S') B := W_bind_0
@[simp] theorem p_tval_0 : W0 (tVal f ρ S) B = W0 (f ρ S) fun d S' => W0 (asB d S') B := W_bind_0
@[simp] theorem p_tchain_0 : W0 (tChain' g g' f1 f2 f3 ρ S) B = W0 (eChain g g' f1 f2 f3 ρ S) fun d S' => W0 (asB d S') B := W_bind_0
@[simp] theorem p_tand_0 : W0 (tAnd' t u ρ S) B = W0 (t ρ S) fun k S' => if k = true then W0 (u ρ S') B else B false S' := by
  unfold tAnd'; simp only [W_bind_0, W_ite_0]; rfl
@[simp] theorem p_tor_0 : W0 (tOr' t u ρ S) B = W0 (t ρ S) fun k S' => if k = true then B true S' else W0 (u ρ S') B := by
  unfold tOr'; simp only [W_bind_0, W_ite_0]; rfl
@[simp] theorem p_tnot_0 : W0 (tNot' t ρ S) B = W0 (t ρ S) fun k S' => B (!k) S' := by
  unfold tNot'; simp only [W_bind_0]; rfl
@[simp] theorem p_eand_0 : W0 (eAndT f1 f2 ρ S) P = W0 (f1 ρ S) fun d S' => W0 (dTru d S') fun k S2 => if k = true then W0 (f2 ρ S2) P else P d S2 := by
  unfold eAndT; simp only [W_bind_0, W_ite_0]; rfl
@[simp] theorem p_eor_0 : W0 (eOrT f1 f2 ρ S) P = W0 (f1 ρ S) fun d S' => W0 (dTru d S') fun k S2 => if k = true then P d S2 else W0 (f2 ρ S2) P := by
  unfold eOrT; simp only [W_bind_0, W_ite_0]; rfl
@[simp] theorem p_enot_0 : W0 (eNotT f ρ S) P = W0 (f ρ S) fun d S' => W0 (dTru d S') fun k S2 => P (.bl (!k)) S2 := by
  unfold eNotT; simp only [W_bind_0]; rfl
@[simp] theorem p_eif_0 : W0 (eIf t f1 f2 ρ S) P = W0 (t ρ S) fun k S' => if k = true then W0 (f1 ρ S') P else W0 (f2 ρ S') P := by
  unfold eIf; simp only [W_bind_0, W_ite_0]
@[simp] theorem p_anil_0 : W0 (aNil ρ S) L = L [] S := rfl
@[simp] theorem p_acons_0 : W0 (aCons f b ρ S) L = W0 (f ρ S) fun d S' => W0 (b ρ S') fun ds S2 => L (d :: ds) S2 := by
  unfold aCons; simp only [W_bind_0]; rfl
@[simp] theorem p_etup_0 : W0 (eTup a ρ S) P = W0 (a ρ S) fun ds S' => ds.length ≤ sz ∧ P (.tup ds) S' := by
  unfold eTup; simp only [W_bind_0]; congr 1; funext ds S'; unfold tupD; split <;> rename_i h <;> simp [h, retD, badD]
@[simp] theorem p_elst_0 : W0 (eLst a ρ S) P = W0 (a ρ S) fun ds S' => ds.length ≤ sz ∧ P (.lst ds) S' := by
  unfold eLst; simp only [W_bind_0]; congr 1; funext ds S'; unfold lstD; split <;> rename_i h <;> simp [h, retD, badD]
variable {O : Option Int → Store → Prop} {lo hi : DO}
@[simp] theorem p_onone_0 : W0 (oNone ρ S) O = O none S := rfl
@[simp] theorem p_osome_0 : W0 (oSome f ρ S) O = W0 (f ρ S) fun d S' => match d with | .int i => O (some i) S' | _ => False := by
  unfold oSome; simp only [W_bind_0]; congr 1; funext d S'; cases d <;> rfl
@[simp] theorem p_sl_0 {g : D → Option Int → Option Int → M D} : W0 (eSl g f lo hi ρ S) P = W0 (f ρ S) fun d S' => W0 (lo ρ S') fun l S2 => W0 (hi ρ S2) fun h S3 => W0 (g d l h S3) P := by
  unfold eSl; simp only [W_bind_0]
@[simp] theorem p_call_0 {F : List D → M D} : W0 (eCall F a ρ S) P = W0 (a ρ S) fun ds S' => W0 (F ds S') P := W_bind_0
@[simp] theorem p_f1_0 {F : D → M D} {d : D} : VS.f1 F [d] = F d := rfl
@[simp] theorem p_f2_0 {F : D → D → M D} {d e : D} : VS.f2 F [d, e] = F d e := rfl
@[simp] theorem p_new_0 : W0 (eNew f ρ S) P = W0 (f ρ S) fun d S' => P (.ref S'.length) (S' ++ [d]) := by
  unfold eNew; cases f ρ S <;> rfl
@[simp] theorem p_asS_0 {d : D} {P : List Nat → Store → Prop} : W0 (asS d S) P = match d with | .str s => P s S | _ => False := by
  cases d <;> rfl
@[simp] theorem p_m0_0 {g : List Nat → M D} : W0 (eM0 g f ρ S) P = W0 (f ρ S) fun d S' => W0 (asS d S') fun s S2 => W0 (g s S2) P := by
  unfold eM0; simp only [W_bind_0]
@[simp] theorem p_m1_0 {g : List Nat → D → M D} : W0 (eM1 g f1 f2 ρ S) P = W0 (f1 ρ S) fun d S' => W0 (asS d S') fun s S2 => W0 (f2 ρ S2) fun e S3 => W0 (g s e S3) P := by
  unfold eM1; simp only [W_bind_0]
@[simp] theorem p_iof_0 : W0 (iOf f ρ S) L = W0 (f ρ S) fun d S' => WG0 (iterB d) fun ds => L ds S' := by
  unfold iOf; simp only [W_bind_0]; congr 1; funext d S'; unfold dIter; cases iterB d <;> rfl
@[simp] theorem p_rng_0 {i j : Int} : W0 (rngD i j S) L = ((-(2 ^ 62) ≤ i ∧ i < 2 ^ 62 ∧ -(2 ^ 62) ≤ j ∧ j < 2 ^ 62) ∧ L ((List.range (j - i).toNat).map fun k => .int (i + (k : Nat))) S) := by
  unfold rngD; by_cases h : -(2 ^ 62) ≤ i ∧ i < 2 ^ 62 ∧ -(2 ^ 62) ≤ j ∧ j < 2 ^ 62
  · rw [if_pos h]; simp only [h, W_ok_0]; simp
  · rw [if_neg h]; simp only [h, W_bad_0]; simp
@[simp] theorem p_rng1_0 : W0 (iRange1 f ρ S) L = W0 (f ρ S) fun d S' => match d with | .int j => W0 (rngD 0 j S') L | _ => False := by
  unfold iRange1; simp only [W_bind_0]; congr 1; funext d S'; cases d <;> rfl
@[simp] theorem p_rng2_0 : W0 (iRange2 f1 f2 ρ S) L = W0 (f1 ρ S) fun d S' => W0 (f2 ρ S') fun e S2 => match d, e with | .int i, .int j => W0 (rngD i j S2) L | _, _ => False := by
  unfold iRange2; simp only [W_bind_0]; congr 1; funext d S'; congr 1; funext e S2; cases d <;> (try rfl); cases e <;> rfl
@[simp] theorem p_enum_0 : W0 (iEnumD f ρ S) L = W0 (f ρ S) fun d S' => WG0 (iterB d) fun ds => L (enumL 0 ds) S' := by
  unfold iEnumD; simp only [W_bind_0]; congr 1; funext d S'; unfold dIter; cases iterB d <;> rfl
@[simp] theorem p_zip_0 : W0 (iZipD f1 f2 ρ S) L = W0 (f1 ρ S) fun d S' => W0 (f2 ρ S') fun e S2 => WG0 (iterB d) fun as => WG0 (iterB e) fun bs => L (zipL as bs) S2 := by
  unfold iZipD; simp only [W_bind_0]; congr 1; funext d S'; congr 1; funext e S2; unfold dIter
  cases iterB d <;> cases iterB e <;> rfl
@[simp] theorem p_iterL_0 {ds : List D} : iterB (.lst ds) = some ds := rfl
@[simp] theorem p_iterT_0 {ds : List D} : iterB (.tup ds) = some ds := rfl
@[simp] theorem p_iterC_0 {ds : List D} : iterB (.scr ds) = some ds := rfl
@[simp] theorem p_iterS_0 {s : List Nat} : iterB (.str s) = some (s.map fun x => .str [x]) := rfl
theorem W_noX_0 {m : M α} : W0 (noX m S) Q = W0 (m S) Q := by
  unfold noX; cases m S <;> rfl
@[simp] theorem p_comp_0 {vs : List Nat} {i : DI} {g : DG} : W0 (eComp vs i g t f ρ S) P = W0 (i ρ S) fun ds S' => W0 (compD g t f ds [] (killL vs ρ) S') fun xs S2 => P (.lst xs) S2 := by
  unfold eComp; simp only [W_bind_0]; rfl
@[simp] theorem p_yes_0 : W0 (tYesD ρ S) B = B true S := rfl
@[simp] theorem p_kill0_0 : killL [] ρ = ρ := rfl
@[simp] theorem p_kill_0 {i : Nat} {r : List Nat} : killL (i :: r) ρ = (killL r ρ).set i .und := rfl
@[simp] theorem g_name_0 {i : Nat} {d : D} : gN i d ρ = some (ρ.set i d) := rfl
@[simp] theorem g_tup_0 {h : DGs} {ds : List D} : gT h (.tup ds) ρ = h ds ρ := rfl
@[simp] theorem gs_nil_0 : gsNil [] ρ = some ρ := rfl
@[simp] theorem gs_cons_0 {g : DG} {h : DGs} {d : D} {r : List D} : gsCons g h (d :: r) ρ = (g d ρ).bind (h r) := by
  show (match g d ρ with | some ρ' => h r ρ' | none => none) = _
  cases g d ρ <;> rfl
@[simp] theorem WG_bind_0 {o : Option α} {k : α → Option β} {P : β → Prop} : WG0 (o.bind k) P = WG0 o fun a => WG0 (k a) P := by cases o <;> rfl
variable {x y : DS}
theorem WS_lift_0 {m : List D → M α} {k : α → Store → Out} : WS0 (sLift m ρ S k) N R = W0 (m ρ S) fun a S' => WS0 (k a S') N R := by
  unfold sLift; cases m ρ S <;> rfl
@[simp] theorem s_next_0 : WS0 (sNext ρ S) N R = N ρ S := rfl
@[simp] theorem s_bad_0 : WS0 (sBad ρ S) N R = False := rfl
@[simp] theorem s_seq_0 : WS0 (sSeq x y ρ S) N R = WS0 (x ρ S) (fun ρ' S' => WS0 (y ρ' S') N R) R := by
  unfold sSeq; cases x ρ S <;> rfl
@[simp] theorem s_set_0 {i : Nat} : WS0 (sSet i f ρ S) N R = W0 (f ρ S) fun d S' => N (ρ.set i d) S' := by
  unfold sSet; rw [WS_lift_0]; rfl
@[simp] theorem s_drop_0 : WS0 (sDrop f ρ S) N R = W0 (f ρ S) fun d S' => N ρ S' := by
  unfold sDrop; rw [WS_lift_0]; rfl
@[simp] theorem s_ret_0 : WS0 (sRet f ρ S) N R = W0 (f ρ S) fun d S' => R d S' := by
  unfold sRet; rw [WS_lift_0]; rfl
@[simp] theorem s_retN_0 : WS0 (sRetN ρ S) N R = R .non S := rfl
@[simp] theorem s_if_0 : WS0 (sIf t x y ρ S) N R = W0 (t ρ S) fun k S' => if k = true then WS0 (x ρ S') N R else WS0 (y ρ S') N R := by
  unfold sIf; rw [WS_lift_0]; congr 1; funext k S'; split <;> rfl
@[simp] theorem s_kill_0 {ks : List Nat} : WS0 (sKill ks x ρ S) N R = WS0 (x ρ S) (fun ρ' S' => N (killL ks ρ') S') R := by
  unfold sKill; cases x ρ S <;> rfl
@[simp] theorem s_asg_0 {g : DG} : WS0 (sAsg f g ρ S) N R = W0 (f ρ S) fun d S' => WG0 (g d ρ) fun ρ' => N ρ' S' := by
  unfold sAsg; rw [WS_lift_0]; congr 1; funext d S'; cases g d ρ <;> rfl
@[simp] theorem s_mut_0 {i : Nat} {G : List D → List D → Option (List D)} : WS0 (sMut i G a ρ S) N R = WG0 ρ[i]? fun d => match d with
    | .lst l => W0 (a ρ S) fun ds S' => WG0 (G l ds) fun l' => N (ρ.set i (.lst l')) S'
    | _ => False := by
  unfold sMut
  cases h : ρ[i]? with
  | none => rfl
  | some d => cases d with
    | lst l => simp only [WG_some_0]; rw [WS_lift_0]; congr 1; funext ds S'; cases G l ds <;> rfl
    | _ => rfl
@[simp] theorem s_put_0 {i : Nat} : WS0 (sPut i f1 f2 ρ S) N R = W0 (f2 ρ S) fun v S1 => W0 (f1 ρ S1) fun k S2 => WG0 ρ[i]? fun d => WG0 (dSet d k v) fun d' => N (ρ.set i d') S2 := by
  unfold sPut; rw [WS_lift_0]; congr 1; funext v S1; rw [WS_lift_0]; congr 1; funext k S2
  cases ρ[i]? with
  | none => rfl
  | some d => simp only [WG_some_0]; cases dSet d k v <;> rfl
@[simp] theorem s_putC_0 {i : Nat} : WS0 (sPutC i f1 f2 ρ S) N R = WG0 ρ[i]? fun r => match r with
    | .ref n => W0 (f2 ρ S) fun v S1 => W0 (f1 ρ S1) fun k S2 => WG0 S2[n]? fun d => WG0 (dSet d k v) fun d' => N ρ (S2.set n d')
    | _ => False := by
  unfold sPutC
  cases h : ρ[i]? with
  | none => rfl
  | some d => cases d with
    | ref n =>
      simp only [WG_some_0]; rw [WS_lift_0]; congr 1; funext v S1; rw [WS_lift_0]; congr 1; funext k S2
      cases S2[n]? with
      | none => rfl
      | some d => simp only [WG_some_0]; cases dSet d k v <;> rfl
    | _ => rfl
@[simp] theorem s_augP_0 {i : Nat} : WS0 (sAugP i f1 g f2 ρ S) N R = W0 (f1 ρ S) fun k S1 => WG0 ρ[i]? fun d => W0 (dIx d k S1) fun old S2 => W0 (f2 ρ S2) fun v S3 => W0 (g old v S3) fun new S4 => WG0 (dSet d k new) fun d' => N (ρ.set i d') S4 := by
  unfold sAugP; rw [WS_lift_0]; congr 1; funext k S1
  cases ρ[i]? with
  | none => rfl
  | some d => 
    simp only [WG_some_0]; rw [WS_lift_0]; congr 1; funext old S2; rw [WS_lift_0]; congr 1; funext v S3; rw [WS_lift_0]; congr 1; funext new S4
    cases dSet d k new <;> rfl
@[simp] theorem s_augC_0 {i : Nat} : WS0 (sAugC i f1 g f2 ρ S) N R = WG0 ρ[i]? fun r => match r with
    | .ref n => W0 (f1 ρ S) fun k S1 => WG0 S1[n]? fun d => W0 (dIx d k S1) fun old S2 => W0 (f2 ρ S2) fun v S3 => W0 (g old v S3) fun new S4 => WG0 S4[n]? fun d2 => WG0 (dSet d2 k new) fun d' => N ρ (S4.set n d')
    | _ => False := by
  unfold sAugC
  cases h : ρ[i]? with
  | none => rfl
  | some d => cases d with
    | ref n =>
      simp only [WG_some_0]; rw [WS_lift_0]; congr 1; funext k S1
      cases S1[n]? with
      | none => rfl
      | some d => 
        simp only [WG_some_0]; rw [WS_lift_0]; congr 1; funext old S2; rw [WS_lift_0]; congr 1; funext v S3; rw [WS_lift_0]; congr 1; funext new S4
        cases S4[n]? with
        | none => rfl
        | some d => simp only [WG_some_0]; cases dSet d k new <;> rfl
    | _ => rfl
@[simp] theorem s_insPop_0 {i : Nat} : WS0 (sInsPop i f1 f2 ρ S) N R = WG0 ρ[i]? fun d => match d with
    | .lst l => W0 (f1 ρ S) fun a S1 => W0 (f2 ρ S1) fun b S2 => match a, b with
      | .int m, .int j => WG0 (seqIndex? j l.length) fun k => WG0 l[k]? fun d => (l.length ≤ sz ∧ -(2 ^ 63) ≤ j ∧ j < 2 ^ 63 ∧ 0 ≤ m ∧ m < 2 ^ 63) ∧ N (ρ.set i (.lst ((l.eraseIdx k).take m.toNat ++ [d] ++ (l.eraseIdx k).drop m.toNat))) S2
      | _, _ => False
    | _ => False := by
  unfold sInsPop
  cases h : ρ[i]? with
  | none => rfl
  | some d => cases d with
    | lst l =>
      simp only [WG_some_0]; rw [WS_lift_0]; congr 1; funext a S1; rw [WS_lift_0]; congr 1; funext b S2
      cases a <;> (try rfl)
      cases b <;> (try rfl)
      rename_i m j
      dsimp only
      cases seqIndex? j l.length with
      | none => rfl
      | some k => 
        dsimp only [WG_some_0]
        cases l[k]? with
        | none => rfl
        | some d =>
          dsimp only [WG_some_0]
          by_cases h : l.length ≤ sz ∧ -(2 ^ 63) ≤ j ∧ j < 2 ^ 63 ∧ 0 ≤ m ∧ m < 2 ^ 63
          · rw [if_pos h]; simp only [h, WS_nx_0]; simp
          · rw [if_neg h]; simp only [h, WS_bad_0]; simp
    | _ => rfl
@[simp] theorem s_for_0 {i : DI} {g : DG} : WS0 (sFor i g x ρ S) N R = W0 (i ρ S) fun ds S' => WS0 (forD g x ds ρ S') N R := by
  unfold sFor; rw [WS_lift_0]
@[simp] theorem s_while_0 {n : Nat} : WS0 (sWhile n t x ρ S) N R = WS0 (whileD t x n ρ S) N R := rfl
theorem W_def_0 {n : Nat} {fr : Bool} {x : DS} {ds : List D} : W0 (defD n fr x ds S) P = WS0 (x (ds ++ List.replicate (n - ds.length) .und) S) (fun _ S' => if fr = true then False else P .non S') P := by
  unfold defD
  cases x (ds ++ List.replicate (n - ds.length) .und) S with
  | nx ρ S' => show W0 (if fr = true then Res.bad else Res.ok D.non S') P = _; split <;> simp_all
  | ret d S' => rfl
  | exc x ρ S' => rfl
  | bad => rfl
theorem WS_for_0 {g : DG} {x : DS} (I : List D → List D → Store → Prop)
    (hs : ∀ d ds ρ S, I (d :: ds) ρ S → WG0 (g d ρ) fun ρ1 => WS0 (x ρ1 S) (fun ρ' S' => I ds ρ' S') R)
    (h0 : ∀ ρ S, I [] ρ S → N ρ S) : ∀ ds ρ S, I ds ρ S → WS0 (forD g x ds ρ S) N R
  | [], ρ, S, h => h0 ρ S h
  | d :: ds, ρ, S, h => by
    have q := hs d ds ρ S h
    unfold forD
    cases e : g d ρ with
    | none => rw [e] at q; exact q.elim
    | some ρ1 =>
      rw [e] at q
      have q : WS0 (x ρ1 S) (fun ρ' S' => I ds ρ' S') R := q
      show WS0 (match x ρ1 S with | .nx ρ' S' => forD g x ds ρ' S' | o => o) N R
      cases e2 : x ρ1 S with
      | nx ρ' S' => rw [e2] at q; exact WS_for_0 I hs h0 ds ρ' S' q
      | ret d S' => rw [e2] at q; exact q
      | exc x ρ S' => rw [e2] at q; exact q.elim
      | bad => rw [e2] at q; exact q.elim
theorem WS_while_0 {t : DT} {x : DS} (I : Nat → List D → Store → Prop)
    (hs : ∀ k ρ S, I k ρ S → W0 (t ρ S) fun b S' => if b = true then WS0 (x ρ S') (fun ρ' S2 => ∃ k', k' < k ∧ I k' ρ' S2) R else N ρ S') :
    ∀ n k ρ S, k < n → I k ρ S → WS0 (whileD t x n ρ S) N R
  | 0, k, ρ, S, h, _ => absurd h (Nat.not_lt_zero k)
  | n + 1, k, ρ, S, h, i => by
    have q := hs k ρ S i
    unfold whileD
    rw [WS_lift_0]
    refine q.mono fun b S' q => ?_
    cases b with
    | false => exact q
    | true =>
      have q : WS0 (x ρ S') (fun ρ' S2 => ∃ k', k' < k ∧ I k' ρ' S2) R := q
      show WS0 (match x ρ S' with | .nx ρ' S2 => whileD t x n ρ' S2 | o => o) N R
      cases e2 : x ρ S' with
      | nx ρ' S' => rw [e2] at q; obtain ⟨k', h', i'⟩ := q; exact WS_while_0 I hs n k' ρ' S' (by omega) i'
      | ret d S' => rw [e2] at q; exact q
      | exc x ρ S' => rw [e2] at q; exact q.elim
      | bad => rw [e2] at q; exact q.elim
theorem W_compD_0 {g : DG} {t : DT} {f : DE} (I : List D → List D → Store → Prop)
    (hs : ∀ d ds acc S, I (d :: ds) acc S → WG0 (g d ρ) fun ρ1 => W0 (t ρ1 S) fun k S' => if k = true then W0 (f ρ1 S') fun y S2 => acc.length < sz ∧ I ds (acc ++ [y]) S2 else I ds acc S')
    (h0 : ∀ acc S, I [] acc S → L acc S) : ∀ ds acc S, I ds acc S → W0 (compD g t f ds acc ρ S) L
  | [], acc, S, h => h0 acc S h
  | d :: ds, acc, S, h => by
    have q := hs d ds acc S h
    unfold compD
    cases e : g d ρ with
    | none => rw [e] at q; exact q.elim
    | some ρ1 =>
      rw [e] at q
      simp only [W_bind_0, W_noX_0]
      refine W0.mono (show W0 (t ρ1 S) _ from q) fun k S' q => ?_
      cases k with
      | false => exact W_compD_0 I hs h0 ds acc S' q
      | true =>
        simp only [if_true, W_bind_0, W_noX_0] at q ⊢
        refine W0.mono q fun y S2 q => ?_
        rw [if_pos q.1]
        exact W_compD_0 I hs h0 ds _ S2 q.2
theorem comp_pure_0 {γ : Type} {g : DG} {t : DT} {f : DE} (enc : γ → D) (p : γ → Bool) (out : γ → D) (xs : List γ)
    (h : ∀ x, x ∈ xs → WG0 (g (enc x) ρ) fun ρ1 => W0 (t ρ1 S) fun k S' => k = p x ∧ S' = S ∧ (p x = true → W0 (f ρ1 S) fun y S2 => y = out x ∧ S2 = S)) (hl : xs.length ≤ sz)
    (q : L ((xs.filter p).map out) S) : W0 (compD g t f (xs.map enc) [] ρ S) L := by
  have key : ∀ (ys : List γ) (acc : List D), (∀ x, x ∈ ys → x ∈ xs) → acc.length + ys.length ≤ sz → W0 (compD g t f (ys.map enc) acc ρ S) fun r S' => r = acc ++ (ys.filter p).map out ∧ S' = S := by
    intro ys
    induction ys with
    | nil => intro acc _ _; simp [compD]
    | cons z ys ih =>
      intro acc hm hb
      have hz := h z (hm z (List.mem_cons_self ..))
      simp only [List.map_cons]
      unfold compD
      cases e : g (enc z) ρ with
      | none => rw [e] at hz; exact hz.elim
      | some ρ1 =>
        rw [e] at hz
        simp only [W_bind_0, W_noX_0]
        simp only [List.length_cons] at hb
        refine W0.mono (show W0 (t ρ1 S) _ from hz) fun k S' hz => ?_
        obtain ⟨rfl, rfl, hz⟩ := hz
        cases hp : p z with
        | false =>
          simp only [Bool.false_eq_true, if_false]
          have := ih acc (fun x hx => hm x (List.mem_cons_of_mem _ hx)) (by omega)
          rw [List.filter_cons_of_neg (by simp [hp])]
          exact this
        | true =>
          simp only [if_true, W_bind_0, W_noX_0]
          refine W0.mono (hz hp) fun y S2 hy => ?_
          obtain ⟨rfl, rfl⟩ := hy
          rw [if_pos (by omega)]
          have := ih (acc ++ [out z]) (fun x hx => hm x (List.mem_cons_of_mem _ hx)) (by simp; omega)
          rw [List.filter_cons_of_pos (by simp [hp])]
          refine this.mono fun r S3 hr => ⟨?_, hr.2⟩
          rw [hr.1]; simp
  exact (key xs [] (fun _ h => h) (by simpa using hl)).mono fun r S' hr => by rw [hr.1, hr.2, List.nil_append]; exact q
end
structure W {α : Type} (r : Res α) (Q : α → Store → Prop) : Prop where
  ex : ∃ a S, r = .ok a S ∧ Q a S
structure WS (o : Out) (N : List D → Store → Prop) (R : D → Store → Prop) : Prop where
  ex : (∃ ρ S, o = .nx ρ S ∧ N ρ S) ∨ ∃ d S, o = .ret d S ∧ R d S
structure WG {α : Type} (o : Option α) (P : α → Prop) : Prop where
  ex : ∃ a, o = some a ∧ P a
theorem W_is {α : Type} {r : Res α} {Q : α → Store → Prop} : W r Q = W0 r Q := by
  refine propext ⟨fun ⟨a, S, e, h⟩ => by rw [e]; exact h, fun h => ?_⟩
  cases r with
  | ok a S => exact ⟨a, S, rfl, h⟩
  | exc x S => exact h.elim
  | bad => exact h.elim
theorem WS_is {o : Out} {N : List D → Store → Prop} {R : D → Store → Prop} : WS o N R = WS0 o N R := by
  refine propext ⟨fun ⟨h⟩ => by rcases h with ⟨a, S, e, h⟩ | ⟨a, S, e, h⟩ <;> (rw [e]; exact h), fun h => ?_⟩
  cases o with
  | nx ρ S => exact ⟨.inl ⟨ρ, S, rfl, h⟩⟩
  | ret d S => exact ⟨.inr ⟨d, S, rfl, h⟩⟩
  | exc x ρ S => exact h.elim
  | bad => exact h.elim
theorem WG_is {α : Type} {o : Option α} {P : α → Prop} : WG o P = WG0 o P := by
  refine propext ⟨fun ⟨a, e, h⟩ => by rw [e]; exact h, fun h => ?_⟩
  cases o with
  | some a => exact ⟨a, rfl, h⟩
  | none => exact h.elim
section
variable {α β : Type} {Q : α → Store → Prop} {S : Store} {N : List D → Store → Prop} {R : D → Store → Prop} {ρ : List D}
theorem W.mono {r : Res α} {Q Q' : α → Store → Prop} (h : W r Q) (k : ∀ a S, Q a S → Q' a S) : W r Q' := by
  obtain ⟨a, S, e, h⟩ := h
  exact ⟨a, S, e, k a S h⟩
theorem WS.mono {o : Out} {N N' : List D → Store → Prop} {R R' : D → Store → Prop} (h : WS o N R) (k : ∀ a S, N a S → N' a S) (l : ∀ a S, R a S → R' a S) : WS o N' R' := by
  rcases h with ⟨⟨a, S, e, h⟩ | ⟨a, S, e, h⟩⟩
  · exact ⟨.inl ⟨a, S, e, k a S h⟩⟩
  · exact ⟨.inr ⟨a, S, e, l a S h⟩⟩
theorem WG.mono {o : Option α} {P P' : α → Prop} (h : WG o P) (k : ∀ a, P a → P' a) : WG o P' := by
  obtain ⟨a, e, h⟩ := h
  exact ⟨a, e, k a h⟩
variable {α β : Type} {Q : α → Store → Prop} {S : Store} {N : List D → Store → Prop} {R : D → Store → Prop} {ρ : List D}
@[simp] theorem W_ok {a : α} : W (.ok a S) Q = Q a S := by
  (try simp only [W_is, WS_is, WG_is]); exact W_ok_0
@[simp] theorem W_exc {x : Exc} : W (.exc x S : Res α) Q = False := by
  (try simp only [W_is, WS_is, WG_is]); exact W_exc_0
@[simp] theorem W_bad : W (.bad : Res α) Q = False := by
  (try simp only [W_is, WS_is, WG_is]); exact W_bad_0
@[simp] theorem WS_nx : WS (.nx ρ S) N R = N ρ S := by
  (try simp only [W_is, WS_is, WG_is]); exact WS_nx_0
@[simp] theorem WS_ret {d : D} : WS (.ret d S) N R = R d S := by
  (try simp only [W_is, WS_is, WG_is]); exact WS_ret_0
@[simp] theorem WS_exc {x : Exc} : WS (.exc x ρ S) N R = False := by
  (try simp only [W_is, WS_is, WG_is]); exact WS_exc_0
@[simp] theorem WS_bad : WS .bad N R = False := by
  (try simp only [W_is, WS_is, WG_is]); exact WS_bad_0
@[simp] theorem WG_some {a : α} {P : α → Prop} : WG (some a) P = P a := by
  (try simp only [W_is, WS_is, WG_is]); exact WG_some_0
@[simp] theorem WG_none {P : α → Prop} : WG (none : Option α) P = False := by
  (try simp only [W_is, WS_is, WG_is]); exact WG_none_0
@[simp] theorem W_bind {m : M α} {f : α → M β} {Q : β → Store → Prop} : W ((m >>= f) S) Q = W (m S) fun a S' => W (f a S') Q := by
  (try simp only [W_is, WS_is, WG_is]); exact W_bind_0
variable {P : D → Store → Prop} {B : Bool → Store → Prop} {L : List D → Store → Prop}
variable {f f1 f2 f3 : DE} {g g' : D → D → M D} {t u : DT} {a b : DA}
@[simp] theorem p_var {i : Nat} : W (eVar i ρ S) P = WG ρ[i]? fun d => d ≠ .und ∧ P d S := by
  (try simp only [W_is, WS_is, WG_is]); exact p_var_0
@[simp] theorem p_any {i : Nat} : W (eAny i ρ S) P = WG ρ[i]? fun d => d ≠ .und ∧ match d with
    | .ref n => WG S[n]? fun d => d ≠ .und ∧ P d S
    | d => P d S := by
  (try simp only [W_is, WS_is, WG_is]); exact p_any_0
@[simp] theorem p_con {d : D} : W (eC d ρ S) P = P d S := by
  (try simp only [W_is, WS_is, WG_is]); exact p_con_0
@[simp] theorem p_un {g : D → M D} : W (eUn g f ρ S) P = W (f ρ S) fun d S' => W (g d S') P := by
  (try simp only [W_is, WS_is, WG_is]); exact p_un_0
@[simp] theorem p_bin : W (eBin g f1 f2 ρ S) P = W (f1 ρ S) fun d S' => W (f2 ρ S') fun e S'' => W (g d e S'') P := by
  (try simp only [W_is, WS_is, WG_is]); exact p_bin_0
@[simp] theorem p_asB {d : D} : W (asB d S) B = match d with | .bl k => B k S | _ => False := by
  (try simp only [W_is, WS_is, WG_is]); exact p_asB_0
@[simp] theorem p_tbin : W (tBin g f1 f2 ρ S) B = W (f1 ρ S) fun d S' => W (f2 ρ S') fun e S'' => W (g d e S'') fun k S3 => W (asB k S3) B := by
  (try simp only [W_is, WS_is, WG_is]); exact p_tbin_0
@[simp] theorem p_chain : W (eChain g g' f1 f2 f3 ρ S) P = W (f1 ρ S) fun d S' => W (f2 ρ S') fun e S'' => W (g d e S'') fun k S3 => W (asB k S3) fun k S4 => if k = true then W (f3 ρ S4) fun c S5 => W (g' e c S5) P else P (.bl false) S4 := by
  (try simp only [W_is, WS_is, WG_is]); exact p_chain_0
@[simp] theorem p_tof : W (tOf f ρ S) B = W (f ρ S) fun d S' => W (dTru d S') B := by
  (try simp only [W_is, WS_is, WG_is]); exact p_tof_0
@[simp] theorem p_tval : W (tVal f ρ S) B = W (f ρ S) fun d S' => W (asB d S') B := by
  (try simp only [W_is, WS_is, WG_is]); exact p_tval_0
@[simp] theorem p_tchain : W (tChain' g g' f1 f2 f3 ρ S) B = W (eChain g g' f1 f2 f3 ρ S) fun d S' => W (asB d S') B := by
  (try simp only [W_is, WS_is, WG_is]); exact p_tchain_0
@[simp] theorem p_tand : W (tAnd' t u ρ S) B = W (t ρ S) fun k S' => if k = true then W (u ρ S') B else B false S' := by
  (try simp only [W_is, WS_is, WG_is]); exact p_tand_0
@[simp] theorem p_tor : W (tOr' t u ρ S) B = W (t ρ S) fun k S' => if k = true then B true S' else W (u ρ S') B := by
  (try simp only [W_is, WS_is, WG_is]); exact p_tor_0
@[simp] theorem p_tnot : W (tNot' t ρ S) B = W (t ρ S) fun k S' => B (!k) S' := by
  (try simp only [W_is, WS_is, WG_is]); exact p_tnot_0
@[simp] theorem p_eand : W (eAndT f1 f2 ρ S) P = W (f1 ρ S) fun d S' => W (dTru d S') fun k S2 => if k = true then W (f2 ρ S2) P else P d S2 := by
  (try simp only [W_is, WS_is, WG_is]); exact p_eand_0
@[simp] theorem p_eor : W (eOrT f1 f2 ρ S) P = W (f1 ρ S) fun d S' => W (dTru d S') fun k S2 => if k = true then P d S2 else W (f2 ρ S2) P := by
  (try simp only [W_is, WS_is, WG_is]); exact p_eor_0
@[simp] theorem p_enot : W (eNotT f ρ S) P = W (f ρ S) fun d S' => W (dTru d S') fun k S2 => P (.bl (!k)) S2 := by
  (try simp only [W_is, WS_is, WG_is]); exact p_enot_0
@[simp] theorem p_eif : W (eIf t f1 f2 ρ S) P = W (t ρ S) fun k S' => if k = true then W (f1 ρ S') P else W (f2 ρ S') P := by
  (try simp only [W_is, WS_is, WG_is]); exact p_eif_0
@[simp] theorem p_anil : W (aNil ρ S) L = L [] S := by
  (try simp only [W_is, WS_is, WG_is]); exact p_anil_0
@[simp] theorem p_acons : W (aCons f b ρ S) L = W (f ρ S) fun d S' => W (b ρ S') fun ds S2 => L (d :: ds) S2 := by
  (try simp only [W_is, WS_is, WG_is]); exact p_acons_0
@[simp] theorem p_etup : W (eTup a ρ S) P = W (a ρ S) fun ds S' => ds.length ≤ sz ∧ P (.tup ds) S' := by
  (try simp only [W_is, WS_is, WG_is]); exact p_etup_0
@[simp] theorem p_elst : W (eLst a ρ S) P = W (a ρ S) fun ds S' => ds.length ≤ sz ∧ P (.lst ds) S' := by
  (try simp only [W_is, WS_is, WG_is]); exact p_elst_0
variable {O : Option Int → Store → Prop} {lo hi : DO}
@[simp] theorem p_onone : W (oNone ρ S) O = O none S := by
  (try simp only [W_is, WS_is, WG_is]); exact p_onone_0
@[simp] theorem p_osome : W (oSome f ρ S) O = W (f ρ S) fun d S' => match d with | .int i => O (some i) S' | _ => False := by
  (try simp only [W_is, WS_is, WG_is]); exact p_osome_0
@[simp] theorem p_sl {g : D → Option Int → Option Int → M D} : W (eSl g f lo hi ρ S) P = W (f ρ S) fun d S' => W (lo ρ S') fun l S2 => W (hi ρ S2) fun h S3 => W (g d l h S3) P := by
  (try simp only [W_is, WS_is, WG_is]); exact p_sl_0
@[simp] theorem p_call {F : List D → M D} : W (eCall F a ρ S) P = W (a ρ S) fun ds S' => W (F ds S') P := by
  (try simp only [W_is, WS_is, WG_is]); exact p_call_0
@[simp] theorem p_f1 {F : D → M D} {d : D} : VS.f1 F [d] = F d := by
  (try simp only [W_is, WS_is, WG_is]); exact p_f1_0
@[simp] theorem p_f2 {F : D → D → M D} {d e : D} : VS.f2 F [d, e] = F d e := by
  (try simp only [W_is, WS_is, WG_is]); exact p_f2_0
@[simp] theorem p_new : W (eNew f ρ S) P = W (f ρ S) fun d S' => P (.ref S'.length) (S' ++ [d]) := by
  (try simp only [W_is, WS_is, WG_is]); exact p_new_0
@[simp] theorem p_asS {d : D} {P : List Nat → Store → Prop} : W (asS d S) P = match d with | .str s => P s S | _ => False := by
  (try simp only [W_is, WS_is, WG_is]); exact p_asS_0
@[simp] theorem p_m0 {g : List Nat → M D} : W (eM0 g f ρ S) P = W (f ρ S) fun d S' => W (asS d S') fun s S2 => W (g s S2) P := by
  (try simp only [W_is, WS_is, WG_is]); exact p_m0_0
@[simp] theorem p_m1 {g : List Nat → D → M D} : W (eM1 g f1 f2 ρ S) P = W (f1 ρ S) fun d S' => W (asS d S') fun s S2 => W (f2 ρ S2) fun e S3 => W (g s e S3) P := by
  (try simp only [W_is, WS_is, WG_is]); exact p_m1_0
@[simp] theorem p_iof : W (iOf f ρ S) L = W (f ρ S) fun d S' => WG (iterB d) fun ds => L ds S' := by
  (try simp only [W_is, WS_is, WG_is]); exact p_iof_0
@[simp] theorem p_rng {i j : Int} : W (rngD i j S) L = ((-(2 ^ 62) ≤ i ∧ i < 2 ^ 62 ∧ -(2 ^ 62) ≤ j ∧ j < 2 ^ 62) ∧ L ((List.range (j - i).toNat).map fun k => .int (i + (k : Nat))) S) := by
  (try simp only [W_is, WS_is, WG_is]); exact p_rng_0
@[simp] theorem p_rng1 : W (iRange1 f ρ S) L = W (f ρ S) fun d S' => match d with | .int j => W (rngD 0 j S') L | _ => False := by
  (try simp only [W_is, WS_is, WG_is]); exact p_rng1_0
@[simp] theorem p_rng2 : W (iRange2 f1 f2 ρ S) L = W (f1 ρ S) fun d S' => W (f2 ρ S') fun e S2 => match d, e with | .int i, .int j => W (rngD i j S2) L | _, _ => False := by
  (try simp only [W_is, WS_is, WG_is]); exact p_rng2_0
@[simp] theorem p_enum : W (iEnumD f ρ S) L = W (f ρ S) fun d S' => WG (iterB d) fun ds => L (enumL 0 ds) S' := by
  (try simp only [W_is, WS_is, WG_is]); exact p_enum_0
@[simp] theorem p_zip : W (iZipD f1 f2 ρ S) L = W (f1 ρ S) fun d S' => W (f2 ρ S') fun e S2 => WG (iterB d) fun as => WG (iterB e) fun bs => L (zipL as bs) S2 := by
  (try simp only [W_is, WS_is, WG_is]); exact p_zip_0
@[simp] theorem p_iterL {ds : List D} : iterB (.lst ds) = some ds := by
  (try simp only [W_is, WS_is, WG_is]); exact p_iterL_0
@[simp] theorem p_iterT {ds : List D} : iterB (.tup ds) = some ds := by
  (try simp only [W_is, WS_is, WG_is]); exact p_iterT_0
@[simp] theorem p_iterC {ds : List D} : iterB (.scr ds) = some ds := by
  (try simp only [W_is, WS_is, WG_is]); exact p_iterC_0
@[simp] theorem p_iterS {s : List Nat} : iterB (.str s) = some (s.map fun x => .str [x]) := by
  (try simp only [W_is, WS_is, WG_is]); exact p_iterS_0
@[simp] theorem p_comp {vs : List Nat} {i : DI} {g : DG} : W (eComp vs i g t f ρ S) P = W (i ρ S) fun ds S' => W (compD g t f ds [] (killL vs ρ) S') fun xs S2 => P (.lst xs) S2 := by
  (try simp only [W_is, WS_is, WG_is]); exact p_comp_0
@[simp] theorem p_yes : W (tYesD ρ S) B = B true S := by
  (try simp only [W_is, WS_is, WG_is]); exact p_yes_0
@[simp] theorem p_kill0 : killL [] ρ = ρ := by
  (try simp only [W_is, WS_is, WG_is]); exact p_kill0_0
@[simp] theorem p_kill {i : Nat} {r : List Nat} : killL (i :: r) ρ = (killL r ρ).set i .und := by
  (try simp only [W_is, WS_is, WG_is]); exact p_kill_0
@[simp] theorem g_name {i : Nat} {d : D} : gN i d ρ = some (ρ.set i d) := by
  (try simp only [W_is, WS_is, WG_is]); exact g_name_0
@[simp] theorem g_tup {h : DGs} {ds : List D} : gT h (.tup ds) ρ = h ds ρ := by
  (try simp only [W_is, WS_is, WG_is]); exact g_tup_0
@[simp] theorem gs_nil : gsNil [] ρ = some ρ := by
  (try simp only [W_is, WS_is, WG_is]); exact gs_nil_0
@[simp] theorem gs_cons {g : DG} {h : DGs} {d : D} {r : List D} : gsCons g h (d :: r) ρ = (g d ρ).bind (h r) := by
  (try simp only [W_is, WS_is, WG_is]); exact gs_cons_0
@[simp] theorem WG_bind {o : Option α} {k : α → Option β} {P : β → Prop} : WG (o.bind k) P = WG o fun a => WG (k a) P := by
  (try simp only [W_is, WS_is, WG_is]); exact WG_bind_0
variable {x y : DS}
@[simp] theorem s_next : WS (sNext ρ S) N R = N ρ S := by
  (try simp only [W_is, WS_is, WG_is]); exact s_next_0
@[simp] theorem s_bad : WS (sBad ρ S) N R = False := by
  (try simp only [W_is, WS_is, WG_is]); exact s_bad_0
@[simp] theorem s_seq : WS (sSeq x y ρ S) N R = WS (x ρ S) (fun ρ' S' => WS (y ρ' S') N R) R := by
  (try simp only [W_is, WS_is, WG_is]); exact s_seq_0
@[simp] theorem s_set {i : Nat} : WS (sSet i f ρ S) N R = W (f ρ S) fun d S' => N (ρ.set i d) S' := by
  (try simp only [W_is, WS_is, WG_is]); exact s_set_0
@[simp] theorem s_drop : WS (sDrop f ρ S) N R = W (f ρ S) fun d S' => N ρ S' := by
  (try simp only [W_is, WS_is, WG_is]); exact s_drop_0
@[simp] theorem s_ret : WS (sRet f ρ S) N R = W (f ρ S) fun d S' => R d S' := by
  (try simp only [W_is, WS_is, WG_is]); exact s_ret_0
@[simp] theorem s_retN : WS (sRetN ρ S) N R = R .non S := by
  (try simp only [W_is, WS_is, WG_is]); exact s_retN_0
@[simp] theorem s_if : WS (sIf t x y ρ S) N R = W (t ρ S) fun k S' => if k = true then WS (x ρ S') N R else WS (y ρ S') N R := by
  (try simp only [W_is, WS_is, WG_is]); exact s_if_0
@[simp] theorem s_kill {ks : List Nat} : WS (sKill ks x ρ S) N R = WS (x ρ S) (fun ρ' S' => N (killL ks ρ') S') R := by
  (try simp only [W_is, WS_is, WG_is]); exact s_kill_0
@[simp] theorem s_asg {g : DG} : WS (sAsg f g ρ S) N R = W (f ρ S) fun d S' => WG (g d ρ) fun ρ' => N ρ' S' := by
  (try simp only [W_is, WS_is, WG_is]); exact s_asg_0
@[simp] theorem s_mut {i : Nat} {G : List D → List D → Option (List D)} : WS (sMut i G a ρ S) N R = WG ρ[i]? fun d => match d with
    | .lst l => W (a ρ S) fun ds S' => WG (G l ds) fun l' => N (ρ.set i (.lst l')) S'
    | _ => False := by
  (try simp only [W_is, WS_is, WG_is]); exact s_mut_0
@[simp] theorem s_put {i : Nat} : WS (sPut i f1 f2 ρ S) N R = W (f2 ρ S) fun v S1 => W (f1 ρ S1) fun k S2 => WG ρ[i]? fun d => WG (dSet d k v) fun d' => N (ρ.set i d') S2 := by
  (try simp only [W_is, WS_is, WG_is]); exact s_put_0
@[simp] theorem s_putC {i : Nat} : WS (sPutC i f1 f2 ρ S) N R = WG ρ[i]? fun r => match r with
    | .ref n => W (f2 ρ S) fun v S1 => W (f1 ρ S1) fun k S2 => WG S2[n]? fun d => WG (dSet d k v) fun d' => N ρ (S2.set n d')
    | _ => False := by
  (try simp only [W_is, WS_is, WG_is]); exact s_putC_0
@[simp] theorem s_augP {i : Nat} : WS (sAugP i f1 g f2 ρ S) N R = W (f1 ρ S) fun k S1 => WG ρ[i]? fun d => W (dIx d k S1) fun old S2 => W (f2 ρ S2) fun v S3 => W (g old v S3) fun new S4 => WG (dSet d k new) fun d' => N (ρ.set i d') S4 := by
  (try simp only [W_is, WS_is, WG_is]); exact s_augP_0
@[simp] theorem s_augC {i : Nat} : WS (sAugC i f1 g f2 ρ S) N R = WG ρ[i]? fun r => match r with
    | .ref n => W (f1 ρ S) fun k S1 => WG S1[n]? fun d => W (dIx d k S1) fun old S2 => W (f2 ρ S2) fun v S3 => W (g old v S3) fun new S4 => WG S4[n]? fun d2 => WG (dSet d2 k new) fun d' => N ρ (S4.set n d')
    | _ => False := by
  (try simp only [W_is, WS_is, WG_is]); exact s_augC_0
@[simp] theorem s_insPop {i : Nat} : WS (sInsPop i f1 f2 ρ S) N R = WG ρ[i]? fun d => match d with
    | .lst l => W (f1 ρ S) fun a S1 => W (f2 ρ S1) fun b S2 => match a, b with
      | .int m, .int j => WG (seqIndex? j l.length) fun k => WG l[k]? fun d => (l.length ≤ sz ∧ -(2 ^ 63) ≤ j ∧ j < 2 ^ 63 ∧ 0 ≤ m ∧ m < 2 ^ 63) ∧ N (ρ.set i (.lst ((l.eraseIdx k).take m.toNat ++ [d] ++ (l.eraseIdx k).drop m.toNat))) S2
      | _, _ => False
    | _ => False := by
  (try simp only [W_is, WS_is, WG_is]); exact s_insPop_0
@[simp] theorem s_for {i : DI} {g : DG} : WS (sFor i g x ρ S) N R = W (i ρ S) fun ds S' => WS (forD g x ds ρ S') N R := by
  (try simp only [W_is, WS_is, WG_is]); exact s_for_0
@[simp] theorem s_while {n : Nat} : WS (sWhile n t x ρ S) N R = WS (whileD t x n ρ S) N R := by
  (try simp only [W_is, WS_is, WG_is]); exact s_while_0
theorem W_def {n : Nat} {fr : Bool} {x : DS} {ds : List D} : W (defD n fr x ds S) P = WS (x (ds ++ List.replicate (n - ds.length) .und) S) (fun _ S' => if fr = true then False else P .non S') P := by
  (try simp only [W_is, WS_is, WG_is]); exact W_def_0
theorem WS_for {g : DG} {x : DS} (I : List D → List D → Store → Prop)
    (hs : ∀ d ds ρ S, I (d :: ds) ρ S → WG (g d ρ) fun ρ1 => WS (x ρ1 S) (fun ρ' S' => I ds ρ' S') R)
    (h0 : ∀ ρ S, I [] ρ S → N ρ S) (ds : List D) (ρ : List D) (S : Store) (h : I ds ρ S) : WS (forD g x ds ρ S) N R := by
  rw [WS_is]
  exact WS_for_0 I (fun d ds ρ S h => by have q := hs d ds ρ S h; simp only [W_is, WS_is, WG_is] at q; exact q) h0 ds ρ S h
theorem WS_while {t : DT} {x : DS} (I : Nat → List D → Store → Prop)
    (hs : ∀ k ρ S, I k ρ S → W (t ρ S) fun b S' => if b = true then WS (x ρ S') (fun ρ' S2 => ∃ k', k' < k ∧ I k' ρ' S2) R else N ρ S')
    (n k : Nat) (ρ : List D) (S : Store) (hk : k < n) (h : I k ρ S) : WS (whileD t x n ρ S) N R := by
  rw [WS_is]
  exact WS_while_0 I (fun k ρ S h => by have q := hs k ρ S h; simp only [W_is, WS_is, WG_is] at q; exact q) n k ρ S hk h
theorem W_compD {g : DG} {t : DT} {f : DE} (I : List D → List D → Store → Prop)
    (hs : ∀ d ds acc S, I (d :: ds) acc S → WG (g d ρ) fun ρ1 => W (t ρ1 S) fun k S' => if k = true then W (f ρ1 S') fun y S2 => acc.length < sz ∧ I ds (acc ++ [y]) S2 else I ds acc S')
    (h0 : ∀ acc S, I [] acc S → L acc S) (ds acc : List D) (S : Store) (h : I ds acc S) : W (compD g t f ds acc ρ S) L := by
  rw [W_is]
  exact W_compD_0 I (fun d ds acc S h => by have q := hs d ds acc S h; simp only [W_is, WS_is, WG_is] at q; exact q) h0 ds acc S h
theorem comp_pure {γ : Type} {g : DG} {t : DT} {f : DE} (enc : γ → D) (p : γ → Bool) (out : γ → D) (xs : List γ)
    (h : ∀ x, x ∈ xs → WG (g (enc x) ρ) fun ρ1 => W (t ρ1 S) fun k S' => k = p x ∧ S' = S ∧ (p x = true → W (f ρ1 S) fun y S2 => y = out x ∧ S2 = S)) (hl : xs.length ≤ sz)
    (q : L ((xs.filter p).map out) S) : W (compD g t f (xs.map enc) [] ρ S) L := by
  rw [W_is]
  exact comp_pure_0 enc p out xs (fun x hx => by have q := h x hx; simp only [W_is, WS_is, WG_is] at q; exact q) hl q
end
end VS
namespace VS
open PySem PySem.Spec PyProof.Rows L2
section
variable {S : Store} {P : D → Store → Prop} {B : Bool → Store → Prop}
theorem W_retD_0 {d : D} : W0 (retD d S) P = P d S := rfl
theorem W_if_0 {c : Prop} [Decidable c] {m : M D} : W0 ((if c then m else badD) S) P = (c ∧ W0 (m S) P) := by
  split <;> rename_i h <;> simp [h, badD]
@[simp] theorem v_add_0 {i j : Int} : W0 (dAdd (.int i) (.int j) S) P = P (.int (i + j)) S := rfl
@[simp] theorem v_addb_0 {i : Int} {b : Bool} : W0 (dAdd (.int i) (.bl b) S) P = P (.int (i + if b then 1 else 0)) S := rfl
@[simp] theorem v_adds_0 {a b : List Nat} : W0 (dAdd (.str a) (.str b) S) P = (a.length + b.length ≤ sz ∧ P (.str (a ++ b)) S) := by
  show W0 (strD (a ++ b) S) P = _
  unfold strD; rw [W_if_0, W_retD_0, List.length_append]
@[simp] theorem v_addt_0 {a b : List D} : W0 (dAdd (.tup a) (.tup b) S) P = (a.length + b.length ≤ sz ∧ P (.tup (a ++ b)) S) := by
  show W0 (tupD (a ++ b) S) P = _
  unfold tupD; rw [W_if_0, W_retD_0, List.length_append]
@[simp] theorem v_iadd_0 {i j : Int} : W0 (dIAdd (.int i) (.int j) S) P = P (.int (i + j)) S := rfl
@[simp] theorem v_sub_0 {i j : Int} : W0 (dSub (.int i) (.int j) S) P = P (.int (i - j)) S := rfl
@[simp] theorem v_mul_0 {i j : Int} : W0 (dMul (.int i) (.int j) S) P = ((lim64 i || lim64 j) = true ∧ P (.int (i * j)) S) := W_if_0
@[simp] theorem v_fdiv_0 {i j : Int} : W0 (dFdiv (.int i) (.int j) S) P = ((0 < j ∧ j < 1073741824) ∧ P (.int (i / j)) S) := W_if_0
@[simp] theorem v_mod_0 {i j : Int} : W0 (dMod (.int i) (.int j) S) P = (0 < j ∧ P (.int (i % j)) S) := W_if_0
@[simp] theorem v_pow_0 {i j : Int} : W0 (dPow (.int i) (.int j) S) P = ((0 ≤ j ∧ j ≤ 1000000 ∧ i.natAbs < 2 ^ 64) ∧ P (.int (i ^ j.toNat)) S) := W_if_0
@[simp] theorem v_shl_0 {i j : Int} : W0 (dShl (.int i) (.int j) S) P = ((0 ≤ j ∧ j ≤ 1000000 ∧ i.natAbs < 2 ^ 64) ∧ P (.int (i * 2 ^ j.toNat)) S) := W_if_0
@[simp] theorem v_shr_0 {i j : Int} : W0 (dShr (.int i) (.int j) S) P = (0 ≤ j ∧ P (.int (i / 2 ^ j.toNat)) S) := W_if_0
@[simp] theorem v_or_0 {i j : Int} : W0 (dOr (.int i) (.int j) S) P = P (.int (Builtin.bitOr i j)) S := rfl
@[simp] theorem v_and_0 {i j : Int} : W0 (dAnd (.int i) (.int j) S) P = P (.int (Builtin.bitAnd i j)) S := rfl
@[simp] theorem v_neg_0 {i : Int} : W0 (dNeg (.int i) S) P = P (.int (-i)) S := rfl
@[simp] theorem v_fadd_0 {a b : List D} : W0 (fAdd (.lst a) (.lst b) S) P = (a.length + b.length ≤ sz ∧ P (.lst (a ++ b)) S) := by
  show W0 (lstD (a ++ b) S) P = _
  unfold lstD; rw [W_if_0, W_retD_0, List.length_append]
@[simp] theorem v_fmul_0 {a : List D} {j : Int} : W0 (fMul (.lst a) (.int j) S) P = ((-(2 ^ 63) ≤ j ∧ j < 2 ^ 63 ∧ a.length * j.toNat ≤ sz) ∧ P (.lst (List.replicate j.toNat a).flatten) S) := W_if_0
@[simp] theorem v_eq_0 {d e : D} : W0 (dEq d e S) P = ((okq d && okq e) = true ∧ P (.bl (eqb d e)) S) := W_if_0
@[simp] theorem v_ne_0 {d e : D} : W0 (dNe d e S) P = ((okq d && okq e) = true ∧ P (.bl (!eqb d e)) S) := W_if_0
@[simp] theorem v_cmp_0 {p : Int → Int → Bool} {i j : Int} : W0 (dCmp p (.int i) (.int j) S) P = P (.bl (p i j)) S := rfl
@[simp] theorem v_in_0 {d e : D} : W0 (dIn d e S) P = WG0 (inB d e) fun b => P (.bl b) S := by unfold dIn; cases inB d e <;> rfl
@[simp] theorem v_notin_0 {d e : D} : W0 (dNotIn d e S) P = WG0 (inB d e) fun b => P (.bl (!b)) S := by unfold dNotIn; cases inB d e <;> rfl
@[simp] theorem v_tru_0 {d : D} : W0 (dTru d S) B = WG0 (truB d) fun b => B b S := by unfold dTru; cases truB d <;> rfl
@[simp] theorem v_ixl_0 {ds : List D} {i : Int} : W0 (dIx (.lst ds) (.int i) S) P = WG0 (atI ds i) fun d => P d S := by
  show W0 ((match atI ds i with | some d => retD d | none => badD) S) P = _
  cases atI ds i <;> rfl
@[simp] theorem v_ixt_0 {ds : List D} {i : Int} : W0 (dIx (.tup ds) (.int i) S) P = WG0 (atI ds i) fun d => P d S := by
  show W0 ((match atI ds i with | some d => retD d | none => badD) S) P = _
  cases atI ds i <;> rfl
@[simp] theorem v_ixs_0 {s : List Nat} {i : Int} : W0 (dIx (.str s) (.int i) S) P = WG0 (atI s i) fun x => P (.str [x]) S := by
  show W0 ((match atI s i with | some x => retD (.str [x]) | none => badD) S) P = _
  cases atI s i <;> rfl
@[simp] theorem v_slS_0 {s : List Nat} {lo hi : Option Int} : W0 (dSl (.str s) lo hi S) P = P (.str (cut s lo hi)) S := rfl
@[simp] theorem v_slT_0 {s : List D} {lo hi : Option Int} : W0 (dSl (.tup s) lo hi S) P = P (.tup (cut s lo hi)) S := rfl
@[simp] theorem v_slL_0 {s : List D} {lo hi : Option Int} : W0 (fSl (.lst s) lo hi S) P = P (.lst (cut s lo hi)) S := rfl
@[simp] theorem v_slC_0 {s : List D} {lo hi : Option Int} : W0 (fSl (.scr s) lo hi S) P = P (.lst (cut s lo hi)) S := rfl
@[simp] theorem v_lenL_0 {s : List D} : W0 (dLen (.lst s) S) P = P (.int s.length) S := rfl
@[simp] theorem v_lenT_0 {s : List D} : W0 (dLen (.tup s) S) P = P (.int s.length) S := rfl
@[simp] theorem v_lenS_0 {s : List Nat} : W0 (dLen (.str s) S) P = P (.int s.length) S := rfl
@[simp] theorem v_all_0 {ds : List D} : W0 (dAll (.lst ds) S) P = WG0 (bools ds) fun bs => P (.bl (bs.all id)) S := by
  show W0 ((match bools ds with | some bs => retD (.bl (bs.all id)) | none => badD) S) P = _
  cases bools ds <;> rfl
@[simp] theorem v_any_0 {ds : List D} : W0 (dAny (.lst ds) S) P = WG0 (bools ds) fun bs => P (.bl (bs.any id)) S := by
  show W0 ((match bools ds with | some bs => retD (.bl (bs.any id)) | none => badD) S) P = _
  cases bools ds <;> rfl
@[simp] theorem v_int_0 {i : Int} : W0 (dInt (.int i) S) P = P (.int i) S := rfl
@[simp] theorem v_intb_0 {b : Bool} : W0 (dInt (.bl b) S) P = P (.int (if b then 1 else 0)) S := rfl
@[simp] theorem v_tupL_0 {ds : List D} : W0 (dTuple (.lst ds) S) P = P (.tup ds) S := rfl
@[simp] theorem v_tupT_0 {ds : List D} : W0 (dTuple (.tup ds) S) P = P (.tup ds) S := rfl
@[simp] theorem v_lstL_0 {ds : List D} : W0 (fList (.lst ds) S) P = P (.lst ds) S := rfl
@[simp] theorem v_lstT_0 {ds : List D} : W0 (fList (.tup ds) S) P = P (.lst ds) S := rfl
@[simp] theorem v_lstC_0 {ds : List D} : W0 (fList (.scr ds) S) P = P (.lst ds) S := rfl
@[simp] theorem v_min2_0 {i j : Int} : W0 (dMin2 (.int i) (.int j) S) P = P (.int (if j < i then j else i)) S := rfl
@[simp] theorem v_max2_0 {i j : Int} : W0 (dMax2 (.int i) (.int j) S) P = P (.int (if j > i then j else i)) S := rfl
@[simp] theorem v_join_0 {a : List Nat} {ds : List D} : W0 (dJoin a (.lst ds) S) P = WG0 (txts ds) fun ss => sumL ss + ss.length * a.length ≤ 16777216 ∧ P (.str (TL.joinL a ss)) S := by
  show W0 ((match txts ds with | some ss => if sumL ss + ss.length * a.length ≤ 16777216 then retD (.str (TL.joinL a ss)) else badD | none => badD) S) P = _
  cases txts ds with
  | none => rfl
  | some ss => exact W_if_0
@[simp] theorem v_split_0 {a b : List Nat} : W0 (fSplit a (.str b) S) P = ((b ≠ [] ∧ (a.length + 2 ≤ 16777216 ∧ b.all (fun x => decide (x < 256)) = true)) ∧ P (.lst ((TL.spl b 0 [] a).map .str)) S) := by
  unfold fSplit; exact W_if_0
@[simp] theorem v_tabIx_0 {kvs : List (Str × Flat2)} {s : List Nat} : W0 (tabIx kvs (.str s) S) P = WG0 (kvs.lookup ⟨s.toArray⟩) fun f => P (ofFD f) S := by
  show W0 ((match List.lookup (⟨s.toArray⟩ : Str) kvs with | some f => retD (ofFD f) | none => badD) S) P = _
  cases List.lookup (⟨s.toArray⟩ : Str) kvs <;> rfl
@[simp] theorem v_tabIn_0 {b : Bool} {kvs : List (Str × Flat2)} {s : List Nat} : W0 (tabIn b kvs (.str s) S) P = P (.bl (xor b (kvs.lookup ⟨s.toArray⟩).isSome)) S := rfl
@[simp] theorem g_app_0 {l : List D} {d : D} {Q : List D → Prop} : WG0 (gApp l [d]) Q = (l.length < sz ∧ Q (l ++ [d])) := by
  show WG0 (if l.length < sz then some (l ++ [d]) else none) Q = _
  split <;> rename_i h <;> simp [h]
@[simp] theorem g_ext_0 {l ds : List D} {Q : List D → Prop} : WG0 (gExt l [.lst ds]) Q = (l.length + ds.length ≤ sz ∧ Q (l ++ ds)) := by
  show WG0 (if l.length + ds.length ≤ sz then some (l ++ ds) else none) Q = _
  split <;> rename_i h <;> simp [h]
@[simp] theorem g_ins_0 {l : List D} {i : Int} {d : D} {Q : List D → Prop} : WG0 (gIns l [.int i, d]) Q = ((l.length < sz ∧ 0 ≤ i ∧ i < 2 ^ 63) ∧ Q (l.take i.toNat ++ [d] ++ l.drop i.toNat)) := by
  show WG0 (if l.length < sz ∧ 0 ≤ i ∧ i < 2 ^ 63 then some (l.take i.toNat ++ [d] ++ l.drop i.toNat) else none) Q = _
  by_cases h : l.length < sz ∧ 0 ≤ i ∧ i < 2 ^ 63
  · rw [if_pos h]; simp only [h, WG_some]; simp
  · rw [if_neg h]; simp only [h, WG_none]; simp
@[simp] theorem dset_l_0 {l : List D} {k : Int} {v : D} {Q : D → Prop} : WG0 (dSet (.lst l) (.int k) v) Q = WG0 (ixN l.length k) fun j => Q (.lst (l.set j v)) := by
  show WG0 (match ixN l.length k with | some j => some (.lst (l.set j v)) | none => none) Q = _
  cases ixN l.length k <;> rfl
theorem szv : sz = 16777216 := rfl
theorem isi_val_0 {t : String} {d : D} {u : String} {b : Bool} (h : tyName d = some u) (k : kitB u t = some b) : W0 (dIsi t d S) P = P (.bl b) S := by
  unfold dIsi; rw [h]
  show W0 ((match kitB u t with | some b => retD (.bl b) | none => badD) S) P = _
  rw [k]; rfl
@[simp] theorem isi_LL_0 {l : List D} : W0 (dIsi "list" (.lst l) S) P = P (.bl true) S := isi_val_0 rfl (by decide +kernel)
@[simp] theorem isi_LT_0 {l : List D} : W0 (dIsi "list" (.tup l) S) P = P (.bl false) S := isi_val_0 rfl (by decide +kernel)
@[simp] theorem isi_LS_0 {l : List Nat} : W0 (dIsi "list" (.str l) S) P = P (.bl false) S := isi_val_0 rfl (by decide +kernel)
@[simp] theorem isi_LI_0 {l : Int} : W0 (dIsi "list" (.int l) S) P = P (.bl false) S := isi_val_0 rfl (by decide +kernel)
@[simp] theorem isi_LB_0 {l : Bool} : W0 (dIsi "list" (.bl l) S) P = P (.bl false) S := isi_val_0 rfl (by decide +kernel)
@[simp] theorem isi_LN_0 : W0 (dIsi "list" .non S) P = P (.bl false) S := isi_val_0 rfl (by decide +kernel)
@[simp] theorem isi_TL_0 {l : List D} : W0 (dIsi "tuple" (.lst l) S) P = P (.bl false) S := isi_val_0 rfl (by decide +kernel)
@[simp] theorem isi_TT_0 {l : List D} : W0 (dIsi "tuple" (.tup l) S) P = P (.bl true) S := isi_val_0 rfl (by decide +kernel)
@[simp] theorem isi_TS_0 {l : List Nat} : W0 (dIsi "tuple" (.str l) S) P = P (.bl false) S := isi_val_0 rfl (by decide +kernel)
@[simp] theorem isi_TI_0 {l : Int} : W0 (dIsi "tuple" (.int l) S) P = P (.bl false) S := isi_val_0 rfl (by decide +kernel)
@[simp] theorem isi_TB_0 {l : Bool} : W0 (dIsi "tuple" (.bl l) S) P = P (.bl false) S := isi_val_0 rfl (by decide +kernel)
@[simp] theorem isi_TN_0 : W0 (dIsi "tuple" .non S) P = P (.bl false) S := isi_val_0 rfl (by decide +kernel)
@[simp] theorem isi_BS_0 {l : List Nat} : W0 (dIsi "bool" (.str l) S) P = P (.bl false) S := isi_val_0 rfl (by decide +kernel)
@[simp] theorem isi_BI_0 {l : Int} : W0 (dIsi "bool" (.int l) S) P = P (.bl false) S := isi_val_0 rfl (by decide +kernel)
@[simp] theorem isi_BB_0 {l : Bool} : W0 (dIsi "bool" (.bl l) S) P = P (.bl true) S := isi_val_0 rfl (by decide +kernel)
@[simp] theorem isi_IS_0 {l : List Nat} : W0 (dIsi "int" (.str l) S) P = P (.bl false) S := isi_val_0 rfl (by decide +kernel)
@[simp] theorem isi_II_0 {l : Int} : W0 (dIsi "int" (.int l) S) P = P (.bl true) S := isi_val_0 rfl (by decide +kernel)
@[simp] theorem isi_IB_0 {l : Bool} : W0 (dIsi "int" (.bl l) S) P = P (.bl true) S := isi_val_0 rfl (by decide +kernel)
@[simp] theorem isi_SS_0 {l : List Nat} : W0 (dIsi "str" (.str l) S) P = P (.bl true) S := isi_val_0 rfl (by decide +kernel)
@[simp] theorem isi_SI_0 {l : Int} : W0 (dIsi "str" (.int l) S) P = P (.bl false) S := isi_val_0 rfl (by decide +kernel)
@[simp] theorem isi_SB_0 {l : Bool} : W0 (dIsi "str" (.bl l) S) P = P (.bl false) S := isi_val_0 rfl (by decide +kernel)
@[simp] theorem v_isn_0 {d : D} (h : d ≠ .und) : W0 (dIsN d .non S) P = P (.bl (isNon d)) S := by cases d <;> first | exact absurd rfl h | rfl
@[simp] theorem v_notn_0 {d : D} (h : d ≠ .und) : W0 (dNotN d .non S) P = P (.bl (!isNon d)) S := by cases d <;> first | exact absurd rfl h | rfl
@[simp] theorem isNon_non : isNon .non = true := rfl
@[simp] theorem isNon_i {i : Int} : isNon (.int i) = false := rfl
@[simp] theorem isNon_s {i : List Nat} : isNon (.str i) = false := rfl
@[simp] theorem isNon_b {i : Bool} : isNon (.bl i) = false := rfl
@[simp] theorem isNon_t {i : List D} : isNon (.tup i) = false := rfl
@[simp] theorem isNon_l {i : List D} : isNon (.lst i) = false := rfl
end
section
variable {S : Store} {P : D → Store → Prop} {B : Bool → Store → Prop}
@[simp] theorem v_add {i j : Int} : W (dAdd (.int i) (.int j) S) P = P (.int (i + j)) S := by
  simp only [W_is, WS_is, WG_is]; exact v_add_0
@[simp] theorem v_addb {i : Int} {b : Bool} : W (dAdd (.int i) (.bl b) S) P = P (.int (i + if b then 1 else 0)) S := by
  simp only [W_is, WS_is, WG_is]; exact v_addb_0
@[simp] theorem v_adds {a b : List Nat} : W (dAdd (.str a) (.str b) S) P = (a.length + b.length ≤ sz ∧ P (.str (a ++ b)) S) := by
  simp only [W_is, WS_is, WG_is]; exact v_adds_0
@[simp] theorem v_addt {a b : List D} : W (dAdd (.tup a) (.tup b) S) P = (a.length + b.length ≤ sz ∧ P (.tup (a ++ b)) S) := by
  simp only [W_is, WS_is, WG_is]; exact v_addt_0
@[simp] theorem v_iadd {i j : Int} : W (dIAdd (.int i) (.int j) S) P = P (.int (i + j)) S := by
  simp only [W_is, WS_is, WG_is]; exact v_iadd_0
@[simp] theorem v_sub {i j : Int} : W (dSub (.int i) (.int j) S) P = P (.int (i - j)) S := by
  simp only [W_is, WS_is, WG_is]; exact v_sub_0
@[simp] theorem v_mul {i j : Int} : W (dMul (.int i) (.int j) S) P = ((lim64 i || lim64 j) = true ∧ P (.int (i * j)) S) := by
  simp only [W_is, WS_is, WG_is]; exact v_mul_0
@[simp] theorem v_fdiv {i j : Int} : W (dFdiv (.int i) (.int j) S) P = ((0 < j ∧ j < 1073741824) ∧ P (.int (i / j)) S) := by
  simp only [W_is, WS_is, WG_is]; exact v_fdiv_0
@[simp] theorem v_mod {i j : Int} : W (dMod (.int i) (.int j) S) P = (0 < j ∧ P (.int (i % j)) S) := by
  simp only [W_is, WS_is, WG_is]; exact v_mod_0
@[simp] theorem v_pow {i j : Int} : W (dPow (.int i) (.int j) S) P = ((0 ≤ j ∧ j ≤ 1000000 ∧ i.natAbs < 2 ^ 64) ∧ P (.int (i ^ j.toNat)) S) := by
  simp only [W_is, WS_is, WG_is]; exact v_pow_0
@[simp] theorem v_shl {i j : Int} : W (dShl (.int i) (.int j) S) P = ((0 ≤ j ∧ j ≤ 1000000 ∧ i.natAbs < 2 ^ 64) ∧ P (.int (i * 2 ^ j.toNat)) S) := by
  simp only [W_is, WS_is, WG_is]; exact v_shl_0
@[simp] theorem v_shr {i j : Int} : W (dShr (.int i) (.int j) S) P = (0 ≤ j ∧ P (.int (i / 2 ^ j.toNat)) S) := by
  simp only [W_is, WS_is, WG_is]; exact v_shr_0
@[simp] theorem v_or {i j : Int} : W (dOr (.int i) (.int j) S) P = P (.int (Builtin.bitOr i j)) S := by
  simp only [W_is, WS_is, WG_is]; exact v_or_0
@[simp] theorem v_and {i j : Int} : W (dAnd (.int i) (.int j) S) P = P (.int (Builtin.bitAnd i j)) S := by
  simp only [W_is, WS_is, WG_is]; exact v_and_0
@[simp] theorem v_neg {i : Int} : W (dNeg (.int i) S) P = P (.int (-i)) S := by
  simp only [W_is, WS_is, WG_is]; exact v_neg_0
@[simp] theorem v_fadd {a b : List D} : W (fAdd (.lst a) (.lst b) S) P = (a.length + b.length ≤ sz ∧ P (.lst (a ++ b)) S) := by
  simp only [W_is, WS_is, WG_is]; exact v_fadd_0
@[simp] theorem v_fmul {a : List D} {j : Int} : W (fMul (.lst a) (.int j) S) P = ((-(2 ^ 63) ≤ j ∧ j < 2 ^ 63 ∧ a.length * j.toNat ≤ sz) ∧ P (.lst (List.replicate j.toNat a).flatten) S) := by
  simp only [W_is, WS_is, WG_is]; exact v_fmul_0
@[simp] theorem v_eq {d e : D} : W (dEq d e S) P = ((okq d && okq e) = true ∧ P (.bl (eqb d e)) S) := by
  simp only [W_is, WS_is, WG_is]; exact v_eq_0
@[simp] theorem v_ne {d e : D} : W (dNe d e S) P = ((okq d && okq e) = true ∧ P (.bl (!eqb d e)) S) := by
  simp only [W_is, WS_is, WG_is]; exact v_ne_0
@[simp] theorem v_cmp {p : Int → Int → Bool} {i j : Int} : W (dCmp p (.int i) (.int j) S) P = P (.bl (p i j)) S := by
  simp only [W_is, WS_is, WG_is]; exact v_cmp_0
@[simp] theorem v_in {d e : D} : W (dIn d e S) P = WG (inB d e) fun b => P (.bl b) S := by
  simp only [W_is, WS_is, WG_is]; exact v_in_0
@[simp] theorem v_notin {d e : D} : W (dNotIn d e S) P = WG (inB d e) fun b => P (.bl (!b)) S := by
  simp only [W_is, WS_is, WG_is]; exact v_notin_0
@[simp] theorem v_tru {d : D} : W (dTru d S) B = WG (truB d) fun b => B b S := by
  simp only [W_is, WS_is, WG_is]; exact v_tru_0
@[simp] theorem v_ixl {ds : List D} {i : Int} : W (dIx (.lst ds) (.int i) S) P = WG (atI ds i) fun d => P d S := by
  simp only [W_is, WS_is, WG_is]; exact v_ixl_0
@[simp] theorem v_ixt {ds : List D} {i : Int} : W (dIx (.tup ds) (.int i) S) P = WG (atI ds i) fun d => P d S := by
  simp only [W_is, WS_is, WG_is]; exact v_ixt_0
@[simp] theorem v_ixs {s : List Nat} {i : Int} : W (dIx (.str s) (.int i) S) P = WG (atI s i) fun x => P (.str [x]) S := by
  simp only [W_is, WS_is, WG_is]; exact v_ixs_0
@[simp] theorem v_slS {s : List Nat} {lo hi : Option Int} : W (dSl (.str s) lo hi S) P = P (.str (cut s lo hi)) S := by
  simp only [W_is, WS_is, WG_is]; exact v_slS_0
@[simp] theorem v_slT {s : List D} {lo hi : Option Int} : W (dSl (.tup s) lo hi S) P = P (.tup (cut s lo hi)) S := by
  simp only [W_is, WS_is, WG_is]; exact v_slT_0
@[simp] theorem v_slL {s : List D} {lo hi : Option Int} : W (fSl (.lst s) lo hi S) P = P (.lst (cut s lo hi)) S := by
  simp only [W_is, WS_is, WG_is]; exact v_slL_0
@[simp] theorem v_slC {s : List D} {lo hi : Option Int} : W (fSl (.scr s) lo hi S) P = P (.lst (cut s lo hi)) S := by
  simp only [W_is, WS_is, WG_is]; exact v_slC_0
@[simp] theorem v_lenL {s : List D} : W (dLen (.lst s) S) P = P (.int s.length) S := by
  simp only [W_is, WS_is, WG_is]; exact v_lenL_0
@[simp] theorem v_lenT {s : List D} : W (dLen (.tup s) S) P = P (.int s.length) S := by
  simp only [W_is, WS_is, WG_is]; exact v_lenT_0
@[simp] theorem v_lenS {s : List Nat} : W (dLen (.str s) S) P = P (.int s.length) S := by
  simp only [W_is, WS_is, WG_is]; exact v_lenS_0
@[simp] theorem v_all {ds : List D} : W (dAll (.lst ds) S) P = WG (bools ds) fun bs => P (.bl (bs.all id)) S := by
  simp only [W_is, WS_is, WG_is]; exact v_all_0
@[simp] theorem v_any {ds : List D} : W (dAny (.lst ds) S) P = WG (bools ds) fun bs => P (.bl (bs.any id)) S := by
  simp only [W_is, WS_is, WG_is]; exact v_any_0
@[simp] theorem v_int {i : Int} : W (dInt (.int i) S) P = P (.int i) S := by
  simp only [W_is, WS_is, WG_is]; exact v_int_0
@[simp] theorem v_intb {b : Bool} : W (dInt (.bl b) S) P = P (.int (if b then 1 else 0)) S := by
  simp only [W_is, WS_is, WG_is]; exact v_intb_0
@[simp] theorem v_tupL {ds : List D} : W (dTuple (.lst ds) S) P = P (.tup ds) S := by
  simp only [W_is, WS_is, WG_is]; exact v_tupL_0
@[simp] theorem v_tupT {ds : List D} : W (dTuple (.tup ds) S) P = P (.tup ds) S := by
  simp only [W_is, WS_is, WG_is]; exact v_tupT_0
@[simp] theorem v_lstL {ds : List D} : W (fList (.lst ds) S) P = P (.lst ds) S := by
  simp only [W_is, WS_is, WG_is]; exact v_lstL_0
@[simp] theorem v_lstT {ds : List D} : W (fList (.tup ds) S) P = P (.lst ds) S := by
  simp only [W_is, WS_is, WG_is]; exact v_lstT_0
@[simp] theorem v_lstC {ds : List D} : W (fList (.scr ds) S) P = P (.lst ds) S := by
  simp only [W_is, WS_is, WG_is]; exact v_lstC_0
@[simp] theorem v_min2 {i j : Int} : W (dMin2 (.int i) (.int j) S) P = P (.int (if j < i then j else i)) S := by
  simp only [W_is, WS_is, WG_is]; exact v_min2_0
@[simp] theorem v_max2 {i j : Int} : W (dMax2 (.int i) (.int j) S) P = P (.int (if j > i then j else i)) S := by
  simp only [W_is, WS_is, WG_is]; exact v_max2_0
@[simp] theorem v_join {a : List Nat} {ds : List D} : W (dJoin a (.lst ds) S) P = WG (txts ds) fun ss => sumL ss + ss.length * a.length ≤ 16777216 ∧ P (.str (TL.joinL a ss)) S := by
  simp only [W_is, WS_is, WG_is]; exact v_join_0
@[simp] theorem v_split {a b : List Nat} : W (fSplit a (.str b) S) P = ((b ≠ [] ∧ (a.length + 2 ≤ 16777216 ∧ b.all (fun x => decide (x < 256)) = true)) ∧ P (.lst ((TL.spl b 0 [] a).map .str)) S) := by
  simp only [W_is, WS_is, WG_is]; exact v_split_0
@[simp] theorem v_tabIx {kvs : List (Str × Flat2)} {s : List Nat} : W (tabIx kvs (.str s) S) P = WG (kvs.lookup ⟨s.toArray⟩) fun f => P (ofFD f) S := by
  simp only [W_is, WS_is, WG_is]; exact v_tabIx_0
@[simp] theorem v_tabIn {b : Bool} {kvs : List (Str × Flat2)} {s : List Nat} : W (tabIn b kvs (.str s) S) P = P (.bl (xor b (kvs.lookup ⟨s.toArray⟩).isSome)) S := by
  simp only [W_is, WS_is, WG_is]; exact v_tabIn_0
@[simp] theorem g_app {l : List D} {d : D} {Q : List D → Prop} : WG (gApp l [d]) Q = (l.length < sz ∧ Q (l ++ [d])) := by
  simp only [W_is, WS_is, WG_is]; exact g_app_0
@[simp] theorem g_ext {l ds : List D} {Q : List D → Prop} : WG (gExt l [.lst ds]) Q = (l.length + ds.length ≤ sz ∧ Q (l ++ ds)) := by
  simp only [W_is, WS_is, WG_is]; exact g_ext_0
@[simp] theorem g_ins {l : List D} {i : Int} {d : D} {Q : List D → Prop} : WG (gIns l [.int i, d]) Q = ((l.length < sz ∧ 0 ≤ i ∧ i < 2 ^ 63) ∧ Q (l.take i.toNat ++ [d] ++ l.drop i.toNat)) := by
  simp only [W_is, WS_is, WG_is]; exact g_ins_0
@[simp] theorem dset_l {l : List D} {k : Int} {v : D} {Q : D → Prop} : WG (dSet (.lst l) (.int k) v) Q = WG (ixN l.length k) fun j => Q (.lst (l.set j v)) := by
  simp only [W_is, WS_is, WG_is]; exact dset_l_0
@[simp] theorem isi_LL {l : List D} : W (dIsi "list" (.lst l) S) P = P (.bl true) S := by
  simp only [W_is, WS_is, WG_is]; exact isi_LL_0
@[simp] theorem isi_LT {l : List D} : W (dIsi "list" (.tup l) S) P = P (.bl false) S := by
  simp only [W_is, WS_is, WG_is]; exact isi_LT_0
@[simp] theorem isi_LS {l : List Nat} : W (dIsi "list" (.str l) S) P = P (.bl false) S := by
  simp only [W_is, WS_is, WG_is]; exact isi_LS_0
@[simp] theorem isi_LI {l : Int} : W (dIsi "list" (.int l) S) P = P (.bl false) S := by
  simp only [W_is, WS_is, WG_is]; exact isi_LI_0
@[simp] theorem isi_LB {l : Bool} : W (dIsi "list" (.bl l) S) P = P (.bl false) S := by
  simp only [W_is, WS_is, WG_is]; exact isi_LB_0
@[simp] theorem isi_LN : W (dIsi "list" .non S) P = P (.bl false) S := by
  simp only [W_is, WS_is, WG_is]; exact isi_LN_0
@[simp] theorem isi_TL {l : List D} : W (dIsi "tuple" (.lst l) S) P = P (.bl false) S := by
  simp only [W_is, WS_is, WG_is]; exact isi_TL_0
@[simp] theorem isi_TT {l : List D} : W (dIsi "tuple" (.tup l) S) P = P (.bl true) S := by
  simp only [W_is, WS_is, WG_is]; exact isi_TT_0
@[simp] theorem isi_TS {l : List Nat} : W (dIsi "tuple" (.str l) S) P = P (.bl false) S := by
  simp only [W_is, WS_is, WG_is]; exact isi_TS_0
@[simp] theorem isi_TI {l : Int} : W (dIsi "tuple" (.int l) S) P = P (.bl false) S := by
  simp only [W_is, WS_is, WG_is]; exact isi_TI_0
@[simp] theorem isi_TB {l : Bool} : W (dIsi "tuple" (.bl l) S) P = P (.bl false) S := by
  simp only [W_is, WS_is, WG_is]; exact isi_TB_0
@[simp] theorem isi_TN : W (dIsi "tuple" .non S) P = P (.bl false) S := by
  simp only [W_is, WS_is, WG_is]; exact isi_TN_0
@[simp] theorem isi_BS {l : List Nat} : W (dIsi "bool" (.str l) S) P = P (.bl false) S := by
  simp only [W_is, WS_is, WG_is]; exact isi_BS_0
@[simp] theorem isi_BI {l : Int} : W (dIsi "bool" (.int l) S) P = P (.bl false) S := by
  simp only [W_is, WS_is, WG_is]; exact isi_BI_0
@[simp] theorem isi_BB {l : Bool} : W (dIsi "bool" (.bl l) S) P = P (.bl true) S := by
  simp only [W_is, WS_is, WG_is]; exact isi_BB_0
@[simp] theorem isi_IS {l : List Nat} : W (dIsi "int" (.str l) S) P = P (.bl false) S := by
  simp only [W_is, WS_is, WG_is]; exact isi_IS_0
@[simp] theorem isi_II {l : Int} : W (dIsi "int" (.int l) S) P = P (.bl true) S := by
  simp only [W_is, WS_is, WG_is]; exact isi_II_0
@[simp] theorem isi_IB {l : Bool} : W (dIsi "int" (.bl l) S) P = P (.bl true) S := by
  simp only [W_is, WS_is, WG_is]; exact isi_IB_0
@[simp] theorem isi_SS {l : List Nat} : W (dIsi "str" (.str l) S) P = P (.bl true) S := by
  simp only [W_is, WS_is, WG_is]; exact isi_SS_0
@[simp] theorem isi_SI {l : Int} : W (dIsi "str" (.int l) S) P = P (.bl false) S := by
  simp only [W_is, WS_is, WG_is]; exact isi_SI_0
@[simp] theorem isi_SB {l : Bool} : W (dIsi "str" (.bl l) S) P = P (.bl false) S := by
  simp only [W_is, WS_is, WG_is]; exact isi_SB_0
@[simp] theorem v_isn {d : D} (h : d ≠ .und) : W (dIsN d .non S) P = P (.bl (isNon d)) S := by
  simp only [W_is, WS_is, WG_is]; exact v_isn_0 h
@[simp] theorem v_notn {d : D} (h : d ≠ .und) : W (dNotN d .non S) P = P (.bl (!isNon d)) S := by
  simp only [W_is, WS_is, WG_is]; exact v_notn_0 h
end
@[simp] theorem bools_map {α : Type} (xs : List α) (f : α → Bool) : bools (xs.map fun x => .bl (f x)) = some (xs.map f) := by
  induction xs with
  | nil => rfl
  | cons x xs ih => simp only [List.map_cons, bools, ih]
@[simp] theorem txts_map {α : Type} (xs : List α) (f : α → List Nat) : txts (xs.map fun x => .str (f x)) = some (xs.map f) := by
  induction xs with
  | nil => rfl
  | cons x xs ih => simp only [List.map_cons, txts, ih]
@[simp] theorem txts_map' (xs : List (List Nat)) : txts (xs.map .str) = some xs := by
  have := txts_map xs id
  simpa using this
@[simp] theorem intsD_map {α : Type} (xs : List α) (f : α → Int) : intsD (xs.map fun x => .int (f x)) = some (xs.map f) := by
  induction xs with
  | nil => rfl
  | cons x xs ih => simp only [List.map_cons, intsD, ih]
@[simp] theorem intsD_map' (xs : List Int) : intsD (xs.map .int) = some xs := by
  have := intsD_map xs id
  simpa using this
@[simp] theorem okq_s {s : List Nat} : okq (.str s) = true := rfl
@[simp] theorem okq_i {s : Int} : okq (.int s) = true := rfl
@[simp] theorem okq_b {s : Bool} : okq (.bl s) = true := rfl
@[simp] theorem okq_n : okq .non = true := rfl
theorem plainL_of {ds : List D} (h : ∀ d ∈ ds, d.plain = true) : plainL ds = true := by
  induction ds with
  | nil => rfl
  | cons d ds ih => simp only [plainL, Bool.and_eq_true]; exact ⟨h d (List.mem_cons_self ..), ih fun e he => h e (List.mem_cons_of_mem _ he)⟩
theorem depL_of {ds : List D} {n : Nat} (h : ∀ d ∈ ds, d.dep ≤ n) : depL ds ≤ n := by
  induction ds with
  | nil => exact Nat.zero_le _
  | cons d ds ih => simp only [depL]; exact Nat.max_le.mpr ⟨h d (List.mem_cons_self ..), ih fun e he => h e (List.mem_cons_of_mem _ he)⟩
theorem okq_lst {ds : List D} (h : ∀ d ∈ ds, d.plain = true ∧ d.dep ≤ 63) : okq (.lst ds) = true := by
  have h1 : plainL ds = true := plainL_of fun d hd => (h d hd).1
  have h2 : depL ds ≤ 63 := depL_of fun d hd => (h d hd).2
  simp [okq, D.plain, D.dep, h1]; omega
theorem okq_tup {ds : List D} (h : ∀ d ∈ ds, d.plain = true ∧ d.dep ≤ 63) : okq (.tup ds) = true := by
  have h1 : plainL ds = true := plainL_of fun d hd => (h d hd).1
  have h2 : depL ds ≤ 63 := depL_of fun d hd => (h d hd).2
  simp [okq, D.plain, D.dep, h1]; omega
@[simp] theorem okq_strs {ss : List (List Nat)} : okq (.lst (ss.map .str)) = true := okq_lst fun d hd => by
  obtain ⟨s, _, rfl⟩ := List.mem_map.mp hd; exact ⟨rfl, Nat.zero_le _⟩
@[simp] theorem okq_nil : okq (.lst []) = true := rfl
@[simp] theorem okq_nilT : okq (.tup []) = true := rfl
@[simp] theorem eqb_s {a b : List Nat} : eqb (.str a) (.str b) = (a == b) := rfl
@[simp] theorem eqb_i {a b : Int} : eqb (.int a) (.int b) = (a == b) := rfl
@[simp] theorem eqb_b {a b : Bool} : eqb (.bl a) (.bl b) = (a == b) := rfl
theorem inB_strs (n : List Nat) (xs : List (List Nat)) : inB (.str n) (.lst (xs.map .str)) = some (decide (n ∈ xs)) := by
  have h : inB (.str n) (.lst (xs.map .str)) = if okq (.str n) && okq (.lst (xs.map .str)) then some ((xs.map D.str).any fun y => eqb y (.str n)) else none := by
    match n with
    | [] => rfl
    | [_] => rfl
    | _ :: _ :: _ => rfl
  rw [h]
  simp only [okq_s, okq_strs, Bool.and_self, if_true, List.any_map, Option.some.injEq]
  rw [Bool.eq_iff_iff, List.any_eq_true, decide_eq_true_iff]
  simp [Function.comp]
theorem inB_strsT (n : List Nat) (xs : List (List Nat)) : inB (.str n) (.tup (xs.map .str)) = some (decide (n ∈ xs)) := by
  have h : inB (.str n) (.tup (xs.map .str)) = if D.flat (.str n) && (xs.map D.str).all D.flat then some ((xs.map D.str).any fun y => eqb y (.str n)) else none := by
    match n with
    | [] => rfl
    | [_] => rfl
    | _ :: _ :: _ => rfl
  have h2 : (xs.map D.str).all D.flat = true := by rw [List.all_map]; exact List.all_eq_true.mpr fun _ _ => rfl
  rw [h, h2]
  simp only [D.flat, Bool.and_self, if_true, List.any_map, Option.some.injEq]
  rw [Bool.eq_iff_iff, List.any_eq_true, decide_eq_true_iff]
  simp [Function.comp]
theorem inB_intsL (n : Int) (xs : List Int) : inB (.int n) (.lst (xs.map .int)) = some (decide (n ∈ xs)) := by
  have h : inB (.int n) (.lst (xs.map .int)) = if okq (.int n) && okq (.lst (xs.map .int)) then some ((xs.map D.int).any fun y => eqb y (.int n)) else none := rfl
  have h2 : okq (.lst (xs.map .int)) = true := okq_lst fun d hd => by
    obtain ⟨s, _, rfl⟩ := List.mem_map.mp hd; exact ⟨rfl, Nat.zero_le _⟩
  rw [h, h2]
  simp only [okq_i, Bool.and_self, if_true, List.any_map, Option.some.injEq]
  rw [Bool.eq_iff_iff, List.any_eq_true, decide_eq_true_iff]
  simp [Function.comp]
theorem eqb_lst_nil {ds : List D} : eqb (.lst ds) (.lst []) = ds.isEmpty := by cases ds <;> rfl
theorem atI_nat {α : Type} {xs : List α} {i : Int} (h0 : 0 ≤ i) : atI xs i = xs[i.toNat]? := by
  unfold atI ixN
  rw [if_pos h0]
  split
  · rfl
  · rename_i h
    rw [List.getElem?_eq_none (by omega)]; rfl
@[simp] theorem atI_0 {α : Type} {x : α} {xs : List α} : atI (x :: xs) 0 = some x := by rw [atI_nat (by omega)]; rfl
@[simp] theorem atI_1 {α : Type} {x y : α} {xs : List α} : atI (x :: y :: xs) 1 = some y := by rw [atI_nat (by omega)]; rfl
@[simp] theorem atI_2 {α : Type} {x y z : α} {xs : List α} : atI (x :: y :: z :: xs) 2 = some z := by rw [atI_nat (by omega)]; rfl
@[simp] theorem atI_3 {α : Type} {x y z u : α} {xs : List α} : atI (x :: y :: z :: u :: xs) 3 = some u := by rw [atI_nat (by omega)]; rfl
theorem atI_some {α : Type} {xs : List α} {i : Int} (h0 : 0 ≤ i) (h1 : i < xs.length) : ∃ x, atI xs i = some x ∧ x ∈ xs := by
  rw [atI_nat h0]
  have h : i.toNat < xs.length := by omega
  exact ⟨xs[i.toNat], List.getElem?_eq_getElem h, List.getElem_mem h⟩
theorem atI_map {α β : Type} {xs : List α} {f : α → β} {i : Int} : atI (xs.map f) i = (atI xs i).map f := by
  unfold atI
  rw [List.length_map]
  cases ixN xs.length i <;> simp
theorem cut_from {α : Type} {xs : List α} {i : Int} (h : 0 ≤ i) : cut xs (some i) none = xs.drop i.toNat := by
  unfold cut HT.sIx
  simp only [show ¬ i < 0 by omega, if_false]
  rcases Nat.le_total i.toNat xs.length with h1 | h1
  · rw [Nat.min_eq_left h1, List.take_of_length_le (by rw [List.length_drop]; exact Nat.le_refl _)]
  · rw [Nat.min_eq_right h1, Nat.sub_self, List.take_zero, List.drop_eq_nil_of_le h1]
theorem cut_to {α : Type} {xs : List α} {i : Int} (h : 0 ≤ i) : cut xs none (some i) = xs.take i.toNat := by
  unfold cut HT.sIx
  simp only [show ¬ i < 0 by omega, if_false, List.drop_zero, Nat.sub_zero]
  rcases Nat.le_total i.toNat xs.length with h1 | h1
  · rw [Nat.min_eq_left h1]
  · rw [Nat.min_eq_right h1, List.take_of_length_le h1, List.take_of_length_le (Nat.le_refl _)]
theorem cut_both {α : Type} {xs : List α} {i j : Int} (h : 0 ≤ i) (h2 : 0 ≤ j) : cut xs (some i) (some j) = (xs.drop i.toNat).take (j.toNat - i.toNat) := by
  unfold cut HT.sIx
  simp only [show ¬ i < 0 by omega, show ¬ j < 0 by omega, if_false]
  rcases Nat.le_total i.toNat xs.length with h1 | h1
  · rw [Nat.min_eq_left h1]
    rcases Nat.le_total j.toNat xs.length with h3 | h3
    · rw [Nat.min_eq_left h3]
    · rw [Nat.min_eq_right h3, List.take_of_length_le (by rw [List.length_drop]; exact Nat.le_refl _), List.take_of_length_le (by rw [List.length_drop]; omega)]
  · rw [Nat.min_eq_right h1, List.drop_eq_nil_of_le (Nat.le_refl _), List.drop_eq_nil_of_le h1, List.take_nil, List.take_nil]
theorem cut_last {α : Type} {xs : List α} {n : Nat} : cut xs (some (-((n : Int) + 1))) none = xs.drop (xs.length - (n + 1)) := by
  unfold cut HT.sIx
  simp only [show (-((n : Int) + 1)) < 0 by omega, if_true]
  rw [show (-((n : Int) + 1) + (xs.length : Int)).toNat = xs.length - (n + 1) by omega, List.take_of_length_le (by rw [List.length_drop]; exact Nat.le_refl _)]
theorem cut_map {α β : Type} {xs : List α} {f : α → β} {lo hi : Option Int} : cut (xs.map f) lo hi = (cut xs lo hi).map f := by
  unfold cut
  rw [List.length_map, List.map_take, List.map_drop]
end VS
namespace VS
open PySem PySem.Spec PyProof.Rows L2
abbrev T := List Nat
theorem comp_draw {γ : Type} {ρ : List D} {g : DG} {t : DT} {f : DE} {L : List D → Store → Prop} (I : Store → Prop) (out : γ → D) (P : γ → Prop) (ds : List D) (S : Store)
    (hs : ∀ d, d ∈ ds → ∀ S, I S → WG (g d ρ) fun ρ1 => W (t ρ1 S) fun k S' => k = true ∧ W (f ρ1 S') fun y S2 => ∃ c, y = out c ∧ P c ∧ I S2)
    (hS : I S) (hl : ds.length ≤ sz) (h : ∀ (cs : List γ) S', cs.length = ds.length → (∀ c ∈ cs, P c) → I S' → L (cs.map out) S') : W (compD g t f ds [] ρ S) L := by
  refine W_compD (fun rest acc S => ∃ (cs : List γ) (pre : List D), acc = cs.map out ∧ ds = pre ++ rest ∧ pre.length = cs.length ∧ (∀ c ∈ cs, P c) ∧ I S) ?_ ?_ ds [] S ⟨[], [], rfl, rfl, rfl, by simp, hS⟩
  · intro d rest acc S ⟨cs, pre, e1, e2, e3, e4, e5⟩
    refine (hs d (by rw [e2]; simp) S e5).mono fun ρ1 q => q.mono fun k S' ⟨hk, q⟩ => ?_
    rw [if_pos hk]
    refine q.mono fun y S2 ⟨c, hy, hc, hi⟩ => ⟨?_, cs ++ [c], pre ++ [d], ?_, ?_, ?_, ?_, hi⟩
    · rw [e1, List.length_map, ← e3]; rw [e2] at hl; simp at hl; omega
    · rw [e1, hy]; simp
    · rw [e2]; simp
    · simp [e3]
    · intro x hx
      rcases List.mem_append.mp hx with hx | hx
      · exact e4 x hx
      · rw [List.mem_singleton.mp hx]; exact hc
  · intro acc S ⟨cs, pre, e1, e2, e3, e4, e5⟩
    rw [e1]
    rw [List.append_nil] at e2
    exact h cs S (by rw [e2, e3]) e4 e5
theorem filter_all {α : Type} (xs : List α) : xs.filter (fun _ => true) = xs := List.filter_eq_self.mpr fun _ _ => rfl
theorem comp_each {γ : Type} {ρ : List D} {S : Store} {g : DG} {t : DT} {f : DE} {L : List D → Store → Prop} (enc : γ → D) (out : γ → D) (xs : List γ)
    (h : ∀ x, x ∈ xs → WG (g (enc x) ρ) fun ρ1 => W (t ρ1 S) fun k S' => k = true ∧ S' = S ∧ W (f ρ1 S) fun y S2 => y = out x ∧ S2 = S) (hl : xs.length ≤ sz)
    (q : L (xs.map out) S) : W (compD g t f (xs.map enc) [] ρ S) L := by
  refine comp_pure enc (fun _ => true) out xs (fun x hx => ?_) hl (by rw [filter_all]; exact q)
  exact (h x hx).mono fun ρ1 z => z.mono fun k S' ⟨a, b, c⟩ => ⟨a, b, fun _ => c⟩
def BoxD (d : D) : Prop := ∃ (cells : List Int) (pos rest seed : Int), d = .lst [.lst (cells.map .int), .int pos, .int rest, .int seed] ∧ 0 ≤ pos ∧ 0 ≤ seed ∧ seed < 2147483629
theorem joinL_nil : ∀ ss : List T, TL.joinL [] ss = ss.flatten
  | [] => rfl
  | [p] => by simp [TL.joinL]
  | p :: q :: r => by
    show p ++ ([] ++ TL.joinL [] (q :: r)) = _
    rw [joinL_nil (q :: r)]; simp
theorem flat_single {α β : Type} (xs : List α) (f : α → β) : (xs.map fun x => [f x]).flatten = xs.map f := by
  induction xs with
  | nil => rfl
  | cons x xs ih => simp [ih]
theorem sumL_single {α : Type} (xs : List α) (f : α → Nat) : sumL (xs.map fun x => [f x]) = xs.length := by
  unfold sumL
  induction xs with
  | nil => rfl
  | cons x xs ih => simp at ih ⊢; omega
def Fine : Nat → D → Prop
  | _, .non => True
  | _, .bl _ => True
  | _, .int _ => True
  | _, .str _ => True
  | n + 1, .tup ds => ds.length ≤ sz ∧ ∀ d ∈ ds, Fine n d
  | n + 1, .lst ds => ds.length ≤ sz ∧ ∀ d ∈ ds, Fine n d
  | _, _ => False
structure Th where
  kd : T
  nm : T
  bt : T
  pn : List T
  deriving DecidableEq
def Th.d (t : Th) : D := .tup [.str t.kd, .str t.nm, .str t.bt, .tup (t.pn.map .str)]
def netD (n : List Th) : D := .tup (n.map Th.d)
abbrev kIn : T := [105, 110]
abbrev kGate : T := [103, 97, 116, 101]
abbrev kReg : T := [114, 101, 103]
abbrev kOut : T := [111, 117, 116]
def NameOk (s : T) : Prop := s ≠ [] ∧ s.length ≤ 8 ∧ ∀ c ∈ s, 97 ≤ c ∧ c ≤ 122
def BitsOk (s : T) : Prop := ∀ c ∈ s, c = 48 ∨ c = 49
abbrev abc : T := [97, 98, 99, 100, 101, 102, 103, 104, 105, 106, 107, 108, 109, 110, 111, 112, 113, 114, 115, 116, 117, 118, 119, 120, 121, 122]
theorem abc_at {i : Int} (h0 : 0 ≤ i) (h1 : i < 26) : atI abc i = some (97 + i.toNat) := by
  rw [atI_nat h0]
  have h : i.toNat < 26 := by omega
  generalize i.toNat = n at h
  revert h; revert n; decide
theorem nodup_map {α β : Type} (f : α → β) : ∀ (xs : List α), xs.Nodup → (∀ x ∈ xs, ∀ y ∈ xs, f x = f y → x = y) → (xs.map f).Nodup
  | [], _, _ => List.nodup_nil
  | x :: xs, h, k => by
    rw [List.nodup_cons] at h
    rw [List.map_cons, List.nodup_cons]
    refine ⟨fun q => ?_, nodup_map f xs h.2 fun a ha b hb => k a (List.mem_cons_of_mem _ ha) b (List.mem_cons_of_mem _ hb)⟩
    obtain ⟨y, hy, e⟩ := List.mem_map.mp q
    rw [k y (List.mem_cons_of_mem _ hy) x (List.mem_cons_self ..) e] at hy
    exact h.1 hy
theorem map_erase {α β : Type} (f : α → β) (l : List α) (k : Nat) : (l.map f).eraseIdx k = (l.eraseIdx k).map f := by
  rw [List.eraseIdx_eq_take_drop_succ, List.eraseIdx_eq_take_drop_succ, List.map_append, List.map_take, List.map_drop]
theorem perm_erase {α : Type} {l : List α} {k : Nat} (h : k < l.length) : (l[k] :: l.eraseIdx k).Perm l := by
  rw [List.eraseIdx_eq_take_drop_succ]
  refine List.perm_middle.symm.trans (List.Perm.of_eq ?_)
  rw [← List.drop_eq_getElem_cons h, List.take_append_drop]
theorem perm_move {α : Type} {l : List α} {k m : Nat} (h : k < l.length) : ((l.eraseIdx k).take m ++ [l[k]] ++ (l.eraseIdx k).drop m).Perm l := by
  refine List.Perm.trans ?_ (perm_erase h)
  rw [List.append_assoc, List.singleton_append]
  refine List.perm_middle.trans ?_
  rw [List.take_append_drop]
end VS
namespace VS
open PySem PySem.Spec PyProof.Rows L2
section
variable {S : Store} {P : VS.D → Store → Prop} {L : List VS.D → Store → Prop} {ρ : List VS.D} {fo fe ff f1 f2 : DE}
@[simp] theorem p_get : W (eGet fo fe ff ρ S) P = W (fo ρ S) fun a S1 => match a with
    | .dic t kvs => W (fe ρ S1) fun d S2 => W (ff ρ S2) fun e S3 => W (dGetD (.dic t kvs) d e S3) P
    | _ => False := by
  unfold eGet; simp only [W_bind]; congr 1; funext a S1
  cases a <;> (try simp only [W_bind]) <;> (try simp only [W_bad])
@[simp] theorem p_tabGet {kvs : List (Str × Flat2)} : W (eTabGet kvs fe ff ρ S) P = W (fe ρ S) fun d S1 => W (ff ρ S1) fun e S2 => W (tabGet kvs d e S2) P := by
  unfold eTabGet; simp only [W_bind]
@[simp] theorem p_zips : W (iZipS f1 f2 ρ S) L = W (f1 ρ S) fun d S' => W (f2 ρ S') fun e S2 => WG (iterB d) fun as => WG (iterB e) fun bs => as.length = bs.length ∧ L (zipL as bs) S2 := by
  unfold iZipS; simp only [W_bind]; congr 1; funext d S'; congr 1; funext e S2; unfold dIter
  cases iterB d with
  | none => simp
  | some as =>
    cases iterB e with
    | none => simp
    | some bs =>
      simp only [W_ok, WG_some]
      by_cases h : as.length = bs.length
      · rw [if_pos h]; simp [h]
      · rw [if_neg h]; simp [h]
@[simp] theorem g_exL {l ds : List VS.D} {Q : List VS.D → Prop} : WG (gExT l [.lst ds]) Q = (l.length + ds.length ≤ sz ∧ Q (l ++ ds)) := by
  show WG (if l.length + ds.length ≤ sz then some (l ++ ds) else none) Q = _
  split <;> rename_i h <;> simp [h]
@[simp] theorem g_exT {l ds : List VS.D} {Q : List VS.D → Prop} : WG (gExT l [.tup ds]) Q = (l.length + ds.length ≤ sz ∧ Q (l ++ ds)) := by
  show WG (if l.length + ds.length ≤ sz then some (l ++ ds) else none) Q = _
  split <;> rename_i h <;> simp [h]
@[simp] theorem v_strs {s : List Nat} : W (dStr (.str s) S) P = P (.str s) S := W_ok
@[simp] theorem v_rstrip {a b : List Nat} : W (dRstrip a (.str b) S) P = (((Txt.rstripChars ⟨a.toArray⟩ ⟨b.toArray⟩).cps.toList.length ≤ sz ∧ (Txt.rstripChars ⟨a.toArray⟩ ⟨b.toArray⟩).cps.toList.all (fun y => decide (y < 1114112)) = true) ∧ P (.str (Txt.rstripChars ⟨a.toArray⟩ ⟨b.toArray⟩).cps.toList) S) := by
  simp only [W_is]; unfold dRstrip; exact W_if_0
@[simp] theorem atI_4 {α : Type} {a b c d e : α} {xs : List α} : atI (a :: b :: c :: d :: e :: xs) 4 = some e := by rw [atI_nat (by omega)]; rfl
@[simp] theorem atI_5 {α : Type} {a b c d e f : α} {xs : List α} : atI (a :: b :: c :: d :: e :: f :: xs) 5 = some f := by rw [atI_nat (by omega)]; rfl
@[simp] theorem atI_6 {α : Type} {a b c d e f g : α} {xs : List α} : atI (a :: b :: c :: d :: e :: f :: g :: xs) 6 = some g := by rw [atI_nat (by omega)]; rfl
end
end VS
namespace VS
open PySem PySem.Spec PyProof.Rows L2
def By (tl S : Store) : Prop := ∃ d, S = d :: tl ∧ BoxD d
theorem enumL_map {α : Type} (f : α → VS.D) : ∀ (xs : List α) (k : Nat), enumL k (xs.map f) = (xs.zipIdx k).map fun p => .tup [.int p.2, f p.1]
  | [], k => rfl
  | x :: xs, k => by
    show .tup [.int k, f x] :: enumL (k + 1) (xs.map f) = _
    rw [enumL_map f xs (k + 1)]; rfl
end VS
namespace VS
open PySem PySem.Spec PyProof.Rows L2
section
variable {ρ : List VS.D} {S : Store} {B : Bool → Store → Prop} {N : List VS.D → Store → Prop} {R : VS.D → Store → Prop} {t : DT} {g : DG} {i : DI}
@[simp] theorem p_tlend : W (tLend t ρ S) B = W (t ρ S) fun b _ => B b S := by
  simp only [W_is]
  unfold tLend
  cases t ρ S <;> rfl
@[simp] theorem s_forT : WS (sForT i g t ρ S) N R = W (i ρ S) fun ds S' => WG (testD g t ds ρ S') fun ρ' => N ρ' S' := by
  simp only [W_is, WS_is, WG_is]
  unfold sForT
  cases i ρ S with
  | ok ds S' =>
    show WS0 (toNx S' (testD g t ds ρ S')) N R = WG0 (testD g t ds ρ S') _
    cases testD g t ds ρ S' <;> rfl
  | exc x S' => rfl
  | bad => rfl
end
def dedI (ns : List Int) : List Int := ns.foldl (fun acc i => if i ∈ acc then acc else acc ++ [i]) []
def keyI (i : Int) : DK × VS.D := (.inl (.inl i), .bl true)
theorem ded_fold : ∀ (ns acc : List Int), acc.Nodup → (ns.foldl (fun acc i => if i ∈ acc then acc else acc ++ [i]) acc).Nodup ∧ (∀ x, x ∈ ns.foldl (fun acc i => if i ∈ acc then acc else acc ++ [i]) acc ↔ x ∈ acc ∨ x ∈ ns) ∧ (ns.foldl (fun acc i => if i ∈ acc then acc else acc ++ [i]) acc).length ≤ acc.length + ns.length
  | [], acc, h => by simp [h]
  | n :: ns, acc, h => by
    rw [List.foldl_cons]
    by_cases hn : n ∈ acc
    · rw [if_pos hn]
      obtain ⟨a, b, c⟩ := ded_fold ns acc h
      refine ⟨a, fun x => ?_, by simp; omega⟩
      rw [b x, List.mem_cons]
      constructor
      · rintro (q | q)
        · exact .inl q
        · exact .inr (.inr q)
      · rintro (q | q | q)
        · exact .inl q
        · exact .inl (by rw [q]; exact hn)
        · exact .inr q
    · rw [if_neg hn]
      have h2 : (acc ++ [n]).Nodup := List.nodup_append.mpr ⟨h, by simp, fun a ha b hb e => by
        rw [List.mem_singleton.mp hb] at e; exact hn (e ▸ ha)⟩
      obtain ⟨a, b, c⟩ := ded_fold ns (acc ++ [n]) h2
      refine ⟨a, fun x => ?_, by simp at c ⊢; omega⟩
      rw [b x, List.mem_append, List.mem_singleton, List.mem_cons, or_assoc]
theorem put_keyI {is : List Int} {i : Int} : putD (is.map keyI) (.inl (.inl i)) (.bl true) = (if i ∈ is then is else is ++ [i]).map keyI := by
  unfold putD
  have e : ((is.map keyI).any fun p => decide (p.1 = (.inl (.inl i) : DK))) = decide (i ∈ is) := by
    rw [List.any_map, Bool.eq_iff_iff, List.any_eq_true, decide_eq_true_iff]
    constructor
    · rintro ⟨x, hx, q⟩
      have q := of_decide_eq_true q
      have q : (Sum.inl (Sum.inl x) : DK) = .inl (.inl i) := q
      cases q; exact hx
    · intro h
      exact ⟨i, h, decide_eq_true rfl⟩
  rw [e]
  by_cases h : i ∈ is
  · rw [if_pos (by simpa using h), if_pos h, List.map_map]
    refine List.map_congr_left fun x _ => ?_
    show (if (keyI x).1 = _ then ((keyI x).1, _) else keyI x) = keyI x
    split <;> rfl
  · rw [if_neg (by simpa using h), if_neg h, List.map_append]; rfl
theorem put_fold : ∀ (ns acc : List Int), ns.foldl (fun m i => putD m (.inl (.inl i)) (.bl true)) (acc.map keyI) = (ns.foldl (fun acc i => if i ∈ acc then acc else acc ++ [i]) acc).map keyI
  | [], acc => rfl
  | n :: ns, acc => by
    rw [List.foldl_cons, put_keyI, put_fold ns, List.foldl_cons]
theorem pairsD_ints : ∀ ns : List Int, pairsD (ns.map fun i => .tup [.int i, .bl true]) = some (ns.map keyI)
  | [] => rfl
  | n :: ns => by
    show (match flatK (VS.D.int n), pairsD (ns.map fun i => .tup [.int i, .bl true]) with | some k, some r => some (((Sum.inl k : DK), VS.D.bl true) :: r) | _, _ => none) = _
    rw [pairsD_ints ns]
    rfl
theorem dictI_ok {ns : List Int} {S : Store} {P : VS.D → Store → Prop} : W (fDict (.lst (ns.map fun i => .tup [.int i, .bl true])) S) P = P (.dic false ((dedI ns).map keyI)) S := by
  have e : fDict (.lst (ns.map fun i => .tup [.int i, .bl true])) S = .ok (.dic false ((dedI ns).map keyI)) S := by
    unfold fDict
    dsimp only
    rw [pairsD_ints]
    dsimp only
    have := put_fold ns []
    rw [List.map_nil] at this
    unfold dedI
    rw [← this, List.foldl_map]
    rfl
  rw [e]
  exact W_ok
theorem keysI_map : ∀ is : List Int, keysI (is.map keyI) = some is
  | [] => rfl
  | i :: is => by
    show (match keysI (is.map keyI) with | some is => some (i :: is) | none => none) = _
    rw [keysI_map is]
theorem sortI_ded (ns : List Int) : sortI (dedI ns) = setI ns := by
  obtain ⟨a, b, c⟩ := ded_fold ns [] (by simp)
  have nd : (sortI (dedI ns)).Nodup := (sortI_perm _).nodup_iff.mpr a
  refine strict_unique ?_ up_setI fun k => ?_
  · have h1 := sortI_up (dedI ns)
    have h2 : (sortI (dedI ns)).Pairwise (· ≠ ·) := nd
    exact (h1.and h2).imp fun q => by omega
  · rw [(sortI_perm _).mem_iff, mem_setI]
    have := b k
    simp at this
    exact this
theorem sorted2_ok {ns : List Int} (hl : ns.length < 64) {S : Store} {P : VS.D → Store → Prop} : W (fSorted2 (.dic false ((dedI ns).map keyI)) S) P = P (.lst ((setI ns).map .int)) S := by
  have e : fSorted2 (.dic false ((dedI ns).map keyI)) S = .ok (.lst ((setI ns).map .int)) S := by
    unfold fSorted2
    dsimp only
    rw [keysI_map]
    dsimp only
    have hl2 : (dedI ns).length < 64 := by
      have := (ded_fold ns [] (by simp)).2.2
      simp at this
      unfold dedI; omega
    rw [if_pos hl2, sortI_ded]
    rfl
  rw [e]
  exact W_ok
theorem sortSet_ok {ns : List Int} (hl : ns.length < 64) {S : Store} {P : VS.D → Store → Prop} : W (fSortSet (.lst (ns.map .int)) S) P = P (.lst ((setI ns).map .int)) S := by
  have e : fSortSet (.lst (ns.map .int)) S = .ok (.lst ((setI ns).map .int)) S := by
    unfold fSortSet onInts
    dsimp only
    rw [intsD_map]
    simp only [List.map_id']
    rw [if_pos hl]
    rfl
  rw [e]
  exact W_ok
theorem setI_len {ns : List Int} : (setI ns).length ≤ ns.length := by
  induction ns with
  | nil => exact Nat.le_refl _
  | cons n ns ih =>
    have key : ∀ (k : Int) (l : List Int), (insU k l).length ≤ l.length + 1 := by
      intro k l
      induction l with
      | nil => simp [insU]
      | cons x r ih => unfold insU; split <;> (try split) <;> simp <;> omega
    have := key n (setI ns)
    show (insU n (setI ns)).length ≤ _
    simp; omega
theorem isiB_val {t u k : String} {d : VS.D} {b : Bool} {S : Store} {P : VS.D → Store → Prop} (h : tyName d = some k) (q : kitB2 k t u = some b) : W (dIsiB t u d S) P = P (.bl b) S := by
  have e : dIsiB t u d S = .ok (.bl b) S := by unfold dIsiB; rw [h]; dsimp only; rw [q]; rfl
  rw [e]; exact W_ok
@[simp] theorem isiB_T {l : List VS.D} {S : Store} {P : VS.D → Store → Prop} : W (dIsiB "list" "tuple" (.tup l) S) P = P (.bl true) S := isiB_val rfl (by decide +kernel)
@[simp] theorem isiB_L {l : List VS.D} {S : Store} {P : VS.D → Store → Prop} : W (dIsiB "list" "tuple" (.lst l) S) P = P (.bl true) S := isiB_val rfl (by decide +kernel)
@[simp] theorem thx0 {t : Th} {S : Store} {P : VS.D → Store → Prop} : W (dIx t.d (.int 0) S) P = P (.str t.kd) S := by unfold Th.d; simp
@[simp] theorem thx1 {t : Th} {S : Store} {P : VS.D → Store → Prop} : W (dIx t.d (.int 1) S) P = P (.str t.nm) S := by unfold Th.d; simp
@[simp] theorem thx2 {t : Th} {S : Store} {P : VS.D → Store → Prop} : W (dIx t.d (.int 2) S) P = P (.str t.bt) S := by unfold Th.d; simp
@[simp] theorem thx3 {t : Th} {S : Store} {P : VS.D → Store → Prop} : W (dIx t.d (.int 3) S) P = P (.tup (t.pn.map .str)) S := by unfold Th.d; simp
@[simp] theorem thund {t : Th} : (t.d = VS.D.und) = False := by unfold Th.d; simp
@[simp] theorem okq_ints {ns : List Int} : okq (.lst (ns.map .int)) = true := okq_lst fun d hd => by
  obtain ⟨s, _, rfl⟩ := List.mem_map.mp hd; exact ⟨rfl, Nat.zero_le _⟩
end VS
namespace VS
open PySem PySem.Spec PyProof.Rows L2
theorem bAnd_nn (a b : Nat) : Builtin.bitAnd (a : Int) (b : Int) = ((a &&& b : Nat) : Int) := by
  unfold Builtin.bitAnd
  rw [decide_eq_true (Int.natCast_nonneg a), decide_eq_true (Int.natCast_nonneg b)]
  simp
theorem bitNot_neg (a : Nat) : ¬ (0 : Int) ≤ Builtin.bitNot (a : Int) := by unfold Builtin.bitNot; omega
theorem bitNot_not (a : Int) : Builtin.bitNot (Builtin.bitNot a) = a := by unfold Builtin.bitNot; omega
theorem bOr_nn (a b : Nat) : Builtin.bitOr (a : Int) (b : Int) = ((a ||| b : Nat) : Int) := by
  unfold Builtin.bitOr Builtin.bitAnd
  rw [decide_eq_false (bitNot_neg a), decide_eq_false (bitNot_neg b)]
  simp only [bitNot_not]
  simp
theorem bAnd_nnot (a b : Nat) : Builtin.bitAnd (a : Int) (Builtin.bitNot (b : Int)) = ((a - (a &&& b) : Nat) : Int) := by
  unfold Builtin.bitAnd
  rw [decide_eq_true (Int.natCast_nonneg a), decide_eq_false (bitNot_neg b)]
  simp only [bitNot_not]
  have : a &&& b ≤ a := Nat.and_le_left
  simp
  omega
theorem and_some {a b : Nat} : (a &&& b) ≠ 0 ↔ ∃ k, a.testBit k = true ∧ b.testBit k = true := by
  constructor
  · intro h
    obtain ⟨k, hk⟩ := Nat.exists_testBit_of_ne_zero h
    rw [Nat.testBit_and, Bool.and_eq_true] at hk
    exact ⟨k, hk⟩
  · rintro ⟨k, h1, h2⟩ e
    have : (a &&& b).testBit k = true := by rw [Nat.testBit_and, h1, h2]; rfl
    rw [e] at this
    simp at this
theorem sub_some {a b : Nat} : (a - (a &&& b)) ≠ 0 ↔ ∃ k, a.testBit k = true ∧ b.testBit k = false := by
  have hle : a &&& b ≤ a := Nat.and_le_left
  constructor
  · intro h
    refine Classical.byContradiction fun hn => h ?_
    have e : a &&& b = a := by
      refine Nat.eq_of_testBit_eq fun k => ?_
      rw [Nat.testBit_and]
      cases h1 : a.testBit k with
      | false => rfl
      | true =>
        cases h2 : b.testBit k with
        | true => rfl
        | false => exact (hn ⟨k, h1, h2⟩).elim
    rw [e, Nat.sub_self]
  · rintro ⟨k, h1, h2⟩ e
    have e : a &&& b = a := by omega
    have : (a &&& b).testBit k = true := by rw [e]; exact h1
    rw [Nat.testBit_and, h1, h2] at this
    cases this
def maskN (ms : List Nat) : Nat := ms.foldl (fun a m => a ||| 2 ^ m) 0
theorem mask_fold (k : Nat) : ∀ (ms : List Nat) (a : Nat), (ms.foldl (fun a m => a ||| 2 ^ m) a).testBit k = (a.testBit k || decide (k ∈ ms))
  | [], a => by simp
  | m :: ms, a => by
    rw [List.foldl_cons, mask_fold k ms, Nat.testBit_or, Nat.testBit_two_pow]
    by_cases h : m = k
    · subst h; simp
    · have h2 : ¬ k = m := fun e => h e.symm
      simp [h, h2]
theorem maskN_test {ms : List Nat} {k : Nat} : (maskN ms).testBit k = decide (k ∈ ms) := by
  unfold maskN
  rw [mask_fold]; simp
theorem mask_sum : ∀ (ms : List Nat) (a b : Nat), a < 2 ^ b → ms.Pairwise (· < ·) → (∀ m ∈ ms, b ≤ m) → ms.foldl (fun a m => a ||| 2 ^ m) a = a + (ms.map (2 ^ ·)).sum
  | [], a, b, _, _, _ => by simp
  | m :: ms, a, b, h, hp, hb => by
    rw [List.pairwise_cons] at hp
    have h1 : a < 2 ^ m := Nat.lt_of_lt_of_le h (Nat.pow_le_pow_right (by omega) (hb m (by simp)))
    have h2 : a ||| 2 ^ m = 2 ^ m + a := by
      have q := Nat.two_pow_add_eq_or_of_lt h1 1
      rw [Nat.mul_one] at q
      rw [q, Nat.or_comm]
    rw [List.foldl_cons, h2, mask_sum ms (2 ^ m + a) (m + 1) (by rw [Nat.pow_succ]; omega) hp.2 fun x hx => hp.1 x hx]
    rw [List.map_cons, List.sum_cons]; omega
theorem maskN_sum {ms : List Nat} (h : ms.Pairwise (· < ·)) : (ms.map (2 ^ ·)).sum = maskN ms := by
  unfold maskN
  rw [mask_sum ms 0 0 (by simp) h fun _ _ => Nat.zero_le _]; simp
theorem minI_ok : ∀ {ns : List Int}, ns ≠ [] → minI ns ∈ ns ∧ ∀ x ∈ ns, minI ns ≤ x
  | [], h => absurd rfl h
  | [a], _ => ⟨by simp [minI], fun x hx => by simp at hx; subst hx; exact Int.le_refl _⟩
  | a :: b :: r, _ => by
    obtain ⟨h1, h2⟩ := minI_ok (ns := b :: r) (by simp)
    have e : minI (a :: b :: r) = if minI (b :: r) < a then minI (b :: r) else a := rfl
    rw [e]
    split
    · rename_i hc
      refine ⟨List.mem_cons_of_mem _ h1, fun x hx => ?_⟩
      rcases List.mem_cons.mp hx with hx | hx
      · subst hx; omega
      · exact h2 x hx
    · rename_i hc
      refine ⟨List.mem_cons_self .., fun x hx => ?_⟩
      rcases List.mem_cons.mp hx with hx | hx
      · subst hx; omega
      · have := h2 x hx; omega
theorem maxI_ok : ∀ {ns : List Int}, ns ≠ [] → maxI ns ∈ ns ∧ ∀ x ∈ ns, x ≤ maxI ns
  | [], h => absurd rfl h
  | [a], _ => ⟨by simp [maxI], fun x hx => by simp at hx; subst hx; exact Int.le_refl _⟩
  | a :: b :: r, _ => by
    obtain ⟨h1, h2⟩ := maxI_ok (ns := b :: r) (by simp)
    have e : maxI (a :: b :: r) = if maxI (b :: r) > a then maxI (b :: r) else a := rfl
    rw [e]
    split
    · rename_i hc
      refine ⟨List.mem_cons_of_mem _ h1, fun x hx => ?_⟩
      rcases List.mem_cons.mp hx with hx | hx
      · subst hx; omega
      · exact h2 x hx
    · rename_i hc
      refine ⟨List.mem_cons_self .., fun x hx => ?_⟩
      rcases List.mem_cons.mp hx with hx | hx
      · subst hx; omega
      · have := h2 x hx; omega
structure PlOk (n : Nat) (P : List Int) : Prop where
  rng : ∀ a ∈ P, -1 ≤ a ∧ a < n
  all : ∀ k : Nat, k < n → (k : Int) ∈ P
  one : P.Pairwise fun a b => a = b → a < 0
def wh (P : List Int) (m : Int) : Int := (P.idxOf m : Nat)
theorem PlOk.uniq {n : Nat} {P : List Int} (h : PlOk n P) {j : Nat} {m : Int} (hm : 0 ≤ m) (hj : P[j]? = some m) : P.idxOf m = j := by
  obtain ⟨hl, e⟩ := List.getElem?_eq_some_iff.mp hj
  have hi : m ∈ P := e ▸ List.getElem_mem hl
  have hil := List.idxOf_lt_length_of_mem hi
  have e2 : P[P.idxOf m] = m := List.getElem_idxOf hil
  have q := List.pairwise_iff_getElem.mp h.one
  rcases Nat.lt_trichotomy (P.idxOf m) j with c | c | c
  · have := q _ _ hil hl c (by rw [e2, e]); rw [e2] at this; omega
  · exact c
  · have := q _ _ hl hil c (by rw [e2, e]); rw [e] at this; omega
theorem PlOk.at {n : Nat} {P : List Int} (h : PlOk n P) {m : Int} (h0 : 0 ≤ m) (h1 : m < n) : P.idxOf m < P.length ∧ P[P.idxOf m]? = some m := by
  have hi : m ∈ P := by
    have := h.all m.toNat (by omega)
    rwa [Int.toNat_of_nonneg h0] at this
  have hil := List.idxOf_lt_length_of_mem hi
  exact ⟨hil, by rw [List.getElem?_eq_getElem hil, List.getElem_idxOf hil]⟩
structure MemOk (n : Nat) (ms : List Int) : Prop where
  ne : ms ≠ []
  up : ms.Pairwise (· < ·)
  rng : ∀ m ∈ ms, 0 ≤ m ∧ m < n
def spanD (P : List Int) (p : T × List Int) : T × Int × Int := (p.1, minI (p.2.map (wh P)), maxI (p.2.map (wh P)))
def onS (P : List Int) (ms : List Int) (s : Nat) : Bool := decide (minI (ms.map (wh P)) ≤ (s : Int) ∧ (s : Int) ≤ maxI (ms.map (wh P)))
def pre (P : List Int) (s : Nat) : List Nat := ((P.take s).filter fun a => decide (0 ≤ a)).map Int.toNat
theorem mem_pre {n : Nat} {P : List Int} (h : PlOk n P) {m : Int} (h0 : 0 ≤ m) (h1 : m < n) {s : Nat} : m.toNat ∈ pre P s ↔ wh P m < s := by
  obtain ⟨a1, a2⟩ := h.at h0 h1
  unfold pre wh
  rw [List.mem_map]
  constructor
  · rintro ⟨a, ha, e⟩
    obtain ⟨ha, hp⟩ := List.mem_filter.mp ha
    have hp := of_decide_eq_true hp
    have e : a = m := by omega
    subst e
    obtain ⟨j, hj⟩ := List.mem_iff_getElem?.mp ha
    rw [List.getElem?_take] at hj
    split at hj
    · rename_i hjs
      rw [h.uniq h0 hj]; omega
    · cases hj
  · intro hs
    have hs : P.idxOf m < s := by omega
    refine ⟨m, List.mem_filter.mpr ⟨?_, decide_eq_true h0⟩, rfl⟩
    refine List.mem_iff_getElem?.mpr ⟨P.idxOf m, ?_⟩
    rw [List.getElem?_take, if_pos hs]; exact a2
theorem on_slot {n : Nat} {P : List Int} (h : PlOk n P) {ms : List Int} (hm : MemOk n ms) {s : Nat} :
    (decide ((maskN (ms.map Int.toNat) &&& maskN (pre P (s + 1))) ≠ 0) && decide ((maskN (ms.map Int.toNat) - (maskN (ms.map Int.toNat) &&& maskN (pre P s))) ≠ 0)) = onS P ms s := by
  have hne : ms.map (wh P) ≠ [] := by simpa using hm.ne
  obtain ⟨i1, i2⟩ := minI_ok hne
  obtain ⟨j1, j2⟩ := maxI_ok hne
  unfold onS
  rw [Bool.eq_iff_iff, Bool.and_eq_true, decide_eq_true_iff, decide_eq_true_iff, decide_eq_true_iff, and_some, sub_some]
  simp only [maskN_test, decide_eq_true_eq, decide_eq_false_iff_not]
  refine and_congr ⟨?_, ?_⟩ ⟨?_, ?_⟩
  · rintro ⟨k, hk, hp⟩
    obtain ⟨m, hm1, rfl⟩ := List.mem_map.mp hk
    obtain ⟨r0, r1⟩ := hm.rng m hm1
    have := (mem_pre h r0 r1).mp hp
    have := i2 _ (List.mem_map.mpr ⟨m, hm1, rfl⟩)
    omega
  · intro hle
    obtain ⟨m, hm1, e⟩ := List.mem_map.mp i1
    obtain ⟨r0, r1⟩ := hm.rng m hm1
    exact ⟨m.toNat, List.mem_map.mpr ⟨m, hm1, rfl⟩, (mem_pre h r0 r1).mpr (by omega)⟩
  · rintro ⟨k, hk, hp⟩
    obtain ⟨m, hm1, rfl⟩ := List.mem_map.mp hk
    obtain ⟨r0, r1⟩ := hm.rng m hm1
    have q : ¬ wh P m < s := fun z => hp ((mem_pre (s := s) h r0 r1).mpr z)
    have := j2 _ (List.mem_map.mpr ⟨m, hm1, rfl⟩)
    omega
  · intro hle
    obtain ⟨m, hm1, e⟩ := List.mem_map.mp j1
    obtain ⟨r0, r1⟩ := hm.rng m hm1
    exact ⟨m.toNat, List.mem_map.mpr ⟨m, hm1, rfl⟩, fun z => by have := (mem_pre (s := s) h r0 r1).mp z; omega⟩
def onB (s : Int) (q : T × Int × Int) : Bool := decide (q.2.1 ≤ s ∧ s ≤ q.2.2)
def loadAt (sp : List (T × Int × Int)) (s : Int) : Int := ((sp.filter (onB s)).length : Nat)
end VS
namespace VS
open PySem PySem.Spec PyProof.Rows L2
section
variable {S : Store} {P : VS.D → Store → Prop} {B : Bool → Store → Prop} {ρ : List VS.D} {N : List VS.D → Store → Prop} {R : VS.D → Store → Prop}
@[simp] theorem px_len {ds : List VS.D} : W (dLen (.tix ds) S) P = P (.int ds.length) S := W_ok
@[simp] theorem px_iter {ds : List VS.D} : iterB (.tix ds) = some ds := rfl
@[simp] theorem px_ix {ds : List VS.D} {i : Int} : W (dIx (.tix ds) (.int i) S) P = WG (atI ds i) fun d => P d S := by
  have e : dIx (.tix ds) (.int i) = match atI ds i with | some d => retD d | none => badD := rfl
  rw [e]
  cases atI ds i with
  | none => rw [WG_none]; exact W_bad
  | some d => rw [WG_some]; exact W_ok
@[simp] theorem px_tix {ds : List VS.D} : W (dTix (.lst ds) S) P = P (.tix ds) S := W_ok
@[simp] theorem px_inv {i : Int} : W (dInv (.int i) S) P = P (.int (Builtin.bitNot i)) S := W_ok
@[simp] theorem px_tixAt {fo fe : DE} : W (eTixAt fo fe ρ S) P = W (fo ρ S) fun d S1 => match d with
    | .tix ds => W (fe ρ S1) fun k S2 => W (dTixAt (.tix ds) k S2) P
    | _ => False := by
  unfold eTixAt; simp only [W_bind]; congr 1; funext d S1
  cases d <;> (try simp only [W_bind]) <;> (try simp only [W_bad])
@[simp] theorem s_mutX {fo : DE} {fs : DA} {g : List VS.D → List VS.D → Option (List VS.D)} : WS (sMutX fo g fs ρ S) N R = W (fo ρ S) fun d S1 => match d with
    | .ref n => WG S1[n]? fun c => match c with
      | .lst _ => W (fs ρ S1) fun ds S2 => WG S2[n]? fun c2 => match c2 with
        | .lst l => WG (g l ds) fun l' => N ρ (S2.set n (.lst l'))
        | _ => False
      | _ => False
    | _ => False := by
  simp only [W_is, WS_is, WG_is]
  unfold sMutX
  rw [WS_lift_0]; congr 1; funext d S1
  cases d with
  | ref n =>
    dsimp only
    cases S1[n]? with
    | none => rfl
    | some c =>
      cases c with
      | lst l0 =>
        dsimp only
        rw [WS_lift_0, WG_some_0]
        dsimp only
        congr 1; funext ds S2
        cases S2[n]? with
        | none => rfl
        | some c2 =>
          rw [WG_some_0]
          cases c2 with
          | lst l => dsimp only; cases g l ds <;> rfl
          | _ => rfl
      | _ => rfl
  | _ => rfl
@[simp] theorem g_clr {l : List VS.D} {Q : List VS.D → Prop} : WG (gClr l []) Q = Q [] := WG_some
theorem atI_last {α : Type} {xs : List α} {x : α} : atI (xs ++ [x]) (-1) = some x := by
  unfold atI ixN
  simp
  rw [if_pos (by omega)]
  have : (-1 + ((xs.length : Int) + 1)).toNat = xs.length := by omega
  simp [this]
end
end VS
namespace VS
open PySem PySem.Spec PyProof.Rows L2
def kP (a b : T) : DK := .inr [.inr a, .inr b]
def pD (p : T × T) : VS.D := .tup [.str p.1, .str p.2]
section
variable {S : Store} {P : VS.D → Store → Prop}
@[simp] theorem v_revS {s : T} : W (dRevS (.str s) S) P = (s.length ≤ sz ∧ P (.str s.reverse) S) := by
  simp only [W_is]
  exact W_if_0
@[simp] theorem v_disp1 {a b : T} {e : VS.D} : W (disp1D [.tup [.str a, .str b], e] S) P = P (.dic true [(kP a b, e)]) S := by
  simp only [W_is]; rfl
@[simp] theorem v_listD {t : Bool} {kvs : List (DK × VS.D)} : W (fListD (.dic t kvs) S) P = P (.lst (kvs.map fun p => ofK p.1)) S := by
  simp only [W_is]; rfl
theorem lookK_none {k : DK} : ∀ {kvs : List (DK × VS.D)}, lookK k kvs = none ↔ k ∉ kvs.map (·.1)
  | [] => by simp [lookK]
  | (k', d) :: r => by
    have ih := lookK_none (k := k) (kvs := r)
    unfold lookK
    by_cases e : k' = k
    · subst e; simp
    · rw [if_neg e, ih]
      simp [Ne.symm e]
theorem putD_new {kvs : List (DK × VS.D)} {k : DK} {v : VS.D} (h : lookK k kvs = none) : putD kvs k v = kvs ++ [(k, v)] := by
  have h := lookK_none.mp h
  unfold putD
  rw [if_neg]
  intro q
  obtain ⟨p, hp, e⟩ := List.any_eq_true.mp q
  exact h (by rw [← of_decide_eq_true e]; exact List.mem_map_of_mem hp)
end
end VS
namespace VS
open PySem PySem.Spec PyProof.Rows L2
abbrev Spn := T × Int × Int
structure GI (n : Nat) (last : List Int) (g : List (Spn × Nat)) : Prop where
  len : last.length = n
  lt : ∀ p ∈ g, p.2 < n
  top : ∀ t r, last[t]? = some r → r = -1 ∨ ∃ p ∈ g, p.2 = t ∧ p.1.2.2 = r
  le : ∀ p ∈ g, ∀ r, last[p.2]? = some r → p.1.2.2 ≤ r
  apart : g.Pairwise fun p q => p.2 = q.2 → p.1.2.2 < q.1.2.1
theorem GI.start {n : Nat} : GI n (List.replicate n (-1)) [] := ⟨List.length_replicate, by simp, fun t r h => .inl (by
  rw [List.getElem?_replicate] at h
  split at h
  · cases h; rfl
  · cases h), by simp, .nil⟩
theorem GI.put {n : Nat} {last : List Int} {g : List (Spn × Nat)} (h : GI n last g) {q : Spn} {t : Nat} {r : Int} (ht : last[t]? = some r) (hr : r < q.2.1) (hq : q.2.1 ≤ q.2.2) : GI n (last.set t q.2.2) (g ++ [(q, t)]) := by
  have tl : t < last.length := (List.getElem?_eq_some_iff.mp ht).1
  refine ⟨by rw [List.length_set]; exact h.len, fun p hp => ?_, fun u x hx => ?_, fun p hp x hx => ?_, ?_⟩
  · rcases List.mem_append.mp hp with hp | hp
    · exact h.lt p hp
    · rw [List.mem_singleton.mp hp, ← h.len]; exact tl
  · by_cases e : t = u
    · subst e
      rw [List.getElem?_set_self tl] at hx
      cases hx
      exact .inr ⟨_, List.mem_append_right _ (List.mem_singleton.mpr rfl), rfl, rfl⟩
    · rw [List.getElem?_set_ne e] at hx
      exact (h.top u x hx).imp id fun ⟨p, hp, a⟩ => ⟨p, List.mem_append_left _ hp, a⟩
  · rcases List.mem_append.mp hp with hp | hp
    · by_cases e : t = p.2
      · rw [← e, List.getElem?_set_self tl] at hx
        cases hx
        have := h.le p hp r (by rw [← e]; exact ht)
        omega
      · rw [List.getElem?_set_ne e] at hx
        exact h.le p hp x hx
    · rw [List.mem_singleton.mp hp] at hx ⊢
      rw [List.getElem?_set_self tl] at hx
      cases hx
      exact Int.le_refl _
  · rw [List.pairwise_append]
    refine ⟨h.apart, List.pairwise_singleton .., fun p hp z hz e => ?_⟩
    rw [List.mem_singleton.mp hz] at e ⊢
    have := h.le p hp r (by rw [e]; exact ht)
    show p.1.2.2 < q.2.1
    omega
def kS (n : T) : DK := .inl (.inr n)
def gd (g : List (Spn × Nat)) : List (DK × VS.D) := g.foldl (fun kvs p => putD kvs (kS p.1.1) (.int ((p.2 : Int) + 1))) []
def trk (g : List (Spn × Nat)) (n : T) : Int := match lookK (kS n) (gd g) with
  | some (.int i) => i
  | _ => 0
end VS
namespace VS
open PySem PySem.Spec PyProof.Rows L2
mutual
theorem eqb_refl : ∀ d : VS.D, d.plain = true → eqb d d = true
  | .non, _ => rfl
  | .bl a, _ => beq_self_eq_true a
  | .int a, _ => beq_self_eq_true a
  | .str a, _ => beq_self_eq_true a
  | .tup ds, h => eqbL_refl ds h
  | .lst ds, h => eqbL_refl ds h
  | .und, h => by cases h
  | .scr _, h => by cases h
  | .tix _, h => by cases h
  | .dic _ _, h => by cases h
  | .fdi _, h => by cases h
  | .ref _, h => by cases h
theorem eqbL_refl : ∀ ds : List VS.D, plainL ds = true → eqbL ds ds = true
  | [], _ => rfl
  | d :: ds, h => by
    obtain ⟨h1, h2⟩ := Bool.and_eq_true_iff.mp (show (d.plain && plainL ds) = true from h)
    show (eqb d d && eqbL ds ds) = true
    rw [eqb_refl d h1, eqbL_refl ds h2]; rfl
end
end VS
namespace VS
open PySem PySem.Spec PyProof.Rows L2
abbrev Stg := Nat × Nat
def msk (P : List Int) (s : Nat) : Nat := maskN (pre P s)
def aft (B : Nat) (a : Int) : Nat := if 0 ≤ a then B ||| 2 ^ a.toNat else B
def lbB (B A m : Nat) : Bool := decide (m &&& A ≠ 0) && decide (m - (m &&& B) ≠ 0)
def lbN (ms : List Nat) (B A : Nat) : Nat := (ms.filter (lbB B A)).length
def chs (n : Nat) (pg : List (Int × Int)) (s B : Nat) : List Int := match pg.find? (fun q => q.2 == (s : Int)) with
  | some q => if B.testBit q.1.toNat = true then [] else [q.1]
  | none => ((List.range n).filter fun p : Nat => !decide ((p : Int) ∈ pg.map (·.1)) && !B.testBit p).map (fun p : Nat => (p : Int)) ++ [-1]
structure Sr where
  ms : List Nat
  n : Nat
  L : Nat
  tr : Int
  pg : List (Int × Int)
def Sr.nxt (q : Sr) (st : Stg) : List (Int × Nat) := ((chs q.n q.pg st.1 st.2).map fun a => (a, aft st.2 a)).filter fun p => decide ((lbN q.ms st.2 p.2 : Int) ≤ q.tr)
inductive Pth (q : Sr) : List Int → Nat → Prop
  | nil : Pth q [] 0
  | snoc {ps : List Int} {B : Nat} {p : Int × Nat} (h : Pth q ps B) (hp : p ∈ q.nxt (ps.length, B)) : Pth q (ps ++ [p.1]) p.2
structure PgOk (n : Nat) (pg : List (Int × Int)) : Prop where
  rng : ∀ q ∈ pg, 0 ≤ q.1 ∧ q.1 < n
  pl : (pg.map (·.1)).Nodup
  sl : (pg.map (·.2)).Nodup
theorem nxt_mem {q : Sr} {st : Stg} {p : Int × Nat} : p ∈ q.nxt st ↔ p.1 ∈ chs q.n q.pg st.1 st.2 ∧ p.2 = aft st.2 p.1 ∧ (lbN q.ms st.2 p.2 : Int) ≤ q.tr := by
  unfold Sr.nxt
  rw [List.mem_filter, List.mem_map, decide_eq_true_iff]
  constructor
  · rintro ⟨⟨a, ha, rfl⟩, h⟩
    exact ⟨ha, rfl, h⟩
  · rintro ⟨h1, h2, h3⟩
    exact ⟨⟨p.1, h1, by rw [← h2]⟩, h3⟩
theorem chs_rng {n : Nat} {pg : List (Int × Int)} (hg : PgOk n pg) {s B : Nat} {a : Int} (h : a ∈ chs n pg s B) : (-1 ≤ a ∧ a < n) ∧ (0 ≤ a → B.testBit a.toNat = false) := by
  unfold chs at h
  split at h
  · rename_i q hq
    have hm := List.mem_of_find?_eq_some hq
    have hr := hg.rng q hm
    split at h
    · cases h
    · rename_i c
      rw [List.mem_singleton] at h
      subst h
      exact ⟨⟨by omega, hr.2⟩, fun _ => by simpa using c⟩
  · rcases List.mem_append.mp h with h | h
    · obtain ⟨p, hp, rfl⟩ := List.mem_map.mp h
      obtain ⟨h1, h2⟩ := List.mem_filter.mp hp
      have h1 := List.mem_range.mp h1
      simp only [Bool.and_eq_true, Bool.not_eq_true'] at h2
      exact ⟨⟨by omega, by omega⟩, fun _ => by simpa using h2.2⟩
    · rw [List.mem_singleton] at h
      subst h
      exact ⟨⟨by omega, by omega⟩, fun q => by omega⟩
theorem msk_snoc {ps : List Int} {a : Int} : msk (ps ++ [a]) (ps.length + 1) = aft (msk ps ps.length) a := by
  unfold msk aft
  have e1 : pre (ps ++ [a]) (ps.length + 1) = ((ps.filter fun a => decide (0 ≤ a)).map Int.toNat) ++ (if 0 ≤ a then [a.toNat] else []) := by
    unfold pre
    rw [List.take_of_length_le (by simp), List.filter_append, List.map_append]
    congr 1
    by_cases h : 0 ≤ a <;> simp [h]
  have e2 : pre ps ps.length = (ps.filter fun a => decide (0 ≤ a)).map Int.toNat := by
    unfold pre
    rw [List.take_of_length_le (Nat.le_refl _)]
  rw [e1, e2]
  by_cases h : 0 ≤ a
  · rw [if_pos h, if_pos h]
    unfold maskN
    rw [List.foldl_append]; rfl
  · rw [if_neg h, if_neg h, List.append_nil]
theorem mem_preA {ps : List Int} {k : Nat} : k ∈ pre ps ps.length ↔ (k : Int) ∈ ps := by
  unfold pre
  rw [List.take_of_length_le (Nat.le_refl _), List.mem_map]
  constructor
  · rintro ⟨a, ha, rfl⟩
    obtain ⟨h1, h2⟩ := List.mem_filter.mp ha
    have h2 : 0 ≤ a := of_decide_eq_true h2
    rw [Int.toNat_of_nonneg h2]
    exact h1
  · intro h
    exact ⟨(k : Int), List.mem_filter.mpr ⟨h, by simp⟩, by simp⟩
structure Prt (n : Nat) (pg : List (Int × Int)) (ps : List Int) : Prop where
  rng : ∀ a ∈ ps, -1 ≤ a ∧ a < n
  one : ps.Pairwise fun a b => a = b → a < 0
  peg : ∀ q ∈ pg, ∀ i : Nat, q.2 = (i : Int) → ∀ a, ps[i]? = some a → a = q.1
  bnd : ∀ (i : Nat) (a : Int), ps[i]? = some a → ∀ q ∈ pg, q.1 = a → q.2 = (i : Int)
theorem find_peg {pg : List (Int × Int)} {q : Int × Int} {s : Nat} (hs : (pg.map (·.2)).Nodup) (hq : q ∈ pg) (e : q.2 = (s : Int)) : pg.find? (fun q => q.2 == (s : Int)) = some q := by
  induction pg with
  | nil => cases hq
  | cons p pg ih =>
    rw [List.map_cons, List.nodup_cons] at hs
    rw [List.find?_cons]
    rcases List.mem_cons.mp hq with rfl | hq
    · simp [e]
    · have : ¬ p.2 = (s : Int) := fun z => hs.1 (List.mem_map.mpr ⟨q, hq, by rw [e, z]⟩)
      have e2 : (p.2 == (s : Int)) = false := by simpa using this
      rw [e2]
      exact ih hs.2 hq
theorem Pth.prt {q : Sr} (hg : PgOk q.n q.pg) {ps : List Int} {B : Nat} (h : Pth q ps B) : Prt q.n q.pg ps ∧ B = msk ps ps.length := by
  induction h with
  | nil => exact ⟨⟨by simp, by simp, fun _ _ i _ a h => by simp at h, fun i a h => by simp at h⟩, rfl⟩
  | @snoc ps B p h hp ih =>
    obtain ⟨ip, ib⟩ := ih
    obtain ⟨h1, h2, h3⟩ := nxt_mem.mp hp
    obtain ⟨hr, hf⟩ := chs_rng hg h1
    have hnew : 0 ≤ p.1 → p.1 ∉ ps := fun h0 hm => by
      have := hf h0
      have h1 : p.1.toNat ∈ pre ps ps.length := mem_preA.mpr (by rw [Int.toNat_of_nonneg h0]; exact hm)
      have hb : (B : Nat) = maskN (pre ps ps.length) := ib
      have e : Nat.testBit B p.1.toNat = true := by rw [hb, maskN_test]; exact decide_eq_true h1
      rw [show (ps.length, B).2 = B from rfl] at this
      rw [e] at this
      cases this
    refine ⟨⟨fun a ha => ?_, ?_, fun w hw i hi a ha => ?_, fun i a ha w hw e => ?_⟩, ?_⟩
    · rcases List.mem_append.mp ha with z | z
      · exact ip.rng a z
      · rw [List.mem_singleton] at z; rw [z]; exact hr
    · rw [List.pairwise_append]
      refine ⟨ip.one, by simp, fun a ha b hb e => ?_⟩
      rw [List.mem_singleton] at hb
      subst hb
      subst e
      exact Int.not_le.mp fun z => hnew z ha
    · rcases Nat.lt_or_ge i ps.length with z | z
      · rw [List.getElem?_append_left z] at ha
        exact ip.peg w hw i hi a ha
      · rw [List.getElem?_append_right z] at ha
        have hz : i - ps.length = 0 := by
          rcases Nat.eq_zero_or_pos (i - ps.length) with y | y
          · exact y
          · rw [List.getElem?_eq_none (by simp; omega)] at ha; cases ha
        rw [hz] at ha
        have ha : p.1 = a := by simpa using ha
        subst ha
        have hi2 : i = ps.length := by omega
        have hfd := find_peg hg.sl hw (s := ps.length) (by rw [hi, hi2])
        unfold chs at h1
        rw [hfd] at h1
        dsimp only at h1
        split at h1
        · cases h1
        · exact List.mem_singleton.mp h1
    · rcases Nat.lt_or_ge i ps.length with z | z
      · rw [List.getElem?_append_left z] at ha
        exact ip.bnd i a ha w hw e
      · rw [List.getElem?_append_right z] at ha
        have hz : i - ps.length = 0 := by
          rcases Nat.eq_zero_or_pos (i - ps.length) with y | y
          · exact y
          · rw [List.getElem?_eq_none (by simp; omega)] at ha; cases ha
        rw [hz] at ha
        have ha : p.1 = a := by simpa using ha
        have hi2 : i = ps.length := by omega
        unfold chs at h1
        split at h1
        · rename_i w2 hw2
          have hm2 := List.mem_of_find?_eq_some hw2
          have hs2 := List.find?_some hw2
          have hs2 : w2.2 = ((ps.length : Nat) : Int) := by simpa using hs2
          split at h1
          · cases h1
          · have h1 := List.mem_singleton.mp h1
            have : w = w2 := by
              obtain ⟨j, hj, ej⟩ := List.mem_iff_getElem.mp hw
              obtain ⟨k, hk, ek⟩ := List.mem_iff_getElem.mp hm2
              have hn := hg.pl
              rcases Nat.lt_trichotomy j k with y | y | y
              · exact absurd (by rw [List.getElem_map, List.getElem_map, ej, ek, e, ← h1, ha]) (List.pairwise_iff_getElem.mp hn j k (by simpa using hj) (by simpa using hk) y)
              · subst y; rw [← ej, ← ek]
              · exact absurd (by rw [List.getElem_map, List.getElem_map, ej, ek, e, ← h1, ha]) (List.pairwise_iff_getElem.mp hn k j (by simpa using hk) (by simpa using hj) y)
            rw [this, hs2, hi2]
        · rcases List.mem_append.mp h1 with y | y
          · obtain ⟨k, hk, ek⟩ := List.mem_map.mp y
            have := (List.mem_filter.mp hk).2
            simp only [Bool.and_eq_true, Bool.not_eq_true', decide_eq_false_iff_not] at this
            exact absurd (List.mem_map.mpr ⟨w, hw, by rw [e, ← ha, ← ek]⟩) this.1
          · have y := List.mem_singleton.mp y
            have := hg.rng w hw
            omega
    · rw [h2, List.length_append]
      show aft B p.1 = _
      rw [ib]
      exact msk_snoc.symm
end VS
namespace VS
open PySem PySem.Spec PyProof.Rows L2
theorem subP_len {α : Type} [DecidableEq α] : ∀ {xs ys : List α}, xs.Nodup → (∀ x ∈ xs, x ∈ ys) → xs.length ≤ ys.length
  | [], _, _, _ => Nat.zero_le _
  | x :: xs, ys, nd, h => by
    rw [List.nodup_cons] at nd
    have hx := h x (List.mem_cons_self ..)
    have ih := subP_len (xs := xs) (ys := ys.erase x) nd.2 fun y hy => (List.mem_erase_of_ne (fun e => nd.1 (by rw [← e]; exact hy))).mpr (h y (List.mem_cons_of_mem _ hy))
    rw [List.length_erase_of_mem hx] at ih
    have := List.length_pos_of_mem hx
    rw [List.length_cons]
    omega
theorem Prt.full {n : Nat} {pg : List (Int × Int)} {ps : List Int} (h : Prt n pg ps) (hb : msk ps ps.length = 2 ^ n - 1) : PlOk n ps := by
  refine ⟨h.rng, fun k hk => ?_, h.one⟩
  have : (msk ps ps.length).testBit k = true := by
    rw [hb, Nat.testBit_two_pow_sub_one]
    exact decide_eq_true hk
  unfold msk at this
  rw [maskN_test] at this
  exact mem_preA.mp (of_decide_eq_true this)
structure Kept (q : Sr) (P : List Int) : Prop where
  pl : PlOk q.n P
  len : P.length = q.L
  peg : ∀ w ∈ q.pg, ∃ i : Nat, w.2 = (i : Int) ∧ P[i]? = some w.1
  ld : ∀ s, s < q.L → (lbN q.ms (msk P s) (msk P (s + 1)) : Int) ≤ q.tr
theorem msk_take {P : List Int} {s : Nat} (hs : s ≤ P.length) : msk P s = msk (P.take s) (P.take s).length := by
  unfold msk pre
  rw [List.take_of_length_le (Nat.le_refl (P.take s).length)]
theorem bit_take {P : List Int} {s k : Nat} (hs : s ≤ P.length) : (msk P s).testBit k = decide ((k : Int) ∈ P.take s) := by
  rw [msk_take hs]
  unfold msk
  rw [maskN_test]
  exact decide_eq_decide.mpr mem_preA
theorem pl_at {n : Nat} {P : List Int} (h : PlOk n P) {i j : Nat} {a : Int} (h0 : 0 ≤ a) (hi : P[i]? = some a) (hj : P[j]? = some a) : i = j := by
  rw [← h.uniq h0 hi, h.uniq h0 hj]
theorem not_take {n : Nat} {P : List Int} (h : PlOk n P) {s : Nat} {a : Int} (h0 : 0 ≤ a) (hs : P[s]? = some a) : a ∉ P.take s := fun hm => by
  obtain ⟨i, hi⟩ := List.mem_iff_getElem?.mp hm
  rw [List.getElem?_take] at hi
  split at hi
  · have := pl_at h h0 hi hs
    omega
  · cases hi
theorem Kept.pth {q : Sr} (hg : PgOk q.n q.pg) {P : List Int} (h : Kept q P) : ∀ s, s ≤ q.L → Pth q (P.take s) (msk P s)
  | 0, _ => by
    have : msk P 0 = 0 := by unfold msk pre; simp [maskN]
    rw [this]
    exact Pth.nil
  | s + 1, hs => by
    have ih := h.pth hg s (by omega)
    have hl := h.len
    have hsl : s < P.length := by omega
    have ha : P[s]? = some P[s] := List.getElem?_eq_getElem hsl
    have hst : (P.take s).length = s := by rw [List.length_take]; omega
    have hr := h.pl.rng P[s] (List.getElem_mem hsl)
    have et : P.take (s + 1) = P.take s ++ [P[s]] := by rw [List.take_add_one, ha]; rfl
    have em : msk P (s + 1) = aft (msk P s) P[s] := by
      rw [msk_take (by omega), et, List.length_append]
      show msk (P.take s ++ [P[s]]) ((P.take s).length + 1) = _
      rw [msk_snoc, ← msk_take (by omega)]
    generalize P[s] = a at ha hr et em
    rw [et]
    have hm : ((a, msk P (s + 1)) : Int × Nat) ∈ q.nxt ((P.take s).length, msk P s) := by
      rw [hst]
      refine nxt_mem.mpr ⟨?_, em, h.ld s (by omega)⟩
      have hnb : 0 ≤ a → (msk P s).testBit a.toNat = false := fun h0 => by
        rw [bit_take (by omega), decide_eq_false_iff_not, Int.toNat_of_nonneg h0]
        exact not_take h.pl h0 ha
      unfold chs
      show a ∈ (match q.pg.find? (fun q => q.2 == (s : Int)) with | some q => _ | none => _)
      cases e : q.pg.find? (fun q => q.2 == (s : Int)) with
      | some w =>
        have hwm := List.mem_of_find?_eq_some e
        have hw2 : w.2 = (s : Int) := by simpa using List.find?_some e
        obtain ⟨i, hi, hp⟩ := h.peg w hwm
        have : i = s := by omega
        rw [this, ha] at hp
        have hp := Option.some.inj hp
        dsimp only
        rw [if_neg (by rw [← hp, hnb (by rw [hp]; exact (hg.rng w hwm).1)]; simp), hp]
        exact List.mem_singleton_self _
      | none =>
        dsimp only
        by_cases h0 : 0 ≤ a
        · refine List.mem_append_left _ (List.mem_map.mpr ⟨a.toNat, List.mem_filter.mpr ⟨List.mem_range.mpr (by omega), ?_⟩, Int.toNat_of_nonneg h0⟩)
          rw [hnb h0, Int.toNat_of_nonneg h0]
          have : a ∉ q.pg.map (·.1) := fun z => by
            obtain ⟨w, hw, ew⟩ := List.mem_map.mp z
            obtain ⟨i, hi, hp⟩ := h.peg w hw
            have := pl_at h.pl h0 (by rw [hp, ew] : P[i]? = some a) ha
            rw [find_peg hg.sl hw (s := s) (by rw [hi, this])] at e
            cases e
          simpa using this
        · have : a = -1 := by omega
          rw [this]
          exact List.mem_append_right _ (List.mem_singleton_self _)
    exact Pth.snoc ih hm
def cnt (n B : Nat) : Nat := ((List.range n).filter fun i => B.testBit i).length
theorem filt_split {α : Type} (p : α → Bool) : ∀ xs : List α, (xs.filter p).length + (xs.filter fun x => !p x).length = xs.length
  | [] => rfl
  | x :: xs => by
    have ih := filt_split p xs
    cases h : p x <;> simp [List.filter_cons, h] <;> omega
theorem cnt_split (n B : Nat) : cnt n B + ((List.range n).filter fun i => !B.testBit i).length = n := by
  unfold cnt
  have := filt_split (fun i => B.testBit i) (List.range n)
  rw [List.length_range] at this
  exact this
theorem Kept.left {q : Sr} {P : List Int} (h : Kept q P) {s : Nat} (hs : s ≤ q.L) : (q.n : Int) - cnt q.n (msk P s) ≤ (q.L : Int) - s := by
  have hl := h.len
  have h1 := cnt_split q.n (msk P s)
  have h2 : (((List.range q.n).filter fun i => !(msk P s).testBit i).map fun i : Nat => (i : Int)).length ≤ (P.drop s).length := by
    refine subP_len ?_ fun x hx => ?_
    · exact nodup_map _ _ (List.nodup_range.sublist List.filter_sublist) fun x _ y _ e => by omega
    · obtain ⟨k, hk, rfl⟩ := List.mem_map.mp hx
      obtain ⟨k1, k2⟩ := List.mem_filter.mp hk
      rw [bit_take (by omega)] at k2
      have hP := h.pl.all k (List.mem_range.mp k1)
      rw [← List.take_append_drop s P] at hP
      rcases List.mem_append.mp hP with z | z
      · simp [z] at k2
      · exact z
  rw [List.length_map, List.length_drop] at h2
  omega
theorem Kept.goal {q : Sr} {P : List Int} (h : Kept q P) : msk P q.L = 2 ^ q.n - 1 := by
  rw [← h.len]
  refine Nat.eq_of_testBit_eq fun i => ?_
  rw [bit_take (Nat.le_refl _), List.take_of_length_le (Nat.le_refl _), Nat.testBit_two_pow_sub_one]
  refine decide_eq_decide.mpr ⟨fun z => ?_, fun z => h.pl.all i z⟩
  have := h.pl.rng _ z
  omega
theorem Pth.lt {q : Sr} (hg : PgOk q.n q.pg) {ps : List Int} {B : Nat} (h : Pth q ps B) : B < 2 ^ q.n := by
  obtain ⟨h1, h2⟩ := h.prt hg
  rw [h2]
  refine Nat.lt_pow_two_of_testBit _ fun i hi => ?_
  rw [bit_take (Nat.le_refl _), List.take_of_length_le (Nat.le_refl _), decide_eq_false_iff_not]
  intro z
  have := (h1.rng _ z).2
  omega
theorem Pth.ld {q : Sr} (hg : PgOk q.n q.pg) {ps : List Int} {B : Nat} (h : Pth q ps B) : ∀ s, s < ps.length → (lbN q.ms (msk ps s) (msk ps (s + 1)) : Int) ≤ q.tr := by
  induction h with
  | nil => intro s hs; simp at hs
  | @snoc ps B p h hp ih =>
    intro s hs
    have hpre : ∀ t, t ≤ ps.length → msk (ps ++ [p.1]) t = msk ps t := fun t ht => by
      unfold msk pre
      rw [List.take_append_of_le_length ht]
    rcases Nat.lt_or_ge s ps.length with z | z
    · rw [hpre s (by omega), hpre (s + 1) (by omega)]
      exact ih s z
    · have : s = ps.length := by rw [List.length_append, List.length_singleton] at hs; omega
      subst this
      obtain ⟨h1, h2, h3⟩ := nxt_mem.mp hp
      rw [hpre _ (Nat.le_refl _), msk_snoc, ← (h.prt hg).2, ← h2]
      exact h3
theorem Pth.kept {q : Sr} (hg : PgOk q.n q.pg) (hs : ∀ w ∈ q.pg, 0 ≤ w.2 ∧ w.2 < q.L) {ps : List Int} (h : Pth q ps (2 ^ q.n - 1)) (hl : ps.length = q.L) : Kept q ps := by
  obtain ⟨h1, h2⟩ := h.prt hg
  refine ⟨h1.full h2.symm, hl, fun w hw => ?_, fun s hs => h.ld hg s (by omega)⟩
  obtain ⟨w0, w1⟩ := hs w hw
  refine ⟨w.2.toNat, by omega, ?_⟩
  have hlt : w.2.toNat < ps.length := by omega
  rw [List.getElem?_eq_getElem hlt, h1.peg w hw w.2.toNat (by omega) _ (List.getElem?_eq_getElem hlt)]
end VS
namespace VS
open PySem PySem.Spec PyProof.Rows L2
structure Exp (q : Sr) (pr : Stg → Prop) (G : Stg → Prop) (K O : List Stg) : Prop where
  nd : K.Nodup
  ond : O.Nodup
  sub : ∀ x ∈ O, x ∈ K
  zero : (0, 0) ∈ K
  rch : ∀ x ∈ K, ∃ ps, Pth q ps x.2 ∧ ps.length = x.1
  len : ∀ x ∈ K, x.1 ≤ q.L
  exp : ∀ x ∈ K, x ∉ O → ¬ G x ∧ (pr x → ∀ p ∈ q.nxt x, (x.1 + 1, p.2) ∈ K)
structure ExpM (q : Sr) (pr : Stg → Prop) (G : Stg → Prop) (K O : List Stg) (x : Stg) (dn : List (Int × Nat)) : Prop where
  nd : K.Nodup
  ond : O.Nodup
  sub : ∀ y ∈ O, y ∈ K
  zero : (0, 0) ∈ K
  rch : ∀ y ∈ K, ∃ ps, Pth q ps y.2 ∧ ps.length = y.1
  len : ∀ y ∈ K, y.1 ≤ q.L
  here : x ∈ K
  out : x ∉ O
  exp : ∀ y ∈ K, y ∉ O → y ≠ x → ¬ G y ∧ (pr y → ∀ p ∈ q.nxt y, (y.1 + 1, p.2) ∈ K)
  dn : ∀ p ∈ dn, (x.1 + 1, p.2) ∈ K
section
variable {q : Sr} {pr G : Stg → Prop} {K O : List Stg} {x : Stg} {dn : List (Int × Nat)} {p : Int × Nat}
theorem Exp.start : Exp q pr G [(0, 0)] [(0, 0)] :=
  ⟨by simp, by simp, fun _ h => h, by simp, fun y hy => by rw [List.mem_singleton.mp hy]; exact ⟨[], .nil, rfl⟩, fun y hy => by rw [List.mem_singleton.mp hy]; exact Nat.zero_le _, fun y hy h => absurd hy h⟩
theorem Exp.pop (h : Exp q pr G K (O ++ [x])) : ExpM q pr G K O x [] := by
  have hn := List.nodup_append.mp h.ond
  have hx : x ∉ O := fun z => hn.2.2 x z x (by simp) rfl
  refine ⟨h.nd, hn.1, fun y hy => h.sub y (List.mem_append_left _ hy), h.zero, h.rch, h.len, h.sub x (by simp), hx, fun y hy ho hne => h.exp y hy ?_, by simp⟩
  intro z
  rcases List.mem_append.mp z with z | z
  · exact ho z
  · exact hne (List.mem_singleton.mp z)
theorem ExpM.skip (h : ExpM q pr G K O x dn) (hk : (x.1 + 1, p.2) ∈ K) : ExpM q pr G K O x (dn ++ [p]) :=
  ⟨h.nd, h.ond, h.sub, h.zero, h.rch, h.len, h.here, h.out, h.exp, fun r hr => (List.mem_append.mp hr).elim (h.dn r) fun z => by rw [List.mem_singleton.mp z]; exact hk⟩
theorem ExpM.add (h : ExpM q pr G K O x dn) (hk : (x.1 + 1, p.2) ∉ K) (hp : p ∈ q.nxt x) (hl : x.1 < q.L) : ExpM q pr G (K ++ [(x.1 + 1, p.2)]) (O ++ [(x.1 + 1, p.2)]) x (dn ++ [p]) := by
  have hno : (x.1 + 1, p.2) ∉ O := fun z => hk (h.sub _ z)
  refine ⟨?_, ?_, fun y hy => ?_, List.mem_append_left _ h.zero, fun y hy => ?_, fun y hy => ?_, List.mem_append_left _ h.here, fun z => ?_, fun y hy ho hne => ?_, fun r hr => ?_⟩
  · exact List.nodup_append.mpr ⟨h.nd, by simp, fun a ha b hb e => hk (by rw [← List.mem_singleton.mp hb, ← e]; exact ha)⟩
  · exact List.nodup_append.mpr ⟨h.ond, by simp, fun a ha b hb e => hno (by rw [← List.mem_singleton.mp hb, ← e]; exact ha)⟩
  · rcases List.mem_append.mp hy with z | z
    · exact List.mem_append_left _ (h.sub y z)
    · exact List.mem_append_right _ z
  · rcases List.mem_append.mp hy with z | z
    · exact h.rch y z
    · rw [List.mem_singleton.mp z]
      obtain ⟨ps, h1, h2⟩ := h.rch x h.here
      refine ⟨ps ++ [p.1], Pth.snoc h1 (by rw [h2]; exact hp), by rw [List.length_append, h2]; rfl⟩
  · rcases List.mem_append.mp hy with z | z
    · exact h.len y z
    · rw [List.mem_singleton.mp z]; exact hl
  · rcases List.mem_append.mp z with z | z
    · exact h.out z
    · have e := congrArg Prod.fst (List.mem_singleton.mp z)
      have e : x.1 = x.1 + 1 := e
      omega
  · rcases List.mem_append.mp hy with z | z
    · obtain ⟨g1, g2⟩ := h.exp y z (fun w => ho (List.mem_append_left _ w)) hne
      exact ⟨g1, fun c r hr => List.mem_append_left _ (g2 c r hr)⟩
    · exact absurd (List.mem_append_right _ z) ho
  · rcases List.mem_append.mp hr with z | z
    · exact List.mem_append_left _ (h.dn r z)
    · rw [List.mem_singleton.mp z]
      exact List.mem_append_right _ (by simp)
theorem ExpM.done (h : ExpM q pr G K O x dn) (hg : ¬ G x) (hd : pr x → ∀ p ∈ q.nxt x, p ∈ dn) : Exp q pr G K O :=
  ⟨h.nd, h.ond, h.sub, h.zero, h.rch, h.len, fun y hy ho => by
    by_cases e : y = x
    · rw [e]
      exact ⟨hg, fun c p hp => h.dn p (hd c p hp)⟩
    · exact h.exp y hy ho e⟩
def allS (L n : Nat) : List Stg := (List.range (L + 1)).flatMap fun s => (List.range (2 ^ n)).map fun b => (s, b)
theorem allS_len {L n : Nat} : (allS L n).length = (L + 1) * 2 ^ n := by
  unfold allS
  rw [List.length_flatMap]
  simp [List.map_const', List.sum_replicate_nat]
theorem allS_mem {L n : Nat} {x : Stg} (h1 : x.1 ≤ L) (h2 : x.2 < 2 ^ n) : x ∈ allS L n :=
  List.mem_flatMap.mpr ⟨x.1, List.mem_range.mpr (by omega), List.mem_map.mpr ⟨x.2, List.mem_range.mpr h2, rfl⟩⟩
theorem known_len (hg : PgOk q.n q.pg) (nd : K.Nodup) (hr : ∀ x ∈ K, ∃ ps, Pth q ps x.2 ∧ ps.length = x.1) (hl : ∀ x ∈ K, x.1 ≤ q.L) : K.length ≤ (q.L + 1) * 2 ^ q.n := by
  rw [← allS_len]
  refine subP_len nd fun x hx => ?_
  obtain ⟨ps, h1, _⟩ := hr x hx
  exact allS_mem (hl x hx) (h1.lt hg)
theorem Exp.none (hg : PgOk q.n q.pg) (h : Exp q pr (fun x => x = (q.L, 2 ^ q.n - 1)) K []) (hpr : ∀ P s, Kept q P → s < q.L → pr (s, msk P s)) : ¬ ∃ P, Kept q P := by
  rintro ⟨P, hP⟩
  have hl := hP.len
  have key : ∀ s, s ≤ q.L → (s, msk P s) ∈ K := by
    intro s
    induction s with
    | zero =>
      intro _
      have : msk P 0 = 0 := by unfold msk pre; simp [maskN]
      rw [this]
      exact h.zero
    | succ s ih =>
      intro hs
      have hk := ih (by omega)
      have hx := (h.exp _ hk (by simp)).2 (hpr P s hP (by omega))
      have hsl : s < P.length := by omega
      have hst : (P.take s).length = s := by rw [List.length_take]; omega
      have hp := hP.pth hg (s + 1) hs
      have et : P.take (s + 1) = P.take s ++ [P[s]] := by rw [List.take_add_one, List.getElem?_eq_getElem hsl]; rfl
      rw [et] at hp
      have : ((P[s], msk P (s + 1)) : Int × Nat) ∈ q.nxt (s, msk P s) := by
        generalize hW : P.take s ++ [P[s]] = W at hp
        generalize hV : msk P (s + 1) = V at hp ⊢
        cases hp with
        | nil => exact absurd hW (List.append_ne_nil_of_right_ne_nil _ (List.cons_ne_nil _ _))
        | @snoc ps B r h2 hr =>
          obtain ⟨e1, e2⟩ := List.append_inj' hW rfl
          have e2 : P[s] = r.1 := by simpa using e2
          have hB : B = msk P s := by
            rw [(h2.prt hg).2, ← e1, ← msk_take (by omega)]
          rw [← e1, hst, hB] at hr
          rw [e2]
          exact hr
      exact hx _ this
  have := key q.L (Nat.le_refl _)
  rw [hP.goal] at this
  exact (h.exp _ this (by simp)).1 rfl
end
end VS
namespace VS
open PySem PySem.Spec PyProof.Rows L2
theorem PgOk.tail {n : Nat} {q : Int × Int} {pg : List (Int × Int)} (h : PgOk n (q :: pg)) : PgOk n pg :=
  ⟨fun w hw => h.rng w (List.mem_cons_of_mem _ hw), (List.nodup_cons.mp h.pl).2, (List.nodup_cons.mp h.sl).2⟩
theorem PgOk.drop {n : Nat} {pg : List (Int × Int)} (h : PgOk n pg) : PgOk n (pg.drop 1) := by
  cases pg with
  | nil => exact h
  | cons q pg => exact h.tail
end VS
namespace WK
open PySem PySem.Spec PyProof.Rows L2 VS
variable [Tables]
abbrev D := VS.D
def top (i : Nat) : Stmt := PySem.Challenge.pw_tracklay_k15_families_judged.main.body.getD i (.Pass ⟨0, 0, 0, 0⟩)
abbrev FnP (K : PySem.W.Frag) (x : Str) (st : Stmt) (f : Addr) (fd : FuncData) : Prop := FunD K x x (defArgs st) (defBody st) (defScope st) [] [] f fd
abbrev FnQ (K : PySem.W.Frag) (x : Str) (st : Stmt) (dvs : List V) (f : Addr) (fd : FuncData) : Prop := FunD K x x (defArgs st) (defBody st) (defScope st) dvs [] f fd
structure Fx (g : Glo) : Prop where
  b_len : g.mg "len" = none
  b_range : g.mg "range" = none
  b_list : g.mg "list" = none
  b_all : g.mg "all" = none
  b_any : g.mg "any" = none
  b_isinstance : g.mg "isinstance" = none
  b_zip : g.mg "zip" = none
  b_int : g.mg "int" = none
  b_str : g.mg "str" = none
  b_tuple : g.mg "tuple" = none
  b_bool : g.mg "bool" = none
  b_sorted : g.mg "sorted" = none
  b_set : g.mg "set" = none
  b_dict : g.mg "dict" = none
  b_enumerate : g.mg "enumerate" = none
  b_min : g.mg "min" = none
  b_max : g.mg "max" = none
  b_sum : g.mg "sum" = none
  f_nets : ∃ a fd, FnP g.K "nets" (top 1) a fd ∧ g.mg "nets" = some (.ref a)
  f_masks : ∃ a fd, FnP g.K "masks" (top 3) a fd ∧ g.mg "masks" = some (.ref a)
  f_load_between : ∃ a fd, FnP g.K "load_between" (top 4) a fd ∧ g.mg "load_between" = some (.ref a)
  f_choices : ∃ a fd, FnP g.K "choices" (top 5) a fd ∧ g.mg "choices" = some (.ref a)
  f_next_sets : ∃ a fd, FnP g.K "next_sets" (top 6) a fd ∧ g.mg "next_sets" = some (.ref a)
  f_placing_back : ∃ a fd, FnP g.K "placing_back" (top 7) a fd ∧ g.mg "placing_back" = some (.ref a)
  f_size_of : ∃ a fd, FnP g.K "size_of" (top 8) a fd ∧ g.mg "size_of" = some (.ref a)
  f_reached : ∃ a fd, FnP g.K "reached" (top 9) a fd ∧ g.mg "reached" = some (.ref a)
  f_placed : ∃ a fd, FnP g.K "placed" (top 10) a fd ∧ g.mg "placed" = some (.ref a)
  f_bars : ∃ a fd, FnP g.K "bars" (top 11) a fd ∧ g.mg "bars" = some (.ref a)
  f_x_law_box : ∃ a fd, FnP g.K "_law_box" (top 13) a fd ∧ g.mg "_law_box" = some (.ref a)
  f_x_law_take : ∃ a fd, FnP g.K "_law_take" (top 14) a fd ∧ g.mg "_law_take" = some (.ref a)
  f_x_law_same : ∃ a fd, FnP g.K "_law_same" (top 15) a fd ∧ g.mg "_law_same" = some (.ref a)
  f_x_law_names : ∃ a fd, FnP g.K "_law_names" (top 16) a fd ∧ g.mg "_law_names" = some (.ref a)
  f_x_law_bits : ∃ a fd, FnP g.K "_law_bits" (top 17) a fd ∧ g.mg "_law_bits" = some (.ref a)
  f_x_law_some_net : ∃ a fd, FnP g.K "_law_some_net" (top 18) a fd ∧ g.mg "_law_some_net" = some (.ref a)
  f_x_law_nets : ∃ a fd, FnP g.K "_law_nets" (top 19) a fd ∧ g.mg "_law_nets" = some (.ref a)
  f_x_law_pegs : ∃ a fd, FnP g.K "_law_pegs" (top 20) a fd ∧ g.mg "_law_pegs" = some (.ref a)
  f_x_law_steps : ∃ a fd, FnP g.K "_law_steps" (top 21) a fd ∧ g.mg "_law_steps" = some (.ref a)
  f_x_law_size : ∃ a fd, FnP g.K "_law_size" (top 22) a fd ∧ g.mg "_law_size" = some (.ref a)
  f_x_law_reached : ∃ a fd, FnP g.K "_law_reached" (top 23) a fd ∧ g.mg "_law_reached" = some (.ref a)
  f_x_law_bars : ∃ a fd, FnP g.K "_law_bars" (top 24) a fd ∧ g.mg "_law_bars" = some (.ref a)
  f_law : ∃ a fd, FnP g.K "law" (top 25) a fd ∧ g.mg "law" = some (.ref a)
def s_nets : DS := (sSeq (sSet 1 (eLst aNil))
 (sSeq (sFor (iEnumD (eVar 0)) (gT (gsCons (gN 2) (gsCons (gN 3) gsNil)))
 (sSeq (sSet 4 (eComp [5, 6] (iEnumD (eVar 0)) (gT (gsCons (gN 5) (gsCons (gN 6) gsNil))) (tBin dIn (eBin dIx (eVar 3) (eC (.int 1))) (eBin dIx (eVar 6) (eC (.int 3)))) (eVar 5)))
 (sIf (tAnd' (tBin dNe (eBin dIx (eVar 3) (eC (.int 0))) (eC (.str [111, 117, 116]))) (tBin dNe (eVar 4) (eLst aNil)))
 (sMut 1 gApp (aCons (eTup (aCons (eBin dIx (eVar 3) (eC (.int 1))) (aCons (eCall (f1 dTuple) (aCons (eCall (f1 fSorted2) (aCons (eCall (f1 fDict) (aCons (eComp [5] (iOf (eBin fAdd (eVar 4) (eLst (aCons (eVar 2) aNil)))) (gN 5) tYesD (eTup (aCons (eVar 5) (aCons (eC (.bl true)) aNil)))) aNil)) aNil)) aNil)) aNil))) aNil))
 sNext)))
 (sRet (eVar 1))))
def d_nets : List D → M D := defD 7 true s_nets
theorem sc_nets : FnScope ["netlist", "found", "place", "thing", "readers", "at", "other"] ["netlist"] (defScope (top 1)) := ⟨by decide +kernel, by decide +kernel, by decide +kernel, by decide +kernel, rfl, by decide +kernel, by decide +kernel⟩
theorem ok_nets {g : Glo} (G : Fx g) : VFn g 1 "nets" ["netlist"] true true d_nets := by
  obtain ⟨a, fd, F, hm⟩ := G.f_nets
  refine VFn.of (N := ["netlist", "found", "place", "thing", "readers", "at", "other"]) F sc_nets hm (F.bindsN fun _ _ _ _ _ _ us hl => match us, hl with | [_], _ => rfl) (Γ' := [false, true, false, false, false, false, false]) ?_
  show VBl _ [false, false, false, false, false, false, false] [false, true, false, false, false, false, false] (defBody (top 1)) s_nets
  exact (vbl_cons (Γ₁ := [false, true, false, false, false, false, false]) (vs_setF (i := 1) (by kernel_rfl) (Nat.le_of_ble_eq_true (by kernel_rfl)) (vf_lst va_nil) (fun _ _ => rfl))
 (vbl_cons (Γ₁ := [false, true, false, false, false, false, false]) (vs_for (Γ₁ := [false, true, false, false, false, false, false]) (vi_enum (by kernel_rfl) G.b_enumerate (ve_varS (i := 0) (by kernel_rfl) (by kernel_rfl)) (fun _ => rfl)) (vg_tup (vgs_cons (vg_name (i := 2) (by kernel_rfl)) (vgs_cons (vg_name (i := 3) (by kernel_rfl)) vgs_nil (fun _ => rfl)) (fun _ => rfl)) (gl_cons (gl_cons gl_nil)) (fun _ => rfl) (fun _ => rfl))
 (vbl_cons (Γ₁ := [false, true, false, false, false, false, false]) (vs_fz 4 (vs_setC (i := 4) rfl (by kernel_rfl) (Nat.le_of_ble_eq_true (by kernel_rfl)) rfl rfl (by kernel_rfl) (own := [("at", 5), ("other", 6)]) (by kernel_rfl) rfl (by kernel_rfl) (by kernel_rfl) (by exact (vi_enum (by kernel_rfl) G.b_enumerate (ve_var (i := 0) (by kernel_rfl)) (fun _ => rfl))) (vg_tup (vgs_cons (vg_name (i := 5) (by kernel_rfl)) (vgs_cons (vg_name (i := 6) (by kernel_rfl)) vgs_nil (fun _ => rfl)) (fun _ => rfl)) (gl_cons (gl_cons gl_nil)) (fun _ => rfl) (fun _ => rfl)) (by exact (vc_one (vt_cmp vop_in (ve_ix (ve_var (i := 3) (by kernel_rfl)) ve_int (fun _ _ => rfl)) (ve_ix (ve_var (i := 6) (by kernel_rfl)) ve_int (fun _ _ => rfl)) rfl))) (by exact (ve_varS (i := 5) (by kernel_rfl) (by kernel_rfl))) (fun _ _ => rfl)))
 (vbl_one (vs_if (vw_t (vw_and (vt_cmp vop_ne (ve_ix (ve_var (i := 3) (by kernel_rfl)) ve_int (fun _ _ => rfl)) (ve_str (by kernel_rfl)) rfl) (vw_and1 (vt_cmp vop_ne (ve_var (i := 4) (by kernel_rfl)) (VF.e (vf_lst va_nil)) rfl))))
 (vbl_one (vs_append (i := 1) (by kernel_rfl) (by kernel_rfl) (va_cons (ve_tup (va_cons (ve_ix (ve_var (i := 3) (by kernel_rfl)) ve_int (fun _ _ => rfl)) (va_cons (ve_callTy vc_tuple (by kernel_rfl) G.b_tuple (by kernel_rfl) (va_cons (VF.e (vf_callB vc_sorted2 (by kernel_rfl) G.b_sorted (by kernel_rfl) (va_cons (VF.e (vf_callTy vc_dictP (by kernel_rfl) G.b_dict (by kernel_rfl) (va_cons (VF.e (vf_comp (own := [("at", 5)]) (by kernel_rfl) rfl (by kernel_rfl) (by kernel_rfl) (by exact (vi_of (VF.e (vf_bin vopF_add (ve_var (i := 4) (by kernel_rfl)) (VF.e (vf_lst (va_cons (ve_varS (i := 2) (by kernel_rfl) (by kernel_rfl)) va_nil (fun _ => rfl)))))))) (vg_name (i := 5) (by kernel_rfl)) (by exact vc_nil) (by exact (ve_tup (va_cons (ve_varS (i := 5) (by kernel_rfl) (by kernel_rfl)) (va_cons ve_bl va_nil (fun _ => rfl)) (fun _ => rfl)))) (fun _ _ => rfl))) va_nil (fun _ => rfl)) (fun _ => rfl) (fun _ => rfl))) va_nil (fun _ => rfl)) (fun _ => rfl) (fun _ => rfl))) va_nil (fun _ => rfl)) (fun _ => rfl) (fun _ => rfl)) va_nil (fun _ => rfl)) (fun _ => rfl))) va_nil (fun _ => rfl)) rfl (fun _ => rfl) (fun _ => rfl)))
 vbl_nil))) (fun _ _ => rfl))
 (vbl_one (vs_retOwn rfl (by kernel_rfl) (by kernel_rfl)))))
def s_masks : DS := (sRet (eComp [1, 2] (iOf (eCall d_nets (aCons (eVar 0) aNil))) (gT (gsCons (gN 1) (gsCons (gN 2) gsNil))) tYesD (eCall (f1 dSum) (aCons (eComp [3] (iOf (eVar 2)) (gN 3) tYesD (eBin dShl (eC (.int 1)) (eVar 3))) aNil))))
def d_masks : List D → M D := defD 4 true s_masks
theorem sc_masks : FnScope ["netlist", "name", "members", "place"] ["netlist"] (defScope (top 3)) := ⟨by decide +kernel, by decide +kernel, by decide +kernel, by decide +kernel, rfl, by decide +kernel, by decide +kernel⟩
theorem ok_masks {g : Glo} (G : Fx g) : VFn g 2 "masks" ["netlist"] true true d_masks := by
  obtain ⟨a, fd, F, hm⟩ := G.f_masks
  have h_nets := ok_nets G
  refine VFn.of (N := ["netlist", "name", "members", "place"]) F sc_masks hm (F.bindsN fun _ _ _ _ _ _ us hl => match us, hl with | [_], _ => rfl) (Γ' := [false, false, false, false]) ?_
  show VBl _ [false, false, false, false] [false, false, false, false] (defBody (top 3)) s_masks
  exact (vbl_one (vs_retF rfl (vf_comp (own := [("name", 1), ("members", 2)]) (by kernel_rfl) rfl (by kernel_rfl) (by kernel_rfl) (by exact (vi_of (VF.e (vf_call h_nets (Nat.le_of_ble_eq_true (by kernel_rfl)) (by kernel_rfl) (fun _ => rfl) (va_cons (ve_varS (i := 0) (by kernel_rfl) (by kernel_rfl)) va_nil (fun _ => rfl)) (al_cons al_nil) (fun _ => rfl) (fun _ => rfl))))) (vg_tup (vgs_cons (vg_name (i := 1) (by kernel_rfl)) (vgs_cons (vg_name (i := 2) (by kernel_rfl)) vgs_nil (fun _ => rfl)) (fun _ => rfl)) (gl_cons (gl_cons gl_nil)) (fun _ => rfl) (fun _ => rfl)) (by exact vc_nil) (by exact (ve_callB vc_sum (by kernel_rfl) G.b_sum (by kernel_rfl) (va_cons (VF.e (vf_comp (own := [("place", 3)]) (by kernel_rfl) rfl (by kernel_rfl) (by kernel_rfl) (by exact (vi_of (ve_var (i := 2) (by kernel_rfl)))) (vg_name (i := 3) (by kernel_rfl)) (by exact vc_nil) (by exact (ve_bin vop_shl ve_int (ve_var (i := 3) (by kernel_rfl)))) (fun _ _ => rfl))) va_nil (fun _ => rfl)) (fun _ => rfl) (fun _ => rfl))) (fun _ _ => rfl))))
def s_load_between : DS := (sRet (eCall (f1 dLen) (aCons (eComp [3] (iOf (eVar 0)) (gN 3) (tAnd' (tOf (eBin dAnd (eVar 3) (eVar 2))) (tOf (eBin dAnd (eVar 3) (eUn dInv (eVar 1))))) (eVar 3)) aNil)))
def d_load_between : List D → M D := defD 4 false s_load_between
theorem sc_load_between : FnScope ["some", "before", "after", "mask"] ["some", "before", "after"] (defScope (top 4)) := ⟨by decide +kernel, by decide +kernel, by decide +kernel, by decide +kernel, rfl, by decide +kernel, by decide +kernel⟩
theorem ok_load_between {g : Glo} (G : Fx g) : VFn g 1 "load_between" ["some", "before", "after"] false true d_load_between := by
  obtain ⟨a, fd, F, hm⟩ := G.f_load_between
  refine VFn.of (N := ["some", "before", "after", "mask"]) F sc_load_between hm (F.bindsN fun _ _ _ _ _ _ us hl => match us, hl with | [_, _, _], _ => rfl) (Γ' := [false, false, false, false]) ?_
  show VBl _ [false, false, false, false] [false, false, false, false] (defBody (top 4)) s_load_between
  exact (vbl_one (vs_ret rfl (ve_callB vc_len (by kernel_rfl) G.b_len (by kernel_rfl) (va_cons (VF.e (vf_comp (own := [("mask", 3)]) (by kernel_rfl) rfl (by kernel_rfl) (by kernel_rfl) (by exact (vi_of (ve_var (i := 0) (by kernel_rfl)))) (vg_name (i := 3) (by kernel_rfl)) (by exact (vc_one (vw_t (vw_and (vt_of (ve_bin vop_and (ve_var (i := 3) (by kernel_rfl)) (ve_var (i := 2) (by kernel_rfl))) (fun _ _ => rfl)) (vw_and1 (vt_of (ve_bin vop_and (ve_var (i := 3) (by kernel_rfl)) (ve_un vun_inv (ve_var (i := 1) (by kernel_rfl)))) (fun _ _ => rfl))))))) (by exact (ve_varS (i := 3) (by kernel_rfl) (by kernel_rfl))) (fun _ _ => rfl))) va_nil (fun _ => rfl)) (fun _ => rfl) (fun _ => rfl))))
def s_choices : DS := (sSeq (sFor (iOf (eVar 3)) (gT (gsCons (gN 5) (gsCons (gN 6) gsNil)))
 (sIf (tBin dEq (eVar 6) (eVar 1))
 (sRet (eBin fMul (eLst (aCons (eVar 5) aNil)) (eCall (f1 dInt) (aCons (eNotT (eBin dAnd (eBin dShr (eVar 2) (eVar 5)) (eC (.int 1)))) aNil))))
 sNext))
 (sSeq (sSet 4 (eComp [5, 6] (iOf (eVar 3)) (gT (gsCons (gN 5) (gsCons (gN 6) gsNil))) tYesD (eVar 5)))
 (sRet (eBin fAdd (eComp [5] (iRange1 (eVar 0)) (gN 5) (tAnd' (tBin dNotIn (eVar 5) (eVar 4)) (tNot' (tOf (eBin dAnd (eBin dShr (eVar 2) (eVar 5)) (eC (.int 1)))))) (eVar 5)) (eLst (aCons (eUn dNeg (eC (.int 1))) aNil))))))
def d_choices : List D → M D := defD 7 true s_choices
theorem sc_choices : FnScope ["many", "slot", "before", "pegs", "bound", "place", "where"] ["many", "slot", "before", "pegs"] (defScope (top 5)) := ⟨by decide +kernel, by decide +kernel, by decide +kernel, by decide +kernel, rfl, by decide +kernel, by decide +kernel⟩
theorem ok_choices {g : Glo} (G : Fx g) : VFn g 1 "choices" ["many", "slot", "before", "pegs"] true true d_choices := by
  obtain ⟨a, fd, F, hm⟩ := G.f_choices
  refine VFn.of (N := ["many", "slot", "before", "pegs", "bound", "place", "where"]) F sc_choices hm (F.bindsN fun _ _ _ _ _ _ us hl => match us, hl with | [_, _, _, _], _ => rfl) (Γ' := [false, false, false, false, false, false, false]) ?_
  show VBl _ [false, false, false, false, false, false, false] [false, false, false, false, false, false, false] (defBody (top 5)) s_choices
  exact (vbl_cons (Γ₁ := [false, false, false, false, false, false, false]) (vs_for (Γ₁ := [false, false, false, false, false, false, false]) (vi_of (ve_varS (i := 3) (by kernel_rfl) (by kernel_rfl))) (vg_tup (vgs_cons (vg_name (i := 5) (by kernel_rfl)) (vgs_cons (vg_name (i := 6) (by kernel_rfl)) vgs_nil (fun _ => rfl)) (fun _ => rfl)) (gl_cons (gl_cons gl_nil)) (fun _ => rfl) (fun _ => rfl))
 (vbl_one (vs_if (vt_cmp vop_eq (ve_var (i := 6) (by kernel_rfl)) (ve_var (i := 1) (by kernel_rfl)) rfl)
 (vbl_one (vs_retF rfl (vf_bin vopF_mul (VF.e (vf_lst (va_cons (ve_varS (i := 5) (by kernel_rfl) (by kernel_rfl)) va_nil (fun _ => rfl)))) (ve_callTy vc_int (by kernel_rfl) G.b_int (by kernel_rfl) (va_cons (ve_notT (ve_bin vop_and (ve_bin vop_shr (ve_var (i := 2) (by kernel_rfl)) (ve_var (i := 5) (by kernel_rfl))) ve_int)) va_nil (fun _ => rfl)) (fun _ => rfl) (fun _ => rfl)))))
 vbl_nil)) (fun _ _ => rfl))
 (vbl_cons (Γ₁ := [false, false, false, false, false, false, false]) (vs_fz 4 (vs_setK (i := 4) (by kernel_rfl) (Nat.le_of_ble_eq_true (by kernel_rfl)) (by kernel_rfl) (vf_comp (own := [("place", 5), ("where", 6)]) (by kernel_rfl) rfl (by kernel_rfl) (by kernel_rfl) (by exact (vi_of (ve_var (i := 3) (by kernel_rfl)))) (vg_tup (vgs_cons (vg_name (i := 5) (by kernel_rfl)) (vgs_cons (vg_name (i := 6) (by kernel_rfl)) vgs_nil (fun _ => rfl)) (fun _ => rfl)) (gl_cons (gl_cons gl_nil)) (fun _ => rfl) (fun _ => rfl)) (by exact vc_nil) (by exact (ve_varS (i := 5) (by kernel_rfl) (by kernel_rfl))) (fun _ _ => rfl)) (fun _ _ h => sw_cell h)))
 (vbl_one (vs_retF rfl (vf_bin vopF_add (VF.e (vf_comp (own := [("place", 5)]) (by kernel_rfl) rfl (by kernel_rfl) (by kernel_rfl) (by exact (vi_range1 (by kernel_rfl) G.b_range (ve_var (i := 0) (by kernel_rfl)) (fun _ => rfl))) (vg_name (i := 5) (by kernel_rfl)) (by exact (vc_one (vw_t (vw_and (vt_cmp vop_notin (ve_var (i := 5) (by kernel_rfl)) (ve_var (i := 4) (by kernel_rfl)) rfl) (vw_and1 (vt_not (vt_of (ve_bin vop_and (ve_bin vop_shr (ve_var (i := 2) (by kernel_rfl)) (ve_var (i := 5) (by kernel_rfl))) ve_int) (fun _ _ => rfl)))))))) (by exact (ve_varS (i := 5) (by kernel_rfl) (by kernel_rfl))) (fun _ _ => rfl))) (VF.e (vf_lst (va_cons (ve_un vun_neg ve_int) va_nil (fun _ => rfl)))))))))
def s_next_sets : DS := (sSeq (sAsg (eVar 4) (gT (gsCons (gN 7) (gsCons (gN 8) gsNil))))
 (sSeq (sSet 5 (eLst aNil))
 (sSeq (sFor (iOf (eCall d_choices (aCons (eVar 1) (aCons (eVar 7) (aCons (eVar 8) (aCons (eVar 3) aNil)))))) (gN 6)
 (sSeq (sSet 9 (eBin dOr (eVar 8) (eIf (tBin dGe (eVar 6) (eC (.int 0))) (eBin dShl (eC (.int 1)) (eVar 6)) (eC (.int 0)))))
 (sIf (tBin dLe (eCall d_load_between (aCons (eVar 0) (aCons (eVar 8) (aCons (eVar 9) aNil)))) (eVar 2))
 (sMut 5 gApp (aCons (eTup (aCons (eVar 6) (aCons (eVar 9) aNil))) aNil))
 sNext)))
 (sRet (eVar 5)))))
def d_next_sets : List D → M D := defD 10 true s_next_sets
theorem sc_next_sets : FnScope ["some", "many", "tracks", "pegs", "stage", "found", "place", "slot", "before", "after"] ["some", "many", "tracks", "pegs", "stage"] (defScope (top 6)) := ⟨by decide +kernel, by decide +kernel, by decide +kernel, by decide +kernel, rfl, by decide +kernel, by decide +kernel⟩
theorem ok_next_sets {g : Glo} (G : Fx g) : VFn g 2 "next_sets" ["some", "many", "tracks", "pegs", "stage"] true true d_next_sets := by
  obtain ⟨a, fd, F, hm⟩ := G.f_next_sets
  have h_choices := ok_choices G
  have h_load_between := ok_load_between G
  refine VFn.of (N := ["some", "many", "tracks", "pegs", "stage", "found", "place", "slot", "before", "after"]) F sc_next_sets hm (F.bindsN fun _ _ _ _ _ _ us hl => match us, hl with | [_, _, _, _, _], _ => rfl) (Γ' := [false, false, false, false, false, true, false, false, false, false]) ?_
  show VBl _ [false, false, false, false, false, false, false, false, false, false] [false, false, false, false, false, true, false, false, false, false] (defBody (top 6)) s_next_sets
  exact (vbl_cons (Γ₁ := [false, false, false, false, false, false, false, false, false, false]) (vs_asg (ve_varS (i := 4) (by kernel_rfl) (by kernel_rfl)) (vg_tup (vgs_cons (vg_name (i := 7) (by kernel_rfl)) (vgs_cons (vg_name (i := 8) (by kernel_rfl)) vgs_nil (fun _ => rfl)) (fun _ => rfl)) (gl_cons (gl_cons gl_nil)) (fun _ => rfl) (fun _ => rfl)) (fun _ _ => rfl) (fun _ => rfl) (fun _ => rfl))
 (vbl_cons (Γ₁ := [false, false, false, false, false, true, false, false, false, false]) (vs_setF (i := 5) (by kernel_rfl) (Nat.le_of_ble_eq_true (by kernel_rfl)) (vf_lst va_nil) (fun _ _ => rfl))
 (vbl_cons (Γ₁ := [false, false, false, false, false, true, false, false, false, false]) (vs_for (Γ₁ := [false, false, false, false, false, true, false, false, false, false]) (vi_of (VF.e (vf_call h_choices (Nat.le_of_ble_eq_true (by kernel_rfl)) (by kernel_rfl) (fun _ => rfl) (va_cons (ve_varS (i := 1) (by kernel_rfl) (by kernel_rfl)) (va_cons (ve_varS (i := 7) (by kernel_rfl) (by kernel_rfl)) (va_cons (ve_varS (i := 8) (by kernel_rfl) (by kernel_rfl)) (va_cons (ve_varS (i := 3) (by kernel_rfl) (by kernel_rfl)) va_nil (fun _ => rfl)) (fun _ => rfl)) (fun _ => rfl)) (fun _ => rfl)) (al_cons (al_cons (al_cons (al_cons al_nil)))) (fun _ => rfl) (fun _ => rfl)))) (vg_name (i := 6) (by kernel_rfl))
 (vbl_cons (Γ₁ := [false, false, false, false, false, true, false, false, false, false]) (vs_set (i := 9) (by kernel_rfl) (ve_bin vop_or (ve_var (i := 8) (by kernel_rfl)) (ve_if (vt_cmp vop_ge (ve_var (i := 6) (by kernel_rfl)) ve_int rfl) (ve_bin vop_shl ve_int (ve_var (i := 6) (by kernel_rfl))) ve_int)) (fun _ _ => rfl))
 (vbl_one (vs_if (vt_cmp vop_le (ve_call h_load_between (Nat.le_of_ble_eq_true (by kernel_rfl)) (by kernel_rfl) (fun _ => rfl) (va_cons (ve_varS (i := 0) (by kernel_rfl) (by kernel_rfl)) (va_cons (ve_varS (i := 8) (by kernel_rfl) (by kernel_rfl)) (va_cons (ve_varS (i := 9) (by kernel_rfl) (by kernel_rfl)) va_nil (fun _ => rfl)) (fun _ => rfl)) (fun _ => rfl)) (al_cons (al_cons (al_cons al_nil))) (fun _ => rfl) (fun _ => rfl)) (ve_var (i := 2) (by kernel_rfl)) rfl)
 (vbl_one (vs_append (i := 5) (by kernel_rfl) (by kernel_rfl) (va_cons (ve_tup (va_cons (ve_varS (i := 6) (by kernel_rfl) (by kernel_rfl)) (va_cons (ve_varS (i := 9) (by kernel_rfl) (by kernel_rfl)) va_nil (fun _ => rfl)) (fun _ => rfl))) va_nil (fun _ => rfl)) rfl (fun _ => rfl) (fun _ => rfl)))
 vbl_nil))) (fun _ _ => rfl))
 (vbl_one (vs_retOwn rfl (by kernel_rfl) (by kernel_rfl))))))
def s_placing_back : DS := (sSeq (sSet 2 (eLst aNil))
 (sSeq (sWhile 1000 (tBin dNotN (eBin dIx (eVar 0) (eVar 1)) (eC .non))
 (sSeq (sAsg (eBin dIx (eVar 0) (eVar 1)) (gT (gsCons (gN 3) (gsCons (gN 1) gsNil))))
 (sMut 2 gApp (aCons (eVar 3) aNil))))
 (sRet (eCall (f1 dTuple) (aCons (eUn fRevL (eVar 2)) aNil)))))
def d_placing_back : List D → M D := defD 4 false s_placing_back
theorem sc_placing_back : FnScope ["came", "stage", "found", "place"] ["came", "stage"] (defScope (top 7)) := ⟨by decide +kernel, by decide +kernel, by decide +kernel, by decide +kernel, rfl, by decide +kernel, by decide +kernel⟩
theorem ok_placing_back {g : Glo} (G : Fx g) : VFn g 1 "placing_back" ["came", "stage"] false true d_placing_back := by
  obtain ⟨a, fd, F, hm⟩ := G.f_placing_back
  refine VFn.of (N := ["came", "stage", "found", "place"]) F sc_placing_back hm (F.bindsN fun _ _ _ _ _ _ us hl => match us, hl with | [_, _], _ => rfl) (Γ' := [false, false, true, false]) ?_
  show VBl _ [false, false, false, false] [false, false, true, false] (defBody (top 7)) s_placing_back
  exact (vbl_cons (Γ₁ := [false, false, true, false]) (vs_setF (i := 2) (by kernel_rfl) (Nat.le_of_ble_eq_true (by kernel_rfl)) (vf_lst va_nil) (fun _ _ => rfl))
 (vbl_cons (Γ₁ := [false, false, true, false]) (vs_while 1000 (vt_cmp vop_isnot (ve_ix (ve_var (i := 0) (by kernel_rfl)) (ve_var (i := 1) (by kernel_rfl)) (fun _ _ => rfl)) ve_non rfl)
 (vbl_cons (Γ₁ := [false, false, true, false]) (vs_asg (ve_ix (ve_var (i := 0) (by kernel_rfl)) (ve_var (i := 1) (by kernel_rfl)) (fun _ _ => rfl)) (vg_tup (vgs_cons (vg_name (i := 3) (by kernel_rfl)) (vgs_cons (vg_name (i := 1) (by kernel_rfl)) vgs_nil (fun _ => rfl)) (fun _ => rfl)) (gl_cons (gl_cons gl_nil)) (fun _ => rfl) (fun _ => rfl)) (fun _ _ => rfl) (fun _ => rfl) (fun _ => rfl))
 (vbl_one (vs_append (i := 2) (by kernel_rfl) (by kernel_rfl) (va_cons (ve_varS (i := 3) (by kernel_rfl) (by kernel_rfl)) va_nil (fun _ => rfl)) rfl (fun _ => rfl) (fun _ => rfl)))))
 (vbl_one (vs_ret rfl (ve_callTy vc_tuple (by kernel_rfl) G.b_tuple (by kernel_rfl) (va_cons (VF.e (vf_revL (ve_var (i := 2) (by kernel_rfl)))) va_nil (fun _ => rfl)) (fun _ => rfl) (fun _ => rfl))))))
def s_size_of : DS := (sSeq (sSet 1 (eC (.int 0)))
 (sSeq (sWhile 1000 (tBin dGt (eVar 0) (eC (.int 0)))
 (sSeq (sSet 1 (eBin dIAdd (eVar 1) (eBin dAnd (eVar 0) (eC (.int 1)))))
 (sSet 0 (eBin dShr (eVar 0) (eC (.int 1))))))
 (sRet (eVar 1))))
def d_size_of : List D → M D := defD 2 false s_size_of
theorem sc_size_of : FnScope ["some", "found"] ["some"] (defScope (top 8)) := ⟨by decide +kernel, by decide +kernel, by decide +kernel, by decide +kernel, rfl, by decide +kernel, by decide +kernel⟩
theorem ok_size_of {g : Glo} (G : Fx g) : VFn g 1 "size_of" ["some"] false true d_size_of := by
  obtain ⟨a, fd, F, hm⟩ := G.f_size_of
  refine VFn.of (N := ["some", "found"]) F sc_size_of hm (F.bindsN fun _ _ _ _ _ _ us hl => match us, hl with | [_], _ => rfl) (Γ' := [false, false]) ?_
  show VBl _ [false, false] [false, false] (defBody (top 8)) s_size_of
  exact (vbl_cons (Γ₁ := [false, false]) (vs_set (i := 1) (by kernel_rfl) ve_int (fun _ _ => rfl))
 (vbl_cons (Γ₁ := [false, false]) (vs_while 1000 (vt_cmp vop_gt (ve_var (i := 0) (by kernel_rfl)) ve_int rfl)
 (vbl_cons (Γ₁ := [false, false]) (vs_aug (i := 1) vop_iadd (by kernel_rfl) (by kernel_rfl) (ve_bin vop_and (ve_var (i := 0) (by kernel_rfl)) ve_int))
 (vbl_one (vs_aug (i := 0) vop_ishr (by kernel_rfl) (by kernel_rfl) ve_int))))
 (vbl_one (vs_ret rfl (ve_varS (i := 1) (by kernel_rfl) (by kernel_rfl))))))
def s_reached : DS := (sSeq (sSet 5 (eCall disp1D (aCons (eTup (aCons (eC (.int 0)) (aCons (eC (.int 0)) aNil))) (aCons (eC (.bl true)) aNil))))
 (sSeq (sSet 6 (eLst (aCons (eTup (aCons (eC (.int 0)) (aCons (eC (.int 0)) aNil))) aNil)))
 (sSeq (sWhile 500000 (tBin dNe (eVar 6) (eLst aNil))
 (sSeq (sPop 7 6)
 (sIf (tBin dLt (eBin dIx (eVar 7) (eC (.int 0))) (eVar 2))
 (sFor (iOf (eCall d_next_sets (aCons (eVar 0) (aCons (eVar 1) (aCons (eVar 3) (aCons (eVar 4) (aCons (eVar 7) aNil))))))) (gT (gsCons (gN 8) (gsCons (gN 9) gsNil)))
 (sIf (tBin dNotIn (eTup (aCons (eBin dAdd (eBin dIx (eVar 7) (eC (.int 0))) (eC (.int 1))) (aCons (eVar 9) aNil))) (eVar 5))
 (sSeq (sPut 5 (eTup (aCons (eBin dAdd (eBin dIx (eVar 7) (eC (.int 0))) (eC (.int 1))) (aCons (eVar 9) aNil))) (eC (.bl true)))
 (sMut 6 gApp (aCons (eTup (aCons (eBin dAdd (eBin dIx (eVar 7) (eC (.int 0))) (eC (.int 1))) (aCons (eVar 9) aNil))) aNil)))
 sNext))
 sNext)))
 (sRet (eCall (f1 fListD) (aCons (eVar 5) aNil))))))
def d_reached : List D → M D := defD 10 true s_reached
theorem sc_reached : FnScope ["some", "many", "slots", "tracks", "pegs", "found", "open_ones", "stage", "place", "after"] ["some", "many", "slots", "tracks", "pegs"] (defScope (top 9)) := ⟨by decide +kernel, by decide +kernel, by decide +kernel, by decide +kernel, rfl, by decide +kernel, by decide +kernel⟩
theorem ok_reached {g : Glo} (G : Fx g) : VFn g 3 "reached" ["some", "many", "slots", "tracks", "pegs"] true true d_reached := by
  obtain ⟨a, fd, F, hm⟩ := G.f_reached
  have h_next_sets := ok_next_sets G
  refine VFn.of (N := ["some", "many", "slots", "tracks", "pegs", "found", "open_ones", "stage", "place", "after"]) F sc_reached hm (F.bindsN fun _ _ _ _ _ _ us hl => match us, hl with | [_, _, _, _, _], _ => rfl) (Γ' := [false, false, false, false, false, true, true, false, false, false]) ?_
  show VBl _ [false, false, false, false, false, false, false, false, false, false] [false, false, false, false, false, true, true, false, false, false] (defBody (top 9)) s_reached
  exact (vbl_cons (Γ₁ := [false, false, false, false, false, true, false, false, false, false]) (vs_setF (i := 5) (by kernel_rfl) (Nat.le_of_ble_eq_true (by kernel_rfl)) (vf_disp1 (ve_tup (va_cons ve_int (va_cons ve_int va_nil (fun _ => rfl)) (fun _ => rfl))) ve_bl) (fun _ _ => rfl))
 (vbl_cons (Γ₁ := [false, false, false, false, false, true, true, false, false, false]) (vs_setF (i := 6) (by kernel_rfl) (Nat.le_of_ble_eq_true (by kernel_rfl)) (vf_lst (va_cons (ve_tup (va_cons ve_int (va_cons ve_int va_nil (fun _ => rfl)) (fun _ => rfl))) va_nil (fun _ => rfl))) (fun _ _ => rfl))
 (vbl_cons (Γ₁ := [false, false, false, false, false, true, true, false, false, false]) (vs_while 500000 (vt_cmp vop_ne (ve_var (i := 6) (by kernel_rfl)) (VF.e (vf_lst va_nil)) rfl)
 (vbl_cons (Γ₁ := [false, false, false, false, false, true, true, false, false, false]) (vs_pop (j := 7) (by kernel_rfl) (by kernel_rfl) (by kernel_rfl) (fun _ => rfl) rfl (fun _ _ => rfl))
 (vbl_one (vs_if (vt_cmp vop_lt (ve_ix (ve_var (i := 7) (by kernel_rfl)) ve_int (fun _ _ => rfl)) (ve_var (i := 2) (by kernel_rfl)) rfl)
 (vbl_one (vs_for (Γ₁ := [false, false, false, false, false, true, true, false, false, false]) (vi_of (VF.e (vf_call h_next_sets (Nat.le_of_ble_eq_true (by kernel_rfl)) (by kernel_rfl) (fun _ => rfl) (va_cons (ve_varS (i := 0) (by kernel_rfl) (by kernel_rfl)) (va_cons (ve_varS (i := 1) (by kernel_rfl) (by kernel_rfl)) (va_cons (ve_varS (i := 3) (by kernel_rfl) (by kernel_rfl)) (va_cons (ve_varS (i := 4) (by kernel_rfl) (by kernel_rfl)) (va_cons (ve_varS (i := 7) (by kernel_rfl) (by kernel_rfl)) va_nil (fun _ => rfl)) (fun _ => rfl)) (fun _ => rfl)) (fun _ => rfl)) (fun _ => rfl)) (al_cons (al_cons (al_cons (al_cons (al_cons al_nil))))) (fun _ => rfl) (fun _ => rfl)))) (vg_tup (vgs_cons (vg_name (i := 8) (by kernel_rfl)) (vgs_cons (vg_name (i := 9) (by kernel_rfl)) vgs_nil (fun _ => rfl)) (fun _ => rfl)) (gl_cons (gl_cons gl_nil)) (fun _ => rfl) (fun _ => rfl))
 (vbl_one (vs_if (vt_cmp vop_notin (ve_tup (va_cons (ve_bin vop_add (ve_ix (ve_var (i := 7) (by kernel_rfl)) ve_int (fun _ _ => rfl)) ve_int) (va_cons (ve_varS (i := 9) (by kernel_rfl) (by kernel_rfl)) va_nil (fun _ => rfl)) (fun _ => rfl))) (ve_var (i := 5) (by kernel_rfl)) rfl)
 (vbl_cons (Γ₁ := [false, false, false, false, false, true, true, false, false, false]) (vs_put (by kernel_rfl) (by kernel_rfl) (ve_tup (va_cons (ve_bin vop_add (ve_ix (ve_var (i := 7) (by kernel_rfl)) ve_int (fun _ _ => rfl)) ve_int) (va_cons (ve_varS (i := 9) (by kernel_rfl) (by kernel_rfl)) va_nil (fun _ => rfl)) (fun _ => rfl))) ve_bl (by intro _ _; rfl) (fun _ _ => rfl) (fun _ => rfl) (fun _ => rfl))
 (vbl_one (vs_append (i := 6) (by kernel_rfl) (by kernel_rfl) (va_cons (ve_tup (va_cons (ve_bin vop_add (ve_ix (ve_var (i := 7) (by kernel_rfl)) ve_int (fun _ _ => rfl)) ve_int) (va_cons (ve_varS (i := 9) (by kernel_rfl) (by kernel_rfl)) va_nil (fun _ => rfl)) (fun _ => rfl))) va_nil (fun _ => rfl)) rfl (fun _ => rfl) (fun _ => rfl))))
 vbl_nil)) (fun _ _ => rfl)))
 vbl_nil))))
 (vbl_one (vs_retF rfl (vf_callTy vc_listD (by kernel_rfl) G.b_list (by kernel_rfl) (va_cons (ve_var (i := 5) (by kernel_rfl)) va_nil (fun _ => rfl)) (fun _ => rfl) (fun _ => rfl)))))))
def s_placed : DS := (sSeq (sSet 4 (eCall (f1 dLen) (aCons (eVar 0) aNil)))
 (sSeq (sIf (tBin dGt (eVar 4) (eVar 1))
 (sRet (eTup (aCons (eC (.str [98, 97, 114, 114, 101, 100])) (aCons (eLst aNil) aNil))))
 sNext)
 (sSeq (sSet 5 (eCall d_masks (aCons (eVar 0) aNil)))
 (sSeq (sSet 6 (eTup (aCons (eVar 1) (aCons (eBin dSub (eBin dShl (eC (.int 1)) (eVar 4)) (eC (.int 1))) aNil))))
 (sSeq (sSet 7 (eCall disp1D (aCons (eTup (aCons (eC (.int 0)) (aCons (eC (.int 0)) aNil))) (aCons (eC .non) aNil))))
 (sSeq (sSet 8 (eLst (aCons (eTup (aCons (eC (.int 0)) (aCons (eC (.int 0)) aNil))) aNil)))
 (sSeq (sWhile 500000 (tBin dNe (eVar 8) (eLst aNil))
 (sSeq (sPop 9 8)
 (sSeq (sIf (tBin dEq (eVar 9) (eVar 6))
 (sRet (eTup (aCons (eC (.str [112, 108, 97, 99, 101, 100])) (aCons (eCall d_placing_back (aCons (eVar 7) (aCons (eVar 9) aNil))) aNil))))
 sNext)
 (sIf (tAnd' (tBin dLe (eBin dSub (eVar 4) (eCall d_size_of (aCons (eBin dIx (eVar 9) (eC (.int 1))) aNil))) (eBin dSub (eVar 1) (eBin dIx (eVar 9) (eC (.int 0))))) (tBin dLt (eBin dIx (eVar 9) (eC (.int 0))) (eVar 1)))
 (sFor (iOf (eUn fRevL (eCall d_next_sets (aCons (eVar 5) (aCons (eVar 4) (aCons (eVar 2) (aCons (eVar 3) (aCons (eVar 9) aNil)))))))) (gT (gsCons (gN 10) (gsCons (gN 11) gsNil)))
 (sSeq (sSet 12 (eTup (aCons (eBin dAdd (eBin dIx (eVar 9) (eC (.int 0))) (eC (.int 1))) (aCons (eVar 11) aNil))))
 (sIf (tBin dNotIn (eVar 12) (eVar 7))
 (sSeq (sPut 7 (eVar 12) (eTup (aCons (eVar 10) (aCons (eVar 9) aNil))))
 (sMut 8 gApp (aCons (eVar 12) aNil)))
 sNext)))
 sNext))))
 (sRet (eTup (aCons (eC (.str [98, 97, 114, 114, 101, 100])) (aCons (eCall d_reached (aCons (eVar 5) (aCons (eVar 4) (aCons (eVar 1) (aCons (eVar 2) (aCons (eVar 3) aNil)))))) aNil)))))))))))
def d_placed : List D → M D := defD 13 false s_placed
theorem sc_placed : FnScope ["netlist", "slots", "tracks", "pegs", "many", "some", "goal", "came", "open_ones", "stage", "place", "after", "later"] ["netlist", "slots", "tracks", "pegs"] (defScope (top 10)) := ⟨by decide +kernel, by decide +kernel, by decide +kernel, by decide +kernel, rfl, by decide +kernel, by decide +kernel⟩
theorem ok_placed {g : Glo} (G : Fx g) : VFn g 4 "placed" ["netlist", "slots", "tracks", "pegs"] false true d_placed := by
  obtain ⟨a, fd, F, hm⟩ := G.f_placed
  have h_masks := ok_masks G
  have h_reached := ok_reached G
  have h_placing_back := ok_placing_back G
  have h_next_sets := ok_next_sets G
  have h_size_of := ok_size_of G
  refine VFn.of (N := ["netlist", "slots", "tracks", "pegs", "many", "some", "goal", "came", "open_ones", "stage", "place", "after", "later"]) F sc_placed hm (F.bindsN fun _ _ _ _ _ _ us hl => match us, hl with | [_, _, _, _], _ => rfl) (Γ' := [false, false, false, false, false, false, false, true, true, false, false, false, false]) ?_
  show VBl _ [false, false, false, false, false, false, false, false, false, false, false, false, false] [false, false, false, false, false, false, false, true, true, false, false, false, false] (defBody (top 10)) s_placed
  exact (vbl_cons (Γ₁ := [false, false, false, false, false, false, false, false, false, false, false, false, false]) (vs_set (i := 4) (by kernel_rfl) (ve_callB vc_len (by kernel_rfl) G.b_len (by kernel_rfl) (va_cons (ve_var (i := 0) (by kernel_rfl)) va_nil (fun _ => rfl)) (fun _ => rfl) (fun _ => rfl)) (fun _ _ => rfl))
 (vbl_cons (Γ₁ := [false, false, false, false, false, false, false, false, false, false, false, false, false]) (vs_if (vt_cmp vop_gt (ve_var (i := 4) (by kernel_rfl)) (ve_var (i := 1) (by kernel_rfl)) rfl)
 (vbl_one (vs_ret rfl (ve_tup (va_cons (ve_str (by kernel_rfl)) (va_cons (VF.e (vf_lst va_nil)) va_nil (fun _ => rfl)) (fun _ => rfl)))))
 vbl_nil)
 (vbl_cons (Γ₁ := [false, false, false, false, false, false, false, false, false, false, false, false, false]) (vs_set (i := 5) (by kernel_rfl) (VF.e (vf_call h_masks (Nat.le_of_ble_eq_true (by kernel_rfl)) (by kernel_rfl) (fun _ => rfl) (va_cons (ve_varS (i := 0) (by kernel_rfl) (by kernel_rfl)) va_nil (fun _ => rfl)) (al_cons al_nil) (fun _ => rfl) (fun _ => rfl))) (fun _ _ => rfl))
 (vbl_cons (Γ₁ := [false, false, false, false, false, false, false, false, false, false, false, false, false]) (vs_set (i := 6) (by kernel_rfl) (ve_tup (va_cons (ve_varS (i := 1) (by kernel_rfl) (by kernel_rfl)) (va_cons (ve_bin vop_sub (ve_bin vop_shl ve_int (ve_var (i := 4) (by kernel_rfl))) ve_int) va_nil (fun _ => rfl)) (fun _ => rfl))) (fun _ _ => rfl))
 (vbl_cons (Γ₁ := [false, false, false, false, false, false, false, true, false, false, false, false, false]) (vs_setF (i := 7) (by kernel_rfl) (Nat.le_of_ble_eq_true (by kernel_rfl)) (vf_disp1 (ve_tup (va_cons ve_int (va_cons ve_int va_nil (fun _ => rfl)) (fun _ => rfl))) ve_non) (fun _ _ => rfl))
 (vbl_cons (Γ₁ := [false, false, false, false, false, false, false, true, true, false, false, false, false]) (vs_setF (i := 8) (by kernel_rfl) (Nat.le_of_ble_eq_true (by kernel_rfl)) (vf_lst (va_cons (ve_tup (va_cons ve_int (va_cons ve_int va_nil (fun _ => rfl)) (fun _ => rfl))) va_nil (fun _ => rfl))) (fun _ _ => rfl))
 (vbl_cons (Γ₁ := [false, false, false, false, false, false, false, true, true, false, false, false, false]) (vs_while 500000 (vt_cmp vop_ne (ve_var (i := 8) (by kernel_rfl)) (VF.e (vf_lst va_nil)) rfl)
 (vbl_cons (Γ₁ := [false, false, false, false, false, false, false, true, true, false, false, false, false]) (vs_pop (j := 9) (by kernel_rfl) (by kernel_rfl) (by kernel_rfl) (fun _ => rfl) rfl (fun _ _ => rfl))
 (vbl_cons (Γ₁ := [false, false, false, false, false, false, false, true, true, false, false, false, false]) (vs_if (vt_cmp vop_eq (ve_var (i := 9) (by kernel_rfl)) (ve_var (i := 6) (by kernel_rfl)) rfl)
 (vbl_one (vs_freeze 7 (show VSt _ [false, false, false, false, false, false, false, false, true, false, false, false, false] _ _ _ from (vs_ret rfl (ve_tup (va_cons (ve_str (by kernel_rfl)) (va_cons (ve_call h_placing_back (Nat.le_of_ble_eq_true (by kernel_rfl)) (by kernel_rfl) (fun _ => rfl) (va_cons (ve_varS (i := 7) (by kernel_rfl) (by kernel_rfl)) (va_cons (ve_varS (i := 9) (by kernel_rfl) (by kernel_rfl)) va_nil (fun _ => rfl)) (fun _ => rfl)) (al_cons (al_cons al_nil)) (fun _ => rfl) (fun _ => rfl)) va_nil (fun _ => rfl)) (fun _ => rfl)))))))
 vbl_nil)
 (vbl_one (vs_if (vw_t (vw_and (vt_cmp vop_le (ve_bin vop_sub (ve_var (i := 4) (by kernel_rfl)) (ve_call h_size_of (Nat.le_of_ble_eq_true (by kernel_rfl)) (by kernel_rfl) (fun _ => rfl) (va_cons (ve_ix (ve_var (i := 9) (by kernel_rfl)) ve_int (fun _ _ => rfl)) va_nil (fun _ => rfl)) (al_cons al_nil) (fun _ => rfl) (fun _ => rfl))) (ve_bin vop_sub (ve_var (i := 1) (by kernel_rfl)) (ve_ix (ve_var (i := 9) (by kernel_rfl)) ve_int (fun _ _ => rfl))) rfl) (vw_and1 (vt_cmp vop_lt (ve_ix (ve_var (i := 9) (by kernel_rfl)) ve_int (fun _ _ => rfl)) (ve_var (i := 1) (by kernel_rfl)) rfl))))
 (vbl_one (vs_for (Γ₁ := [false, false, false, false, false, false, false, true, true, false, false, false, false]) (vi_of (VF.e (vf_revL (VF.e (vf_call h_next_sets (Nat.le_of_ble_eq_true (by kernel_rfl)) (by kernel_rfl) (fun _ => rfl) (va_cons (ve_varS (i := 5) (by kernel_rfl) (by kernel_rfl)) (va_cons (ve_varS (i := 4) (by kernel_rfl) (by kernel_rfl)) (va_cons (ve_varS (i := 2) (by kernel_rfl) (by kernel_rfl)) (va_cons (ve_varS (i := 3) (by kernel_rfl) (by kernel_rfl)) (va_cons (ve_varS (i := 9) (by kernel_rfl) (by kernel_rfl)) va_nil (fun _ => rfl)) (fun _ => rfl)) (fun _ => rfl)) (fun _ => rfl)) (fun _ => rfl)) (al_cons (al_cons (al_cons (al_cons (al_cons al_nil))))) (fun _ => rfl) (fun _ => rfl)))))) (vg_tup (vgs_cons (vg_name (i := 10) (by kernel_rfl)) (vgs_cons (vg_name (i := 11) (by kernel_rfl)) vgs_nil (fun _ => rfl)) (fun _ => rfl)) (gl_cons (gl_cons gl_nil)) (fun _ => rfl) (fun _ => rfl))
 (vbl_cons (Γ₁ := [false, false, false, false, false, false, false, true, true, false, false, false, false]) (vs_set (i := 12) (by kernel_rfl) (ve_tup (va_cons (ve_bin vop_add (ve_ix (ve_var (i := 9) (by kernel_rfl)) ve_int (fun _ _ => rfl)) ve_int) (va_cons (ve_varS (i := 11) (by kernel_rfl) (by kernel_rfl)) va_nil (fun _ => rfl)) (fun _ => rfl))) (fun _ _ => rfl))
 (vbl_one (vs_if (vt_cmp vop_notin (ve_var (i := 12) (by kernel_rfl)) (ve_var (i := 7) (by kernel_rfl)) rfl)
 (vbl_cons (Γ₁ := [false, false, false, false, false, false, false, true, true, false, false, false, false]) (vs_put (by kernel_rfl) (by kernel_rfl) (ve_var (i := 12) (by kernel_rfl)) (ve_tup (va_cons (ve_varS (i := 10) (by kernel_rfl) (by kernel_rfl)) (va_cons (ve_varS (i := 9) (by kernel_rfl) (by kernel_rfl)) va_nil (fun _ => rfl)) (fun _ => rfl))) (by intro _ _; rfl) (fun _ _ => rfl) (fun _ => rfl) (fun _ => rfl))
 (vbl_one (vs_append (i := 8) (by kernel_rfl) (by kernel_rfl) (va_cons (ve_varS (i := 12) (by kernel_rfl) (by kernel_rfl)) va_nil (fun _ => rfl)) rfl (fun _ => rfl) (fun _ => rfl))))
 vbl_nil))) (fun _ _ => rfl)))
 vbl_nil)))))
 (vbl_one (vs_ret rfl (ve_tup (va_cons (ve_str (by kernel_rfl)) (va_cons (VF.e (vf_call h_reached (Nat.le_of_ble_eq_true (by kernel_rfl)) (by kernel_rfl) (fun _ => rfl) (va_cons (ve_varS (i := 5) (by kernel_rfl) (by kernel_rfl)) (va_cons (ve_varS (i := 4) (by kernel_rfl) (by kernel_rfl)) (va_cons (ve_varS (i := 1) (by kernel_rfl) (by kernel_rfl)) (va_cons (ve_varS (i := 2) (by kernel_rfl) (by kernel_rfl)) (va_cons (ve_varS (i := 3) (by kernel_rfl) (by kernel_rfl)) va_nil (fun _ => rfl)) (fun _ => rfl)) (fun _ => rfl)) (fun _ => rfl)) (fun _ => rfl)) (al_cons (al_cons (al_cons (al_cons (al_cons al_nil))))) (fun _ => rfl) (fun _ => rfl))) va_nil (fun _ => rfl)) (fun _ => rfl))))))))))))
def s_bars : DS := (sSeq (sIf (tAnd' (tBin dGt (eCall (f1 dLen) (aCons (eVar 0) aNil)) (eVar 1)) (tBin dEq (eVar 4) (eLst aNil)))
 (sRet (eC (.bl true)))
 sNext)
 (sSeq (sSet 5 (eCall d_masks (aCons (eVar 0) aNil)))
 (sSeq (sSet 6 (eBin dSub (eBin dShl (eC (.int 1)) (eCall (f1 dLen) (aCons (eVar 0) aNil))) (eC (.int 1))))
 (sSeq (sSet 7 (eCall (f1 fDictT) (aCons (eComp [10] (iOf (eVar 4)) (gN 10) tYesD (eTup (aCons (eVar 10) (aCons (eC (.bl true)) aNil)))) aNil)))
 (sSeq (sIf (tOr' (tBin dNotIn (eTup (aCons (eC (.int 0)) (aCons (eC (.int 0)) aNil))) (eVar 7)) (tAnd' (tBin dLe (eCall (f1 dLen) (aCons (eVar 0) aNil)) (eVar 1)) (tBin dIn (eTup (aCons (eVar 1) (aCons (eVar 6) aNil))) (eVar 7))))
 (sRet (eC (.bl false)))
 sNext)
 (sSeq (sFrzT 7 (sFor (iKeyT (eVar 7)) (gT (gsCons (gN 8) (gsCons (gN 9) gsNil)))
 (sIf (tAnd' (tChain' dLe dLt (eC (.int 0)) (eVar 8) (eVar 1)) (tAnd' (tChain' dLe dLe (eC (.int 0)) (eVar 9) (eVar 6)) (tBin dLe (eCall d_size_of (aCons (eVar 9) aNil)) (eVar 8))))
 (sFor (iOf (eCall d_next_sets (aCons (eVar 5) (aCons (eCall (f1 dLen) (aCons (eVar 0) aNil)) (aCons (eVar 2) (aCons (eVar 3) (aCons (eTup (aCons (eVar 8) (aCons (eVar 9) aNil))) aNil))))))) (gT (gsCons (gN 11) (gsCons (gN 12) gsNil)))
 (sIf (tBin dNotIn (eTup (aCons (eBin dAdd (eVar 8) (eC (.int 1))) (aCons (eVar 12) aNil))) (eVar 7))
 (sRet (eC (.bl false)))
 sNext))
 sNext)))
 (sRet (eC (.bl true)))))))))
def d_bars : List D → M D := defD 13 false s_bars
theorem sc_bars : FnScope ["netlist", "slots", "tracks", "pegs", "family", "some", "full", "known", "slot", "before", "stage", "place", "after"] ["netlist", "slots", "tracks", "pegs", "family"] (defScope (top 11)) := ⟨by decide +kernel, by decide +kernel, by decide +kernel, by decide +kernel, rfl, by decide +kernel, by decide +kernel⟩
theorem ok_bars {g : Glo} (G : Fx g) : VFn g 3 "bars" ["netlist", "slots", "tracks", "pegs", "family"] false true d_bars := by
  obtain ⟨a, fd, F, hm⟩ := G.f_bars
  have h_masks := ok_masks G
  have h_next_sets := ok_next_sets G
  have h_size_of := ok_size_of G
  refine VFn.of (N := ["netlist", "slots", "tracks", "pegs", "family", "some", "full", "known", "slot", "before", "stage", "place", "after"]) F sc_bars hm (F.bindsN fun _ _ _ _ _ _ us hl => match us, hl with | [_, _, _, _, _], _ => rfl) (Γ' := [false, false, false, false, false, false, false, false, false, false, false, false, false]) ?_
  show VBl _ [false, false, false, false, false, false, false, false, false, false, false, false, false] [false, false, false, false, false, false, false, false, false, false, false, false, false] (defBody (top 11)) s_bars
  exact (vbl_cons (Γ₁ := [false, false, false, false, false, false, false, false, false, false, false, false, false]) (vs_if (vw_t (vw_and (vt_cmp vop_gt (ve_callB vc_len (by kernel_rfl) G.b_len (by kernel_rfl) (va_cons (ve_var (i := 0) (by kernel_rfl)) va_nil (fun _ => rfl)) (fun _ => rfl) (fun _ => rfl)) (ve_var (i := 1) (by kernel_rfl)) rfl) (vw_and1 (vt_cmp vop_eq (ve_var (i := 4) (by kernel_rfl)) (VF.e (vf_lst va_nil)) rfl))))
 (vbl_one (vs_ret rfl ve_bl))
 vbl_nil)
 (vbl_cons (Γ₁ := [false, false, false, false, false, false, false, false, false, false, false, false, false]) (vs_set (i := 5) (by kernel_rfl) (VF.e (vf_call h_masks (Nat.le_of_ble_eq_true (by kernel_rfl)) (by kernel_rfl) (fun _ => rfl) (va_cons (ve_varS (i := 0) (by kernel_rfl) (by kernel_rfl)) va_nil (fun _ => rfl)) (al_cons al_nil) (fun _ => rfl) (fun _ => rfl))) (fun _ _ => rfl))
 (vbl_cons (Γ₁ := [false, false, false, false, false, false, false, false, false, false, false, false, false]) (vs_set (i := 6) (by kernel_rfl) (ve_bin vop_sub (ve_bin vop_shl ve_int (ve_callB vc_len (by kernel_rfl) G.b_len (by kernel_rfl) (va_cons (ve_var (i := 0) (by kernel_rfl)) va_nil (fun _ => rfl)) (fun _ => rfl) (fun _ => rfl))) ve_int) (fun _ _ => rfl))
 (vbl_cons (Γ₁ := [false, false, false, false, false, false, false, true, false, false, false, false, false]) (vs_setF (i := 7) (by kernel_rfl) (Nat.le_of_ble_eq_true (by kernel_rfl)) (vf_callTy vc_dictPT (by kernel_rfl) G.b_dict (by kernel_rfl) (va_cons (VF.e (vf_comp (own := [("stage", 10)]) (by kernel_rfl) rfl (by kernel_rfl) (by kernel_rfl) (by exact (vi_of (ve_var (i := 4) (by kernel_rfl)))) (vg_name (i := 10) (by kernel_rfl)) (by exact vc_nil) (by exact (ve_tup (va_cons (ve_varS (i := 10) (by kernel_rfl) (by kernel_rfl)) (va_cons ve_bl va_nil (fun _ => rfl)) (fun _ => rfl)))) (fun _ _ => rfl))) va_nil (fun _ => rfl)) (fun _ => rfl) (fun _ => rfl)) (fun _ _ => rfl))
 (vbl_cons (Γ₁ := [false, false, false, false, false, false, false, true, false, false, false, false, false]) (vs_if (vw_t (vw_or (vt_cmp vop_notin (ve_tup (va_cons ve_int (va_cons ve_int va_nil (fun _ => rfl)) (fun _ => rfl))) (ve_var (i := 7) (by kernel_rfl)) rfl) (vw_or1 (vw_t (vw_and (vt_cmp vop_le (ve_callB vc_len (by kernel_rfl) G.b_len (by kernel_rfl) (va_cons (ve_var (i := 0) (by kernel_rfl)) va_nil (fun _ => rfl)) (fun _ => rfl) (fun _ => rfl)) (ve_var (i := 1) (by kernel_rfl)) rfl) (vw_and1 (vt_cmp vop_in (ve_tup (va_cons (ve_varS (i := 1) (by kernel_rfl) (by kernel_rfl)) (va_cons (ve_varS (i := 6) (by kernel_rfl) (by kernel_rfl)) va_nil (fun _ => rfl)) (fun _ => rfl))) (ve_var (i := 7) (by kernel_rfl)) rfl)))))))
 (vbl_one (vs_ret rfl ve_bl))
 vbl_nil)
 (vbl_cons (Γ₁ := [false, false, false, false, false, false, false, false, false, false, false, false, false]) (vs_frzT 7 rfl (show VSt _ [false, false, false, false, false, false, false, false, false, false, false, false, false] _ _ _ from (vs_for (Γ₁ := [false, false, false, false, false, false, false, false, false, false, false, false, false]) (vi_keyT (ve_varS (i := 7) (by kernel_rfl) (by kernel_rfl))) (vg_tup (vgs_cons (vg_name (i := 8) (by kernel_rfl)) (vgs_cons (vg_name (i := 9) (by kernel_rfl)) vgs_nil (fun _ => rfl)) (fun _ => rfl)) (gl_cons (gl_cons gl_nil)) (fun _ => rfl) (fun _ => rfl))
 (vbl_one (vs_if (vw_t (vw_and (vt_chain vop_le vop_lt ve_int (ve_var (i := 8) (by kernel_rfl)) (ve_var (i := 1) (by kernel_rfl)) rfl) (vw_and (vt_chain vop_le vop_le ve_int (ve_var (i := 9) (by kernel_rfl)) (ve_var (i := 6) (by kernel_rfl)) rfl) (vw_and1 (vt_cmp vop_le (ve_call h_size_of (Nat.le_of_ble_eq_true (by kernel_rfl)) (by kernel_rfl) (fun _ => rfl) (va_cons (ve_varS (i := 9) (by kernel_rfl) (by kernel_rfl)) va_nil (fun _ => rfl)) (al_cons al_nil) (fun _ => rfl) (fun _ => rfl)) (ve_var (i := 8) (by kernel_rfl)) rfl)))))
 (vbl_one (vs_for (Γ₁ := [false, false, false, false, false, false, false, false, false, false, false, false, false]) (vi_of (VF.e (vf_call h_next_sets (Nat.le_of_ble_eq_true (by kernel_rfl)) (by kernel_rfl) (fun _ => rfl) (va_cons (ve_varS (i := 5) (by kernel_rfl) (by kernel_rfl)) (va_cons (ve_callB vc_len (by kernel_rfl) G.b_len (by kernel_rfl) (va_cons (ve_var (i := 0) (by kernel_rfl)) va_nil (fun _ => rfl)) (fun _ => rfl) (fun _ => rfl)) (va_cons (ve_varS (i := 2) (by kernel_rfl) (by kernel_rfl)) (va_cons (ve_varS (i := 3) (by kernel_rfl) (by kernel_rfl)) (va_cons (ve_tup (va_cons (ve_varS (i := 8) (by kernel_rfl) (by kernel_rfl)) (va_cons (ve_varS (i := 9) (by kernel_rfl) (by kernel_rfl)) va_nil (fun _ => rfl)) (fun _ => rfl))) va_nil (fun _ => rfl)) (fun _ => rfl)) (fun _ => rfl)) (fun _ => rfl)) (fun _ => rfl)) (al_cons (al_cons (al_cons (al_cons (al_cons al_nil))))) (fun _ => rfl) (fun _ => rfl)))) (vg_tup (vgs_cons (vg_name (i := 11) (by kernel_rfl)) (vgs_cons (vg_name (i := 12) (by kernel_rfl)) vgs_nil (fun _ => rfl)) (fun _ => rfl)) (gl_cons (gl_cons gl_nil)) (fun _ => rfl) (fun _ => rfl))
 (vbl_one (vs_if (vt_cmp vop_notin (ve_tup (va_cons (ve_bin vop_add (ve_var (i := 8) (by kernel_rfl)) ve_int) (va_cons (ve_varS (i := 12) (by kernel_rfl) (by kernel_rfl)) va_nil (fun _ => rfl)) (fun _ => rfl))) (ve_var (i := 7) (by kernel_rfl)) rfl)
 (vbl_one (vs_ret rfl ve_bl))
 vbl_nil)) (fun _ _ => rfl)))
 vbl_nil)) (fun _ _ => rfl))))
 (vbl_one (vs_ret rfl ve_bl))))))))
def s_x_law_box : DS := (sRet (eLst (aCons (eCall (f1 fList) (aCons (eSl fSl (eVar 0) oNone (oSome (eC (.int 63)))) aNil)) (aCons (eC (.int 0)) (aCons (eC (.int 0)) (aCons (eC (.int 17)) aNil))))))
def d_x_law_box : List D → M D := defD 1 true s_x_law_box
theorem sc_x_law_box : FnScope ["_law_script"] ["_law_script"] (defScope (top 13)) := ⟨by decide +kernel, by decide +kernel, by decide +kernel, by decide +kernel, rfl, by decide +kernel, by decide +kernel⟩
theorem ok_x_law_box {g : Glo} (G : Fx g) : VFn g 1 "_law_box" ["_law_script"] true true d_x_law_box := by
  obtain ⟨a, fd, F, hm⟩ := G.f_x_law_box
  refine VFn.of (N := ["_law_script"]) F sc_x_law_box hm (F.bindsN fun _ _ _ _ _ _ us hl => match us, hl with | [_], _ => rfl) (Γ' := [false]) ?_
  show VBl _ [false] [false] (defBody (top 13)) s_x_law_box
  exact (vbl_one (vs_retF rfl (vf_lst (va_cons (VF.e (vf_callTy vc_list (by kernel_rfl) G.b_list (by kernel_rfl) (va_cons (VF.e (vf_sl (ve_var (i := 0) (by kernel_rfl)) vo_none (vo_some ve_int))) va_nil (fun _ => rfl)) (fun _ => rfl) (fun _ => rfl))) (va_cons ve_int (va_cons ve_int (va_cons ve_int va_nil (fun _ => rfl)) (fun _ => rfl)) (fun _ => rfl)) (fun _ => rfl)))))
def s_x_law_take : DS := (sSeq (sIf (tBin dGt (eBin dIx (eAny 0) (eC (.int 2))) (eC (.int 0)))
 (sSeq (sSet 4 (eBin dIx (eAny 0) (eC (.int 2))))
 (sSeq (sPutC 0 (eC (.int 2)) (eBin dFdiv (eVar 4) (eVar 1)))
 (sRet (eBin dMod (eVar 4) (eVar 1)))))
 sNext)
 (sSeq (sSet 2 (eC (.int 0)))
 (sSeq (sIf (tBin dLt (eBin dIx (eAny 0) (eC (.int 1))) (eCall (f1 dLen) (aCons (eBin dIx (eAny 0) (eC (.int 0))) aNil)))
 (sSeq (sSet 2 (eBin dIx (eBin dIx (eAny 0) (eC (.int 0))) (eBin dIx (eAny 0) (eC (.int 1)))))
 (sAugC 0 (eC (.int 1)) dIAdd (eC (.int 1))))
 sNext)
 (sSeq (sIf (tBin dGe (eVar 2) (eBin dPow (eC (.int 10)) (eC (.int 18))))
 (sSeq (sPutC 0 (eC (.int 2)) (eBin dFdiv (eVar 2) (eVar 1)))
 (sRet (eBin dMod (eVar 2) (eVar 1))))
 sNext)
 (sSeq (sSet 3 (eBin dIx (eAny 0) (eC (.int 3))))
 (sSeq (sSet 3 (eBin dAdd (eBin dAdd (eBin dPow (eVar 3) (eC (.int 3))) (eBin dMul (eC (.int 48271)) (eVar 3))) (eBin dMul (eC (.int 69621)) (eBin dMod (eVar 2) (eC (.int 2147483629))))))
 (sSeq (sPutC 0 (eC (.int 3)) (eBin dMod (eBin dAdd (eVar 3) (eC (.int 11))) (eC (.int 2147483629))))
 (sRet (eBin dMod (eBin dFdiv (eBin dIx (eAny 0) (eC (.int 3))) (eC (.int 64))) (eVar 1))))))))))
def d_x_law_take : List D → M D := defD 5 false s_x_law_take
theorem sc_x_law_take : FnScope ["_law_box_here", "_law_many", "_law_cell", "_law_seed", "_law_rest"] ["_law_box_here", "_law_many"] (defScope (top 14)) := ⟨by decide +kernel, by decide +kernel, by decide +kernel, by decide +kernel, rfl, by decide +kernel, by decide +kernel⟩
theorem ok_x_law_take {g : Glo} (G : Fx g) : VFn g 1 "_law_take" ["_law_box_here", "_law_many"] false false d_x_law_take := by
  obtain ⟨a, fd, F, hm⟩ := G.f_x_law_take
  refine VFn.of (N := ["_law_box_here", "_law_many", "_law_cell", "_law_seed", "_law_rest"]) F sc_x_law_take hm (F.bindsN fun _ _ _ _ _ _ us hl => match us, hl with | [_, _], _ => rfl) (Γ' := [false, false, false, false, false]) ?_
  show VBl _ [false, false, false, false, false] [false, false, false, false, false] (defBody (top 14)) s_x_law_take
  exact (vbl_cons (Γ₁ := [false, false, false, false, false]) (vs_if (vt_cmp vop_gt (ve_pure (ve_ix (ve_any (by kernel_rfl) rfl) ve_int (fun _ _ => rfl))) ve_int rfl)
 (vbl_cons (Γ₁ := [false, false, false, false, false]) (vs_set (i := 4) (by kernel_rfl) (ve_pure (ve_ix (ve_any (by kernel_rfl) rfl) ve_int (fun _ _ => rfl))) (fun _ _ => rfl))
 (vbl_cons (Γ₁ := [false, false, false, false, false]) (vs_putC rfl (by kernel_rfl) ve_int (ve_bin vop_fdiv (ve_var (i := 4) (by kernel_rfl)) (ve_var (i := 1) (by kernel_rfl))) (by intro _ _; rfl) (fun _ _ => rfl) (fun _ => rfl) (fun _ => rfl))
 (vbl_one (vs_ret rfl (ve_bin vop_mod (ve_var (i := 4) (by kernel_rfl)) (ve_var (i := 1) (by kernel_rfl)))))))
 vbl_nil)
 (vbl_cons (Γ₁ := [false, false, false, false, false]) (vs_set (i := 2) (by kernel_rfl) ve_int (fun _ _ => rfl))
 (vbl_cons (Γ₁ := [false, false, false, false, false]) (vs_if (vt_cmp vop_lt (ve_pure (ve_ix (ve_any (by kernel_rfl) rfl) ve_int (fun _ _ => rfl))) (ve_callB vc_len (by kernel_rfl) G.b_len (by kernel_rfl) (va_cons (ve_pure (ve_ix (ve_any (by kernel_rfl) rfl) ve_int (fun _ _ => rfl))) va_nil (fun _ => rfl)) (fun _ => rfl) (fun _ => rfl)) rfl)
 (vbl_cons (Γ₁ := [false, false, false, false, false]) (vs_set (i := 2) (by kernel_rfl) (ve_ix (ve_pure (ve_ix (ve_any (by kernel_rfl) rfl) ve_int (fun _ _ => rfl))) (ve_pure (ve_ix (ve_any (by kernel_rfl) rfl) ve_int (fun _ _ => rfl))) (fun _ _ => rfl)) (fun _ _ => rfl))
 (vbl_one (vs_augC rfl vop_iadd (by kernel_rfl) ve_int ve_int (by intro _ _ _; rfl))))
 vbl_nil)
 (vbl_cons (Γ₁ := [false, false, false, false, false]) (vs_if (vt_cmp vop_ge (ve_var (i := 2) (by kernel_rfl)) (ve_bin vop_pow ve_int ve_int) rfl)
 (vbl_cons (Γ₁ := [false, false, false, false, false]) (vs_putC rfl (by kernel_rfl) ve_int (ve_bin vop_fdiv (ve_var (i := 2) (by kernel_rfl)) (ve_var (i := 1) (by kernel_rfl))) (by intro _ _; rfl) (fun _ _ => rfl) (fun _ => rfl) (fun _ => rfl))
 (vbl_one (vs_ret rfl (ve_bin vop_mod (ve_var (i := 2) (by kernel_rfl)) (ve_var (i := 1) (by kernel_rfl))))))
 vbl_nil)
 (vbl_cons (Γ₁ := [false, false, false, false, false]) (vs_set (i := 3) (by kernel_rfl) (ve_pure (ve_ix (ve_any (by kernel_rfl) rfl) ve_int (fun _ _ => rfl))) (fun _ _ => rfl))
 (vbl_cons (Γ₁ := [false, false, false, false, false]) (vs_set (i := 3) (by kernel_rfl) (ve_bin vop_add (ve_bin vop_add (ve_bin vop_pow (ve_var (i := 3) (by kernel_rfl)) ve_int) (ve_bin vop_mul ve_int (ve_var (i := 3) (by kernel_rfl)))) (ve_bin vop_mul ve_int (ve_bin vop_mod (ve_var (i := 2) (by kernel_rfl)) ve_int))) (fun _ _ => rfl))
 (vbl_cons (Γ₁ := [false, false, false, false, false]) (vs_putC rfl (by kernel_rfl) ve_int (ve_bin vop_mod (ve_bin vop_add (ve_var (i := 3) (by kernel_rfl)) ve_int) ve_int) (by intro _ _; rfl) (fun _ _ => rfl) (fun _ => rfl) (fun _ => rfl))
 (vbl_one (vs_ret rfl (ve_bin vop_mod (ve_bin vop_fdiv (ve_pure (ve_ix (ve_any (by kernel_rfl) rfl) ve_int (fun _ _ => rfl))) ve_int) (ve_var (i := 1) (by kernel_rfl))))))))))))
def s_x_law_same (rec : List D → M D) : DS := (sSeq (sIf (tOr' (tOf (eUn (dIsi "list") (eVar 1))) (tOf (eUn (dIsi "tuple") (eVar 1))))
 (sSeq (sIf (tOr' (tBin dNe (eUn (dIsi "list") (eVar 0)) (eUn (dIsi "list") (eVar 1))) (tBin dNe (eUn (dIsi "tuple") (eVar 0)) (eUn (dIsi "tuple") (eVar 1))))
 (sRet (eC (.bl false)))
 sNext)
 (sRet (eAndT (eBin dEq (eCall (f1 dLen) (aCons (eVar 0) aNil)) (eCall (f1 dLen) (aCons (eVar 1) aNil))) (eCall (f1 dAll) (aCons (eComp [2, 3] (iZipD (eVar 0) (eVar 1)) (gT (gsCons (gN 2) (gsCons (gN 3) gsNil))) tYesD (eCall rec (aCons (eVar 2) (aCons (eVar 3) aNil)))) aNil)))))
 sNext)
 (sSeq (sIf (tOr' (tBin dIsN (eVar 0) (eC .non)) (tBin dIsN (eVar 1) (eC .non)))
 (sRet (eAndT (eBin dIsN (eVar 0) (eC .non)) (eBin dIsN (eVar 1) (eC .non))))
 sNext)
 (sSeq (sIf (tOr' (tBin dNe (eUn (dIsi "bool") (eVar 0)) (eUn (dIsi "bool") (eVar 1))) (tBin dNe (eUn (dIsi "int") (eVar 0)) (eUn (dIsi "int") (eVar 1))))
 (sRet (eC (.bl false)))
 sNext)
 (sRet (eAndT (eBin dEq (eUn (dIsi "str") (eVar 0)) (eUn (dIsi "str") (eVar 1))) (eBin dEq (eVar 0) (eVar 1)))))))
def d_x_law_same : Nat → List D → M D
  | 0 => fun _ _ => .bad
  | n + 1 => defD 4 false (s_x_law_same (d_x_law_same n))
def fuel_x_law_same : Nat := 8
theorem sc_x_law_same : FnScope ["_law_found", "_law_due", "_law_one", "_law_other"] ["_law_found", "_law_due"] (defScope (top 15)) := ⟨by decide +kernel, by decide +kernel, by decide +kernel, by decide +kernel, rfl, by decide +kernel, by decide +kernel⟩
theorem okn_x_law_same {g : Glo} (G : Fx g) : ∀ n, VFn g (0 + n) "_law_same" ["_law_found", "_law_due"] false true (d_x_law_same n)
  | 0 => by
    obtain ⟨a, fd, F, hm⟩ := G.f_x_law_same
    refine ⟨a, fd, ?_, hm, F.kp, F.bindsN fun _ _ _ _ _ _ us hl => match us, hl with | [_, _], _ => rfl⟩
    exact (fn_zero F)
  | n + 1 => by
    obtain ⟨a, fd, F, hm⟩ := G.f_x_law_same
    have hrec := okn_x_law_same G n
    refine VFn.of (N := ["_law_found", "_law_due", "_law_one", "_law_other"]) F sc_x_law_same hm (F.bindsN fun _ _ _ _ _ _ us hl => match us, hl with | [_, _], _ => rfl) (Γ' := [false, false, false, false]) ?_
    show VBl _ [false, false, false, false] [false, false, false, false] (defBody (top 15)) (s_x_law_same (d_x_law_same n))
    exact (vbl_cons (Γ₁ := [false, false, false, false]) (vs_if (vw_t (vw_or (vt_of (ve_isi (by kernel_rfl) G.b_isinstance (by kernel_rfl) G.b_list (by kernel_rfl) (ve_var (i := 1) (by kernel_rfl)) (fun _ => rfl) (fun _ => rfl)) (fun _ _ => rfl)) (vw_or1 (vt_of (ve_isi (by kernel_rfl) G.b_isinstance (by kernel_rfl) G.b_tuple (by kernel_rfl) (ve_var (i := 1) (by kernel_rfl)) (fun _ => rfl) (fun _ => rfl)) (fun _ _ => rfl)))))
 (vbl_cons (Γ₁ := [false, false, false, false]) (vs_if (vw_t (vw_or (vt_cmp vop_ne (ve_isi (by kernel_rfl) G.b_isinstance (by kernel_rfl) G.b_list (by kernel_rfl) (ve_var (i := 0) (by kernel_rfl)) (fun _ => rfl) (fun _ => rfl)) (ve_isi (by kernel_rfl) G.b_isinstance (by kernel_rfl) G.b_list (by kernel_rfl) (ve_var (i := 1) (by kernel_rfl)) (fun _ => rfl) (fun _ => rfl)) rfl) (vw_or1 (vt_cmp vop_ne (ve_isi (by kernel_rfl) G.b_isinstance (by kernel_rfl) G.b_tuple (by kernel_rfl) (ve_var (i := 0) (by kernel_rfl)) (fun _ => rfl) (fun _ => rfl)) (ve_isi (by kernel_rfl) G.b_isinstance (by kernel_rfl) G.b_tuple (by kernel_rfl) (ve_var (i := 1) (by kernel_rfl)) (fun _ => rfl) (fun _ => rfl)) rfl))))
 (vbl_one (vs_ret rfl ve_bl))
 vbl_nil)
 (vbl_one (vs_ret rfl (ve_andT (ve_cmp vop_eq (ve_callB vc_len (by kernel_rfl) G.b_len (by kernel_rfl) (va_cons (ve_var (i := 0) (by kernel_rfl)) va_nil (fun _ => rfl)) (fun _ => rfl) (fun _ => rfl)) (ve_callB vc_len (by kernel_rfl) G.b_len (by kernel_rfl) (va_cons (ve_var (i := 1) (by kernel_rfl)) va_nil (fun _ => rfl)) (fun _ => rfl) (fun _ => rfl)) rfl) (ve_one (ve_callB vc_all (by kernel_rfl) G.b_all (by kernel_rfl) (va_cons (VF.e (vf_comp (own := [("_law_one", 2), ("_law_other", 3)]) (by kernel_rfl) rfl (by kernel_rfl) (by kernel_rfl) (by exact (vi_zip (by kernel_rfl) G.b_zip (ve_var (i := 0) (by kernel_rfl)) (ve_var (i := 1) (by kernel_rfl)) (fun _ => rfl) (fun _ => rfl) (fun _ => rfl))) (vg_tup (vgs_cons (vg_name (i := 2) (by kernel_rfl)) (vgs_cons (vg_name (i := 3) (by kernel_rfl)) vgs_nil (fun _ => rfl)) (fun _ => rfl)) (gl_cons (gl_cons gl_nil)) (fun _ => rfl) (fun _ => rfl)) (by exact vc_nil) (by exact (ve_call hrec (Nat.le_refl _) (by kernel_rfl) (fun _ => rfl) (va_cons (ve_varS (i := 2) (by kernel_rfl) (by kernel_rfl)) (va_cons (ve_varS (i := 3) (by kernel_rfl) (by kernel_rfl)) va_nil (fun _ => rfl)) (fun _ => rfl)) (al_cons (al_cons al_nil)) (fun _ => rfl) (fun _ => rfl))) (fun _ _ => rfl))) va_nil (fun _ => rfl)) (fun _ => rfl) (fun _ => rfl)))))))
 vbl_nil)
 (vbl_cons (Γ₁ := [false, false, false, false]) (vs_if (vw_t (vw_or (vt_cmp vop_is (ve_var (i := 0) (by kernel_rfl)) ve_non rfl) (vw_or1 (vt_cmp vop_is (ve_var (i := 1) (by kernel_rfl)) ve_non rfl))))
 (vbl_one (vs_ret rfl (ve_andT (ve_cmp vop_is (ve_var (i := 0) (by kernel_rfl)) ve_non rfl) (ve_one (ve_cmp vop_is (ve_var (i := 1) (by kernel_rfl)) ve_non rfl)))))
 vbl_nil)
 (vbl_cons (Γ₁ := [false, false, false, false]) (vs_if (vw_t (vw_or (vt_cmp vop_ne (ve_isi (by kernel_rfl) G.b_isinstance (by kernel_rfl) G.b_bool (by kernel_rfl) (ve_var (i := 0) (by kernel_rfl)) (fun _ => rfl) (fun _ => rfl)) (ve_isi (by kernel_rfl) G.b_isinstance (by kernel_rfl) G.b_bool (by kernel_rfl) (ve_var (i := 1) (by kernel_rfl)) (fun _ => rfl) (fun _ => rfl)) rfl) (vw_or1 (vt_cmp vop_ne (ve_isi (by kernel_rfl) G.b_isinstance (by kernel_rfl) G.b_int (by kernel_rfl) (ve_var (i := 0) (by kernel_rfl)) (fun _ => rfl) (fun _ => rfl)) (ve_isi (by kernel_rfl) G.b_isinstance (by kernel_rfl) G.b_int (by kernel_rfl) (ve_var (i := 1) (by kernel_rfl)) (fun _ => rfl) (fun _ => rfl)) rfl))))
 (vbl_one (vs_ret rfl ve_bl))
 vbl_nil)
 (vbl_one (vs_ret rfl (ve_andT (ve_cmp vop_eq (ve_isi (by kernel_rfl) G.b_isinstance (by kernel_rfl) G.b_str (by kernel_rfl) (ve_var (i := 0) (by kernel_rfl)) (fun _ => rfl) (fun _ => rfl)) (ve_isi (by kernel_rfl) G.b_isinstance (by kernel_rfl) G.b_str (by kernel_rfl) (ve_var (i := 1) (by kernel_rfl)) (fun _ => rfl) (fun _ => rfl)) rfl) (ve_one (ve_cmp vop_eq (ve_var (i := 0) (by kernel_rfl)) (ve_var (i := 1) (by kernel_rfl)) rfl))))))))
theorem ok_x_law_same {g : Glo} (G : Fx g) : VFn g 8 "_law_same" ["_law_found", "_law_due"] false true (d_x_law_same fuel_x_law_same) := okn_x_law_same G 8
def s_x_law_names : DS := (sSeq (sSet 2 (eC (.str [97, 98, 99, 100, 101, 102, 103, 104, 105, 106, 107, 108, 109, 110, 111, 112, 113, 114, 115, 116, 117, 118, 119, 120, 121, 122])))
 (sSeq (sSet 3 (eM1 dJoin (eC (.str [])) (eComp [7] (iRange1 (eCall d_x_law_take (aCons (eVar 0) (aCons (eC (.int 8)) aNil)))) (gN 7) tYesD (eBin dIx (eVar 2) (eCall d_x_law_take (aCons (eVar 0) (aCons (eC (.int 26)) aNil)))))))
 (sSeq (sSet 4 (eCall d_x_law_take (aCons (eVar 0) (aCons (eC (.int 26)) aNil))))
 (sSeq (sSet 5 (eComp [7] (iRange1 (eVar 1)) (gN 7) tYesD (eBin dAdd (eVar 3) (eBin dIx (eVar 2) (eBin dMod (eBin dAdd (eVar 4) (eBin dMul (eC (.int 11)) (eVar 7))) (eC (.int 26)))))))
 (sSeq (sSet 6 (eComp [7] (iRange1 (eVar 1)) (gN 7) tYesD (eBin dAdd (eSl dSl (eBin dIx (eVar 5) (eBin dSub (eVar 7) (eBin dMod (eVar 7) (eC (.int 2))))) (oSome (eUn dNeg (eC (.int 7)))) oNone) (eBin dIx (eLst (aCons (eC (.str [])) (aCons (eC (.str [98])) aNil))) (eBin dMod (eVar 7) (eC (.int 2)))))))
 (sRet (eBin dIx (eLst (aCons (eVar 5) (aCons (eVar 6) aNil))) (eBin dFdiv (eCall d_x_law_take (aCons (eVar 0) (aCons (eC (.int 3)) aNil))) (eC (.int 2))))))))))
def d_x_law_names : List D → M D := defD 8 false s_x_law_names
theorem sc_x_law_names : FnScope ["_law_box_here", "_law_sides", "_law_letters", "_law_first", "_law_at", "_law_folk", "_law_pairs", "_law_k"] ["_law_box_here", "_law_sides"] (defScope (top 16)) := ⟨by decide +kernel, by decide +kernel, by decide +kernel, by decide +kernel, rfl, by decide +kernel, by decide +kernel⟩
theorem ok_x_law_names {g : Glo} (G : Fx g) : VFn g 2 "_law_names" ["_law_box_here", "_law_sides"] false false d_x_law_names := by
  obtain ⟨a, fd, F, hm⟩ := G.f_x_law_names
  have h_x_law_take := ok_x_law_take G
  refine VFn.of (N := ["_law_box_here", "_law_sides", "_law_letters", "_law_first", "_law_at", "_law_folk", "_law_pairs", "_law_k"]) F sc_x_law_names hm (F.bindsN fun _ _ _ _ _ _ us hl => match us, hl with | [_, _], _ => rfl) (Γ' := [false, false, false, false, false, false, false, false]) ?_
  show VBl _ [false, false, false, false, false, false, false, false] [false, false, false, false, false, false, false, false] (defBody (top 16)) s_x_law_names
  exact (vbl_cons (Γ₁ := [false, false, false, false, false, false, false, false]) (vs_set (i := 2) (by kernel_rfl) (ve_str (by kernel_rfl)) (fun _ _ => rfl))
 (vbl_cons (Γ₁ := [false, false, false, false, false, false, false, false]) (vs_set (i := 3) (by kernel_rfl) (ve_join (ve_str (by kernel_rfl)) (VF.e (vf_comp (own := [("_law_k", 7)]) (by kernel_rfl) rfl (by kernel_rfl) (by kernel_rfl) (by exact (vi_range1 (by kernel_rfl) G.b_range (ve_call h_x_law_take (Nat.le_of_ble_eq_true (by kernel_rfl)) (by kernel_rfl) (by intro h; cases h) (va_cons (ve_varS (i := 0) (by kernel_rfl) (by kernel_rfl)) (va_cons ve_int va_nil (fun _ => rfl)) (fun _ => rfl)) (al_cons (al_cons al_nil)) (fun _ => rfl) (fun _ => rfl)) (fun _ => rfl))) (vg_name (i := 7) (by kernel_rfl)) (by exact vc_nil) (by exact (ve_ix (ve_var (i := 2) (by kernel_rfl)) (ve_call h_x_law_take (Nat.le_of_ble_eq_true (by kernel_rfl)) (by kernel_rfl) (by intro h; cases h) (va_cons (ve_varS (i := 0) (by kernel_rfl) (by kernel_rfl)) (va_cons ve_int va_nil (fun _ => rfl)) (fun _ => rfl)) (al_cons (al_cons al_nil)) (fun _ => rfl) (fun _ => rfl)) (fun _ _ => rfl))) (fun _ _ => rfl))) (fun _ => rfl) (fun _ => rfl) rfl) (fun _ _ => rfl))
 (vbl_cons (Γ₁ := [false, false, false, false, false, false, false, false]) (vs_set (i := 4) (by kernel_rfl) (ve_call h_x_law_take (Nat.le_of_ble_eq_true (by kernel_rfl)) (by kernel_rfl) (by intro h; cases h) (va_cons (ve_varS (i := 0) (by kernel_rfl) (by kernel_rfl)) (va_cons ve_int va_nil (fun _ => rfl)) (fun _ => rfl)) (al_cons (al_cons al_nil)) (fun _ => rfl) (fun _ => rfl)) (fun _ _ => rfl))
 (vbl_cons (Γ₁ := [false, false, false, false, false, false, false, false]) (vs_fz 5 (vs_setK (i := 5) (by kernel_rfl) (Nat.le_of_ble_eq_true (by kernel_rfl)) (by kernel_rfl) (vf_comp (own := [("_law_k", 7)]) (by kernel_rfl) rfl (by kernel_rfl) (by kernel_rfl) (by exact (vi_range1 (by kernel_rfl) G.b_range (ve_var (i := 1) (by kernel_rfl)) (fun _ => rfl))) (vg_name (i := 7) (by kernel_rfl)) (by exact vc_nil) (by exact (ve_bin vop_add (ve_var (i := 3) (by kernel_rfl)) (ve_ix (ve_var (i := 2) (by kernel_rfl)) (ve_bin vop_mod (ve_bin vop_add (ve_var (i := 4) (by kernel_rfl)) (ve_bin vop_mul ve_int (ve_var (i := 7) (by kernel_rfl)))) ve_int) (fun _ _ => rfl)))) (fun _ _ => rfl)) (fun _ _ h => sw_cell h)))
 (vbl_cons (Γ₁ := [false, false, false, false, false, false, false, false]) (vs_fz 6 (vs_setC (i := 6) rfl (by kernel_rfl) (Nat.le_of_ble_eq_true (by kernel_rfl)) rfl rfl (by kernel_rfl) (own := [("_law_k", 7)]) (by kernel_rfl) rfl (by kernel_rfl) (by kernel_rfl) (by exact (vi_range1 (by kernel_rfl) G.b_range (ve_var (i := 1) (by kernel_rfl)) (fun _ => rfl))) (vg_name (i := 7) (by kernel_rfl)) (by exact vc_nil) (by exact (ve_bin vop_add (ve_sl (ve_ix (ve_var (i := 5) (by kernel_rfl)) (ve_bin vop_sub (ve_var (i := 7) (by kernel_rfl)) (ve_bin vop_mod (ve_var (i := 7) (by kernel_rfl)) ve_int)) (fun _ _ => rfl)) (vo_some (ve_un vun_neg ve_int)) vo_none) (ve_ix (VF.e (vf_lst (va_cons (ve_str (by kernel_rfl)) (va_cons (ve_str (by kernel_rfl)) va_nil (fun _ => rfl)) (fun _ => rfl)))) (ve_bin vop_mod (ve_var (i := 7) (by kernel_rfl)) ve_int) (fun _ _ => rfl)))) (fun _ _ => rfl)))
 (vbl_one (vs_ret rfl (ve_ix (VF.e (vf_lst (va_cons (ve_varS (i := 5) (by kernel_rfl) (by kernel_rfl)) (va_cons (ve_varS (i := 6) (by kernel_rfl) (by kernel_rfl)) va_nil (fun _ => rfl)) (fun _ => rfl)))) (ve_bin vop_fdiv (ve_call h_x_law_take (Nat.le_of_ble_eq_true (by kernel_rfl)) (by kernel_rfl) (by intro h; cases h) (va_cons (ve_varS (i := 0) (by kernel_rfl) (by kernel_rfl)) (va_cons ve_int va_nil (fun _ => rfl)) (fun _ => rfl)) (al_cons (al_cons al_nil)) (fun _ => rfl) (fun _ => rfl)) ve_int) (fun _ _ => rfl)))))))))
def s_x_law_bits : DS := (sRet (eM1 dJoin (eC (.str [])) (eComp [2] (iRange1 (eVar 1)) (gN 2) tYesD (eBin dIx (eLst (aCons (eC (.str [48])) (aCons (eC (.str [49])) aNil))) (eCall d_x_law_take (aCons (eVar 0) (aCons (eC (.int 2)) aNil)))))))
def d_x_law_bits : List D → M D := defD 3 false s_x_law_bits
theorem sc_x_law_bits : FnScope ["_law_box_here", "_law_many", "_law_k"] ["_law_box_here", "_law_many"] (defScope (top 17)) := ⟨by decide +kernel, by decide +kernel, by decide +kernel, by decide +kernel, rfl, by decide +kernel, by decide +kernel⟩
theorem ok_x_law_bits {g : Glo} (G : Fx g) : VFn g 2 "_law_bits" ["_law_box_here", "_law_many"] false false d_x_law_bits := by
  obtain ⟨a, fd, F, hm⟩ := G.f_x_law_bits
  have h_x_law_take := ok_x_law_take G
  refine VFn.of (N := ["_law_box_here", "_law_many", "_law_k"]) F sc_x_law_bits hm (F.bindsN fun _ _ _ _ _ _ us hl => match us, hl with | [_, _], _ => rfl) (Γ' := [false, false, false]) ?_
  show VBl _ [false, false, false] [false, false, false] (defBody (top 17)) s_x_law_bits
  exact (vbl_one (vs_ret rfl (ve_join (ve_str (by kernel_rfl)) (VF.e (vf_comp (own := [("_law_k", 2)]) (by kernel_rfl) rfl (by kernel_rfl) (by kernel_rfl) (by exact (vi_range1 (by kernel_rfl) G.b_range (ve_var (i := 1) (by kernel_rfl)) (fun _ => rfl))) (vg_name (i := 2) (by kernel_rfl)) (by exact vc_nil) (by exact (ve_ix (VF.e (vf_lst (va_cons (ve_str (by kernel_rfl)) (va_cons (ve_str (by kernel_rfl)) va_nil (fun _ => rfl)) (fun _ => rfl)))) (ve_call h_x_law_take (Nat.le_of_ble_eq_true (by kernel_rfl)) (by kernel_rfl) (by intro h; cases h) (va_cons (ve_varS (i := 0) (by kernel_rfl) (by kernel_rfl)) (va_cons ve_int va_nil (fun _ => rfl)) (fun _ => rfl)) (al_cons (al_cons al_nil)) (fun _ => rfl) (fun _ => rfl)) (fun _ _ => rfl))) (fun _ _ => rfl))) (fun _ => rfl) (fun _ => rfl) rfl)))
def s_x_law_some_net : DS := (sSeq (sSet 4 (eCall d_x_law_names (aCons (eVar 0) (aCons (eC (.int 16)) aNil))))
 (sSeq (sSet 5 (eSl fSl (eVar 4) oNone (oSome (eCall d_x_law_take (aCons (eVar 0) (aCons (eBin dAdd (eVar 1) (eC (.int 1))) aNil))))))
 (sSeq (sSet 6 (eSl fSl (eVar 4) (oSome (eC (.int 4))) (oSome (eBin dAdd (eC (.int 4)) (eCall d_x_law_take (aCons (eVar 0) (aCons (eBin dAdd (eVar 2) (eC (.int 1))) aNil)))))))
 (sSeq (sSet 7 (eSl fSl (eComp [10] (iOf (eVar 6)) (gN 10) (tBin dEq (eCall d_x_law_take (aCons (eVar 0) (aCons (eC (.int 3)) aNil))) (eC (.int 0))) (eVar 10)) oNone (oSome (eC (.int 4)))))
 (sSeq (sSet 8 (eComp [10] (iOf (eVar 5)) (gN 10) tYesD (eTup (aCons (eC (.str [105, 110])) (aCons (eVar 10) (aCons (eC (.str [])) (aCons (eTup aNil) aNil)))))))
 (sSeq (sSet 9 (eBin fAdd (eVar 5) (eVar 7)))
 (sSeq (sFor (iOf (eVar 6)) (gN 10)
 (sIf (tBin dIn (eVar 10) (eVar 7))
 (sSeq (sSet 14 (eBin fAdd (eVar 5) (eVar 6)))
 (sMut 8 gApp (aCons (eTup (aCons (eC (.str [114, 101, 103])) (aCons (eVar 10) (aCons (eCall d_x_law_bits (aCons (eVar 0) (aCons (eC (.int 1)) aNil))) (aCons (eTup (aCons (eBin dIx (eVar 14) (eCall d_x_law_take (aCons (eVar 0) (aCons (eCall (f1 dLen) (aCons (eVar 14) aNil)) aNil)))) aNil)) aNil))))) aNil)))
 (sSeq (sSet 15 (eBin dMul (eCall d_x_law_take (aCons (eVar 0) (aCons (eC (.int 4)) aNil))) (eCall (f1 dInt) (aCons (eBin dNe (eVar 9) (eLst aNil)) aNil))))
 (sSeq (sSet 16 (eCall (f1 dTuple) (aCons (eComp [17] (iRange1 (eVar 15)) (gN 17) tYesD (eBin dIx (eVar 9) (eCall d_x_law_take (aCons (eVar 0) (aCons (eCall (f1 dLen) (aCons (eVar 9) aNil)) aNil))))) aNil)))
 (sSeq (sMut 8 gApp (aCons (eTup (aCons (eC (.str [103, 97, 116, 101])) (aCons (eVar 10) (aCons (eCall d_x_law_bits (aCons (eVar 0) (aCons (eBin dShl (eC (.int 1)) (eVar 15)) aNil))) (aCons (eVar 16) aNil))))) aNil))
 (sSet 9 (eBin fAdd (eVar 9) (eLst (aCons (eVar 10) aNil)))))))))
 (sSeq (sSet 11 (eBin dMul (eCall (f2 dMin2) (aCons (eBin dSub (eC (.int 12)) (eCall (f1 dLen) (aCons (eVar 8) aNil))) (aCons (eCall d_x_law_take (aCons (eVar 0) (aCons (eBin dAdd (eVar 3) (eC (.int 1))) aNil))) aNil))) (eCall (f1 dInt) (aCons (eBin dNe (eVar 9) (eLst aNil)) aNil))))
 (sSeq (sFor (iOf (eSl fSl (eVar 4) (oSome (eC (.int 12))) (oSome (eBin dAdd (eC (.int 12)) (eVar 11))))) (gN 10)
 (sMut 8 gApp (aCons (eTup (aCons (eC (.str [111, 117, 116])) (aCons (eVar 10) (aCons (eC (.str [])) (aCons (eTup (aCons (eBin dIx (eVar 9) (eCall d_x_law_take (aCons (eVar 0) (aCons (eCall (f1 dLen) (aCons (eVar 9) aNil)) aNil)))) aNil)) aNil))))) aNil)))
 (sSeq (sSet 12 (eSl fSl (eVar 8) (oSome (eCall (f1 dLen) (aCons (eVar 5) aNil))) (oSome (eBin dAdd (eCall (f1 dLen) (aCons (eVar 5) aNil)) (eCall (f1 dLen) (aCons (eVar 6) aNil))))))
 (sSeq (sFor (iRange2 (eC (.int 1)) (eBin dMul (eCall (f1 dLen) (aCons (eVar 12) aNil)) (eCall d_x_law_take (aCons (eVar 0) (aCons (eC (.int 2)) aNil))))) (gN 13)
 (sInsPop 12 (eCall d_x_law_take (aCons (eVar 0) (aCons (eBin dAdd (eVar 13) (eC (.int 1))) aNil))) (eVar 13)))
 (sRet (eCall (f1 dTuple) (aCons (eBin fAdd (eBin fAdd (eSl fSl (eVar 8) oNone (oSome (eCall (f1 dLen) (aCons (eVar 5) aNil)))) (eVar 12)) (eSl fSl (eVar 8) (oSome (eBin dAdd (eCall (f1 dLen) (aCons (eVar 5) aNil)) (eCall (f1 dLen) (aCons (eVar 6) aNil)))) oNone)) aNil))))))))))))))
def d_x_law_some_net : List D → M D := defD 18 false s_x_law_some_net
theorem sc_x_law_some_net : FnScope ["_law_box_here", "_law_most_in", "_law_most_cells", "_law_most_out", "_law_pool", "_law_ins", "_law_cells", "_law_kept", "_law_things", "_law_early", "_law_name", "_law_room", "_law_mixed", "_law_at", "_law_some", "_law_size_here", "_law_pins", "_law_k"] ["_law_box_here", "_law_most_in", "_law_most_cells", "_law_most_out"] (defScope (top 18)) := ⟨by decide +kernel, by decide +kernel, by decide +kernel, by decide +kernel, rfl, by decide +kernel, by decide +kernel⟩
theorem ok_x_law_some_net {g : Glo} (G : Fx g) : VFn g 3 "_law_some_net" ["_law_box_here", "_law_most_in", "_law_most_cells", "_law_most_out"] false false d_x_law_some_net := by
  obtain ⟨a, fd, F, hm⟩ := G.f_x_law_some_net
  have h_x_law_names := ok_x_law_names G
  have h_x_law_take := ok_x_law_take G
  have h_x_law_bits := ok_x_law_bits G
  refine VFn.of (N := ["_law_box_here", "_law_most_in", "_law_most_cells", "_law_most_out", "_law_pool", "_law_ins", "_law_cells", "_law_kept", "_law_things", "_law_early", "_law_name", "_law_room", "_law_mixed", "_law_at", "_law_some", "_law_size_here", "_law_pins", "_law_k"]) F sc_x_law_some_net hm (F.bindsN fun _ _ _ _ _ _ us hl => match us, hl with | [_, _, _, _], _ => rfl) (Γ' := [false, false, false, false, false, false, false, false, true, false, false, false, true, false, false, false, false, false]) ?_
  show VBl _ [false, false, false, false, false, false, false, false, false, false, false, false, false, false, false, false, false, false] [false, false, false, false, false, false, false, false, true, false, false, false, true, false, false, false, false, false] (defBody (top 18)) s_x_law_some_net
  exact (vbl_cons (Γ₁ := [false, false, false, false, false, false, false, false, false, false, false, false, false, false, false, false, false, false]) (vs_set (i := 4) (by kernel_rfl) (ve_call h_x_law_names (Nat.le_of_ble_eq_true (by kernel_rfl)) (by kernel_rfl) (by intro h; cases h) (va_cons (ve_varS (i := 0) (by kernel_rfl) (by kernel_rfl)) (va_cons ve_int va_nil (fun _ => rfl)) (fun _ => rfl)) (al_cons (al_cons al_nil)) (fun _ => rfl) (fun _ => rfl)) (fun _ _ => rfl))
 (vbl_cons (Γ₁ := [false, false, false, false, false, false, false, false, false, false, false, false, false, false, false, false, false, false]) (vs_set (i := 5) (by kernel_rfl) (VF.e (vf_sl (ve_var (i := 4) (by kernel_rfl)) vo_none (vo_some (ve_call h_x_law_take (Nat.le_of_ble_eq_true (by kernel_rfl)) (by kernel_rfl) (by intro h; cases h) (va_cons (ve_varS (i := 0) (by kernel_rfl) (by kernel_rfl)) (va_cons (ve_bin vop_add (ve_var (i := 1) (by kernel_rfl)) ve_int) va_nil (fun _ => rfl)) (fun _ => rfl)) (al_cons (al_cons al_nil)) (fun _ => rfl) (fun _ => rfl))))) (fun _ _ => rfl))
 (vbl_cons (Γ₁ := [false, false, false, false, false, false, false, false, false, false, false, false, false, false, false, false, false, false]) (vs_set (i := 6) (by kernel_rfl) (VF.e (vf_sl (ve_var (i := 4) (by kernel_rfl)) (vo_some ve_int) (vo_some (ve_bin vop_add ve_int (ve_call h_x_law_take (Nat.le_of_ble_eq_true (by kernel_rfl)) (by kernel_rfl) (by intro h; cases h) (va_cons (ve_varS (i := 0) (by kernel_rfl) (by kernel_rfl)) (va_cons (ve_bin vop_add (ve_var (i := 2) (by kernel_rfl)) ve_int) va_nil (fun _ => rfl)) (fun _ => rfl)) (al_cons (al_cons al_nil)) (fun _ => rfl) (fun _ => rfl)))))) (fun _ _ => rfl))
 (vbl_cons (Γ₁ := [false, false, false, false, false, false, false, false, false, false, false, false, false, false, false, false, false, false]) (vs_set (i := 7) (by kernel_rfl) (VF.e (vf_sl (VF.e (vf_comp (own := [("_law_name", 10)]) (by kernel_rfl) rfl (by kernel_rfl) (by kernel_rfl) (by exact (vi_of (ve_var (i := 6) (by kernel_rfl)))) (vg_name (i := 10) (by kernel_rfl)) (by exact (vc_one (vt_cmp vop_eq (ve_call h_x_law_take (Nat.le_of_ble_eq_true (by kernel_rfl)) (by kernel_rfl) (by intro h; cases h) (va_cons (ve_varS (i := 0) (by kernel_rfl) (by kernel_rfl)) (va_cons ve_int va_nil (fun _ => rfl)) (fun _ => rfl)) (al_cons (al_cons al_nil)) (fun _ => rfl) (fun _ => rfl)) ve_int rfl))) (by exact (ve_varS (i := 10) (by kernel_rfl) (by kernel_rfl))) (fun _ _ => rfl))) vo_none (vo_some ve_int))) (fun _ _ => rfl))
 (vbl_cons (Γ₁ := [false, false, false, false, false, false, false, false, true, false, false, false, false, false, false, false, false, false]) (vs_setC (i := 8) rfl (by kernel_rfl) (Nat.le_of_ble_eq_true (by kernel_rfl)) rfl rfl (by kernel_rfl) (own := [("_law_name", 10)]) (by kernel_rfl) rfl (by kernel_rfl) (by kernel_rfl) (by exact (vi_of (ve_var (i := 5) (by kernel_rfl)))) (vg_name (i := 10) (by kernel_rfl)) (by exact vc_nil) (by exact (ve_tup (va_cons (ve_str (by kernel_rfl)) (va_cons (ve_varS (i := 10) (by kernel_rfl) (by kernel_rfl)) (va_cons (ve_str (by kernel_rfl)) (va_cons (ve_tup va_nil) va_nil (fun _ => rfl)) (fun _ => rfl)) (fun _ => rfl)) (fun _ => rfl)))) (fun _ _ => rfl))
 (vbl_cons (Γ₁ := [false, false, false, false, false, false, false, false, true, false, false, false, false, false, false, false, false, false]) (vs_set (i := 9) (by kernel_rfl) (VF.e (vf_bin vopF_add (ve_var (i := 5) (by kernel_rfl)) (ve_var (i := 7) (by kernel_rfl)))) (fun _ _ => rfl))
 (vbl_cons (Γ₁ := [false, false, false, false, false, false, false, false, true, false, false, false, false, false, false, false, false, false]) (vs_for (Γ₁ := [false, false, false, false, false, false, false, false, true, false, false, false, false, false, false, false, false, false]) (vi_of (ve_varS (i := 6) (by kernel_rfl) (by kernel_rfl))) (vg_name (i := 10) (by kernel_rfl))
 (vbl_one (vs_if (vt_cmp vop_in (ve_var (i := 10) (by kernel_rfl)) (ve_var (i := 7) (by kernel_rfl)) rfl)
 (vbl_cons (Γ₁ := [false, false, false, false, false, false, false, false, true, false, false, false, false, false, false, false, false, false]) (vs_set (i := 14) (by kernel_rfl) (VF.e (vf_bin vopF_add (ve_var (i := 5) (by kernel_rfl)) (ve_var (i := 6) (by kernel_rfl)))) (fun _ _ => rfl))
 (vbl_one (vs_append (i := 8) (by kernel_rfl) (by kernel_rfl) (va_cons (ve_tup (va_cons (ve_str (by kernel_rfl)) (va_cons (ve_varS (i := 10) (by kernel_rfl) (by kernel_rfl)) (va_cons (ve_call h_x_law_bits (Nat.le_of_ble_eq_true (by kernel_rfl)) (by kernel_rfl) (by intro h; cases h) (va_cons (ve_varS (i := 0) (by kernel_rfl) (by kernel_rfl)) (va_cons ve_int va_nil (fun _ => rfl)) (fun _ => rfl)) (al_cons (al_cons al_nil)) (fun _ => rfl) (fun _ => rfl)) (va_cons (ve_tup (va_cons (ve_ix (ve_var (i := 14) (by kernel_rfl)) (ve_call h_x_law_take (Nat.le_of_ble_eq_true (by kernel_rfl)) (by kernel_rfl) (by intro h; cases h) (va_cons (ve_varS (i := 0) (by kernel_rfl) (by kernel_rfl)) (va_cons (ve_callB vc_len (by kernel_rfl) G.b_len (by kernel_rfl) (va_cons (ve_var (i := 14) (by kernel_rfl)) va_nil (fun _ => rfl)) (fun _ => rfl) (fun _ => rfl)) va_nil (fun _ => rfl)) (fun _ => rfl)) (al_cons (al_cons al_nil)) (fun _ => rfl) (fun _ => rfl)) (fun _ _ => rfl)) va_nil (fun _ => rfl))) va_nil (fun _ => rfl)) (fun _ => rfl)) (fun _ => rfl)) (fun _ => rfl))) va_nil (fun _ => rfl)) rfl (fun _ => rfl) (fun _ => rfl))))
 (vbl_cons (Γ₁ := [false, false, false, false, false, false, false, false, true, false, false, false, false, false, false, false, false, false]) (vs_set (i := 15) (by kernel_rfl) (ve_bin vop_mul (ve_call h_x_law_take (Nat.le_of_ble_eq_true (by kernel_rfl)) (by kernel_rfl) (by intro h; cases h) (va_cons (ve_varS (i := 0) (by kernel_rfl) (by kernel_rfl)) (va_cons ve_int va_nil (fun _ => rfl)) (fun _ => rfl)) (al_cons (al_cons al_nil)) (fun _ => rfl) (fun _ => rfl)) (ve_callTy vc_int (by kernel_rfl) G.b_int (by kernel_rfl) (va_cons (ve_cmp vop_ne (ve_var (i := 9) (by kernel_rfl)) (VF.e (vf_lst va_nil)) rfl) va_nil (fun _ => rfl)) (fun _ => rfl) (fun _ => rfl))) (fun _ _ => rfl))
 (vbl_cons (Γ₁ := [false, false, false, false, false, false, false, false, true, false, false, false, false, false, false, false, false, false]) (vs_set (i := 16) (by kernel_rfl) (ve_callTy vc_tuple (by kernel_rfl) G.b_tuple (by kernel_rfl) (va_cons (VF.e (vf_comp (own := [("_law_k", 17)]) (by kernel_rfl) rfl (by kernel_rfl) (by kernel_rfl) (by exact (vi_range1 (by kernel_rfl) G.b_range (ve_var (i := 15) (by kernel_rfl)) (fun _ => rfl))) (vg_name (i := 17) (by kernel_rfl)) (by exact vc_nil) (by exact (ve_ix (ve_var (i := 9) (by kernel_rfl)) (ve_call h_x_law_take (Nat.le_of_ble_eq_true (by kernel_rfl)) (by kernel_rfl) (by intro h; cases h) (va_cons (ve_varS (i := 0) (by kernel_rfl) (by kernel_rfl)) (va_cons (ve_callB vc_len (by kernel_rfl) G.b_len (by kernel_rfl) (va_cons (ve_var (i := 9) (by kernel_rfl)) va_nil (fun _ => rfl)) (fun _ => rfl) (fun _ => rfl)) va_nil (fun _ => rfl)) (fun _ => rfl)) (al_cons (al_cons al_nil)) (fun _ => rfl) (fun _ => rfl)) (fun _ _ => rfl))) (fun _ _ => rfl))) va_nil (fun _ => rfl)) (fun _ => rfl) (fun _ => rfl)) (fun _ _ => rfl))
 (vbl_cons (Γ₁ := [false, false, false, false, false, false, false, false, true, false, false, false, false, false, false, false, false, false]) (vs_append (i := 8) (by kernel_rfl) (by kernel_rfl) (va_cons (ve_tup (va_cons (ve_str (by kernel_rfl)) (va_cons (ve_varS (i := 10) (by kernel_rfl) (by kernel_rfl)) (va_cons (ve_call h_x_law_bits (Nat.le_of_ble_eq_true (by kernel_rfl)) (by kernel_rfl) (by intro h; cases h) (va_cons (ve_varS (i := 0) (by kernel_rfl) (by kernel_rfl)) (va_cons (ve_bin vop_shl ve_int (ve_var (i := 15) (by kernel_rfl))) va_nil (fun _ => rfl)) (fun _ => rfl)) (al_cons (al_cons al_nil)) (fun _ => rfl) (fun _ => rfl)) (va_cons (ve_varS (i := 16) (by kernel_rfl) (by kernel_rfl)) va_nil (fun _ => rfl)) (fun _ => rfl)) (fun _ => rfl)) (fun _ => rfl))) va_nil (fun _ => rfl)) rfl (fun _ => rfl) (fun _ => rfl))
 (vbl_one (vs_set (i := 9) (by kernel_rfl) (VF.e (vf_bin vopF_add (ve_var (i := 9) (by kernel_rfl)) (VF.e (vf_lst (va_cons (ve_varS (i := 10) (by kernel_rfl) (by kernel_rfl)) va_nil (fun _ => rfl)))))) (fun _ _ => rfl)))))))) (fun _ _ => rfl))
 (vbl_cons (Γ₁ := [false, false, false, false, false, false, false, false, true, false, false, false, false, false, false, false, false, false]) (vs_set (i := 11) (by kernel_rfl) (ve_bin vop_mul (ve_callB vc_min2 (by kernel_rfl) G.b_min (by kernel_rfl) (va_cons (ve_bin vop_sub ve_int (ve_callB vc_len (by kernel_rfl) G.b_len (by kernel_rfl) (va_cons (ve_var (i := 8) (by kernel_rfl)) va_nil (fun _ => rfl)) (fun _ => rfl) (fun _ => rfl))) (va_cons (ve_call h_x_law_take (Nat.le_of_ble_eq_true (by kernel_rfl)) (by kernel_rfl) (by intro h; cases h) (va_cons (ve_varS (i := 0) (by kernel_rfl) (by kernel_rfl)) (va_cons (ve_bin vop_add (ve_var (i := 3) (by kernel_rfl)) ve_int) va_nil (fun _ => rfl)) (fun _ => rfl)) (al_cons (al_cons al_nil)) (fun _ => rfl) (fun _ => rfl)) va_nil (fun _ => rfl)) (fun _ => rfl)) (fun _ => rfl) (fun _ => rfl)) (ve_callTy vc_int (by kernel_rfl) G.b_int (by kernel_rfl) (va_cons (ve_cmp vop_ne (ve_var (i := 9) (by kernel_rfl)) (VF.e (vf_lst va_nil)) rfl) va_nil (fun _ => rfl)) (fun _ => rfl) (fun _ => rfl))) (fun _ _ => rfl))
 (vbl_cons (Γ₁ := [false, false, false, false, false, false, false, false, true, false, false, false, false, false, false, false, false, false]) (vs_for (Γ₁ := [false, false, false, false, false, false, false, false, true, false, false, false, false, false, false, false, false, false]) (vi_of (VF.e (vf_sl (ve_var (i := 4) (by kernel_rfl)) (vo_some ve_int) (vo_some (ve_bin vop_add ve_int (ve_var (i := 11) (by kernel_rfl))))))) (vg_name (i := 10) (by kernel_rfl))
 (vbl_one (vs_append (i := 8) (by kernel_rfl) (by kernel_rfl) (va_cons (ve_tup (va_cons (ve_str (by kernel_rfl)) (va_cons (ve_varS (i := 10) (by kernel_rfl) (by kernel_rfl)) (va_cons (ve_str (by kernel_rfl)) (va_cons (ve_tup (va_cons (ve_ix (ve_var (i := 9) (by kernel_rfl)) (ve_call h_x_law_take (Nat.le_of_ble_eq_true (by kernel_rfl)) (by kernel_rfl) (by intro h; cases h) (va_cons (ve_varS (i := 0) (by kernel_rfl) (by kernel_rfl)) (va_cons (ve_callB vc_len (by kernel_rfl) G.b_len (by kernel_rfl) (va_cons (ve_var (i := 9) (by kernel_rfl)) va_nil (fun _ => rfl)) (fun _ => rfl) (fun _ => rfl)) va_nil (fun _ => rfl)) (fun _ => rfl)) (al_cons (al_cons al_nil)) (fun _ => rfl) (fun _ => rfl)) (fun _ _ => rfl)) va_nil (fun _ => rfl))) va_nil (fun _ => rfl)) (fun _ => rfl)) (fun _ => rfl)) (fun _ => rfl))) va_nil (fun _ => rfl)) rfl (fun _ => rfl) (fun _ => rfl))) (fun _ _ => rfl))
 (vbl_cons (Γ₁ := [false, false, false, false, false, false, false, false, true, false, false, false, true, false, false, false, false, false]) (vs_setF (i := 12) (by kernel_rfl) (Nat.le_of_ble_eq_true (by kernel_rfl)) (vf_sl (ve_var (i := 8) (by kernel_rfl)) (vo_some (ve_callB vc_len (by kernel_rfl) G.b_len (by kernel_rfl) (va_cons (ve_var (i := 5) (by kernel_rfl)) va_nil (fun _ => rfl)) (fun _ => rfl) (fun _ => rfl))) (vo_some (ve_bin vop_add (ve_callB vc_len (by kernel_rfl) G.b_len (by kernel_rfl) (va_cons (ve_var (i := 5) (by kernel_rfl)) va_nil (fun _ => rfl)) (fun _ => rfl) (fun _ => rfl)) (ve_callB vc_len (by kernel_rfl) G.b_len (by kernel_rfl) (va_cons (ve_var (i := 6) (by kernel_rfl)) va_nil (fun _ => rfl)) (fun _ => rfl) (fun _ => rfl))))) (fun _ _ => rfl))
 (vbl_cons (Γ₁ := [false, false, false, false, false, false, false, false, true, false, false, false, true, false, false, false, false, false]) (vs_for (Γ₁ := [false, false, false, false, false, false, false, false, true, false, false, false, true, false, false, false, false, false]) (vi_range2 (by kernel_rfl) G.b_range ve_int (ve_bin vop_mul (ve_callB vc_len (by kernel_rfl) G.b_len (by kernel_rfl) (va_cons (ve_var (i := 12) (by kernel_rfl)) va_nil (fun _ => rfl)) (fun _ => rfl) (fun _ => rfl)) (ve_call h_x_law_take (Nat.le_of_ble_eq_true (by kernel_rfl)) (by kernel_rfl) (by intro h; cases h) (va_cons (ve_varS (i := 0) (by kernel_rfl) (by kernel_rfl)) (va_cons ve_int va_nil (fun _ => rfl)) (fun _ => rfl)) (al_cons (al_cons al_nil)) (fun _ => rfl) (fun _ => rfl))) (fun _ => rfl) (fun _ => rfl)) (vg_name (i := 13) (by kernel_rfl))
 (vbl_one (vs_insPop (by kernel_rfl) (by kernel_rfl) (ve_call h_x_law_take (Nat.le_of_ble_eq_true (by kernel_rfl)) (by kernel_rfl) (by intro h; cases h) (va_cons (ve_varS (i := 0) (by kernel_rfl) (by kernel_rfl)) (va_cons (ve_bin vop_add (ve_var (i := 13) (by kernel_rfl)) ve_int) va_nil (fun _ => rfl)) (fun _ => rfl)) (al_cons (al_cons al_nil)) (fun _ => rfl) (fun _ => rfl)) (ve_var (i := 13) (by kernel_rfl)) (fun _ => rfl) (fun _ => rfl) (fun _ => rfl) (fun _ => rfl) rfl rfl (fun _ => rfl) (fun _ => rfl) (fun _ => rfl) (fun _ => rfl) (fun _ => rfl) (fun _ _ => rfl))) (fun _ _ => rfl))
 (vbl_one (vs_ret rfl (ve_callTy vc_tuple (by kernel_rfl) G.b_tuple (by kernel_rfl) (va_cons (VF.e (vf_bin vopF_add (VF.e (vf_bin vopF_add (VF.e (vf_sl (ve_var (i := 8) (by kernel_rfl)) vo_none (vo_some (ve_callB vc_len (by kernel_rfl) G.b_len (by kernel_rfl) (va_cons (ve_var (i := 5) (by kernel_rfl)) va_nil (fun _ => rfl)) (fun _ => rfl) (fun _ => rfl))))) (ve_var (i := 12) (by kernel_rfl)))) (VF.e (vf_sl (ve_var (i := 8) (by kernel_rfl)) (vo_some (ve_bin vop_add (ve_callB vc_len (by kernel_rfl) G.b_len (by kernel_rfl) (va_cons (ve_var (i := 5) (by kernel_rfl)) va_nil (fun _ => rfl)) (fun _ => rfl) (fun _ => rfl)) (ve_callB vc_len (by kernel_rfl) G.b_len (by kernel_rfl) (va_cons (ve_var (i := 6) (by kernel_rfl)) va_nil (fun _ => rfl)) (fun _ => rfl) (fun _ => rfl)))) vo_none)))) va_nil (fun _ => rfl)) (fun _ => rfl) (fun _ => rfl)))))))))))))))
def s_x_law_nets : DS := (sSeq (sSet 1 (eLst aNil))
 (sSeq (sFor (iEnumD (eVar 0)) (gT (gsCons (gN 2) (gsCons (gN 3) gsNil)))
 (sSeq (sSet 4 (eComp [5] (iRange1 (eCall (f1 dLen) (aCons (eVar 0) aNil))) (gN 5) (tBin dIn (eBin dIx (eVar 3) (eC (.int 1))) (eBin dIx (eBin dIx (eVar 0) (eVar 5)) (eC (.int 3)))) (eVar 5)))
 (sIf (tAnd' (tBin dNe (eBin dIx (eVar 3) (eC (.int 0))) (eC (.str [111, 117, 116]))) (tBin dNe (eVar 4) (eLst aNil)))
 (sMut 1 gApp (aCons (eTup (aCons (eBin dIx (eVar 3) (eC (.int 1))) (aCons (eCall (f1 dTuple) (aCons (eCall (f1 fSortSet) (aCons (eBin fAdd (eVar 4) (eLst (aCons (eVar 2) aNil))) aNil)) aNil)) aNil))) aNil))
 sNext)))
 (sRet (eVar 1))))
def d_x_law_nets : List D → M D := defD 6 true s_x_law_nets
theorem sc_x_law_nets : FnScope ["_law_netlist", "_law_found", "_law_place", "_law_thing", "_law_some", "_law_at"] ["_law_netlist"] (defScope (top 19)) := ⟨by decide +kernel, by decide +kernel, by decide +kernel, by decide +kernel, rfl, by decide +kernel, by decide +kernel⟩
theorem ok_x_law_nets {g : Glo} (G : Fx g) : VFn g 1 "_law_nets" ["_law_netlist"] true true d_x_law_nets := by
  obtain ⟨a, fd, F, hm⟩ := G.f_x_law_nets
  refine VFn.of (N := ["_law_netlist", "_law_found", "_law_place", "_law_thing", "_law_some", "_law_at"]) F sc_x_law_nets hm (F.bindsN fun _ _ _ _ _ _ us hl => match us, hl with | [_], _ => rfl) (Γ' := [false, true, false, false, false, false]) ?_
  show VBl _ [false, false, false, false, false, false] [false, true, false, false, false, false] (defBody (top 19)) s_x_law_nets
  exact (vbl_cons (Γ₁ := [false, true, false, false, false, false]) (vs_setF (i := 1) (by kernel_rfl) (Nat.le_of_ble_eq_true (by kernel_rfl)) (vf_lst va_nil) (fun _ _ => rfl))
 (vbl_cons (Γ₁ := [false, true, false, false, false, false]) (vs_for (Γ₁ := [false, true, false, false, false, false]) (vi_enum (by kernel_rfl) G.b_enumerate (ve_varS (i := 0) (by kernel_rfl) (by kernel_rfl)) (fun _ => rfl)) (vg_tup (vgs_cons (vg_name (i := 2) (by kernel_rfl)) (vgs_cons (vg_name (i := 3) (by kernel_rfl)) vgs_nil (fun _ => rfl)) (fun _ => rfl)) (gl_cons (gl_cons gl_nil)) (fun _ => rfl) (fun _ => rfl))
 (vbl_cons (Γ₁ := [false, true, false, false, false, false]) (vs_fz 4 (vs_setC (i := 4) rfl (by kernel_rfl) (Nat.le_of_ble_eq_true (by kernel_rfl)) rfl rfl (by kernel_rfl) (own := [("_law_at", 5)]) (by kernel_rfl) rfl (by kernel_rfl) (by kernel_rfl) (by exact (vi_range1 (by kernel_rfl) G.b_range (ve_callB vc_len (by kernel_rfl) G.b_len (by kernel_rfl) (va_cons (ve_var (i := 0) (by kernel_rfl)) va_nil (fun _ => rfl)) (fun _ => rfl) (fun _ => rfl)) (fun _ => rfl))) (vg_name (i := 5) (by kernel_rfl)) (by exact (vc_one (vt_cmp vop_in (ve_ix (ve_var (i := 3) (by kernel_rfl)) ve_int (fun _ _ => rfl)) (ve_ix (ve_ix (ve_var (i := 0) (by kernel_rfl)) (ve_var (i := 5) (by kernel_rfl)) (fun _ _ => rfl)) ve_int (fun _ _ => rfl)) rfl))) (by exact (ve_varS (i := 5) (by kernel_rfl) (by kernel_rfl))) (fun _ _ => rfl)))
 (vbl_one (vs_if (vw_t (vw_and (vt_cmp vop_ne (ve_ix (ve_var (i := 3) (by kernel_rfl)) ve_int (fun _ _ => rfl)) (ve_str (by kernel_rfl)) rfl) (vw_and1 (vt_cmp vop_ne (ve_var (i := 4) (by kernel_rfl)) (VF.e (vf_lst va_nil)) rfl))))
 (vbl_one (vs_append (i := 1) (by kernel_rfl) (by kernel_rfl) (va_cons (ve_tup (va_cons (ve_ix (ve_var (i := 3) (by kernel_rfl)) ve_int (fun _ _ => rfl)) (va_cons (ve_callTy vc_tuple (by kernel_rfl) G.b_tuple (by kernel_rfl) (va_cons (VF.e (vf_sortSet (by kernel_rfl) G.b_sorted (by kernel_rfl) G.b_set (VF.e (vf_bin vopF_add (ve_var (i := 4) (by kernel_rfl)) (VF.e (vf_lst (va_cons (ve_varS (i := 2) (by kernel_rfl) (by kernel_rfl)) va_nil (fun _ => rfl)))))) (fun _ => rfl) (fun _ => rfl) (fun _ => rfl) (fun _ => rfl))) va_nil (fun _ => rfl)) (fun _ => rfl) (fun _ => rfl)) va_nil (fun _ => rfl)) (fun _ => rfl))) va_nil (fun _ => rfl)) rfl (fun _ => rfl) (fun _ => rfl)))
 vbl_nil))) (fun _ _ => rfl))
 (vbl_one (vs_retOwn rfl (by kernel_rfl) (by kernel_rfl)))))
def s_x_law_pegs : DS := (sSeq (sSet 3 (eComp [6] (iRange1 (eCall (f1 dLen) (aCons (eVar 1) aNil))) (gN 6) (tBin dEq (eCall d_x_law_take (aCons (eVar 0) (aCons (eC (.int 4)) aNil))) (eC (.int 0))) (eVar 6)))
 (sSeq (sSet 4 (eNew (eUn fRange (eVar 2))))
 (sSeq (sSet 5 (eLst aNil))
 (sSeq (sFor (iOf (eSl fSl (eVar 3) oNone (oSome (eVar 2)))) (gN 6)
 (sMut 5 gApp (aCons (eTup (aCons (eVar 6) (aCons (ePopI (eVar 4) (eCall d_x_law_take (aCons (eVar 0) (aCons (eCall (f1 dLen) (aCons (eAny 4) aNil)) aNil)))) aNil))) aNil)))
 (sRet (eCall (f1 dTuple) (aCons (eVar 5) aNil)))))))
def d_x_law_pegs : List D → M D := defD 7 false s_x_law_pegs
theorem sc_x_law_pegs : FnScope ["_law_box_here", "_law_netlist", "_law_slots", "_law_places", "_law_spots", "_law_found", "_law_place"] ["_law_box_here", "_law_netlist", "_law_slots"] (defScope (top 20)) := ⟨by decide +kernel, by decide +kernel, by decide +kernel, by decide +kernel, rfl, by decide +kernel, by decide +kernel⟩
theorem ok_x_law_pegs {g : Glo} (G : Fx g) : VFn g 2 "_law_pegs" ["_law_box_here", "_law_netlist", "_law_slots"] false false d_x_law_pegs := by
  obtain ⟨a, fd, F, hm⟩ := G.f_x_law_pegs
  have h_x_law_take := ok_x_law_take G
  refine VFn.of (N := ["_law_box_here", "_law_netlist", "_law_slots", "_law_places", "_law_spots", "_law_found", "_law_place"]) F sc_x_law_pegs hm (F.bindsN fun _ _ _ _ _ _ us hl => match us, hl with | [_, _, _], _ => rfl) (Γ' := [false, false, false, false, false, true, false]) ?_
  show VBl _ [false, false, false, false, false, false, false] [false, false, false, false, false, true, false] (defBody (top 20)) s_x_law_pegs
  exact (vbl_cons (Γ₁ := [false, false, false, false, false, false, false]) (vs_fz 3 (vs_setC (i := 3) rfl (by kernel_rfl) (Nat.le_of_ble_eq_true (by kernel_rfl)) rfl rfl (by kernel_rfl) (own := [("_law_place", 6)]) (by kernel_rfl) rfl (by kernel_rfl) (by kernel_rfl) (by exact (vi_range1 (by kernel_rfl) G.b_range (ve_callB vc_len (by kernel_rfl) G.b_len (by kernel_rfl) (va_cons (ve_var (i := 1) (by kernel_rfl)) va_nil (fun _ => rfl)) (fun _ => rfl) (fun _ => rfl)) (fun _ => rfl))) (vg_name (i := 6) (by kernel_rfl)) (by exact (vc_one (vt_cmp vop_eq (ve_call h_x_law_take (Nat.le_of_ble_eq_true (by kernel_rfl)) (by kernel_rfl) (by intro h; cases h) (va_cons (ve_varS (i := 0) (by kernel_rfl) (by kernel_rfl)) (va_cons ve_int va_nil (fun _ => rfl)) (fun _ => rfl)) (al_cons (al_cons al_nil)) (fun _ => rfl) (fun _ => rfl)) ve_int rfl))) (by exact (ve_varS (i := 6) (by kernel_rfl) (by kernel_rfl))) (fun _ _ => rfl)))
 (vbl_cons (Γ₁ := [false, false, false, false, false, false, false]) (vs_set (i := 4) (by kernel_rfl) (ve_new (vf_listRg (by kernel_rfl) G.b_list (by kernel_rfl) G.b_range (ve_var (i := 2) (by kernel_rfl)) (fun _ => rfl) (fun _ => rfl))) (fun _ _ => rfl))
 (vbl_cons (Γ₁ := [false, false, false, false, false, true, false]) (vs_setF (i := 5) (by kernel_rfl) (Nat.le_of_ble_eq_true (by kernel_rfl)) (vf_lst va_nil) (fun _ _ => rfl))
 (vbl_cons (Γ₁ := [false, false, false, false, false, true, false]) (vs_for (Γ₁ := [false, false, false, false, false, true, false]) (vi_of (VF.e (vf_sl (ve_var (i := 3) (by kernel_rfl)) vo_none (vo_some (ve_var (i := 2) (by kernel_rfl)))))) (vg_name (i := 6) (by kernel_rfl))
 (vbl_one (vs_append (i := 5) (by kernel_rfl) (by kernel_rfl) (va_cons (ve_tup (va_cons (ve_varS (i := 6) (by kernel_rfl) (by kernel_rfl)) (va_cons (ve_popI rfl rfl (ve_varS (i := 4) (by kernel_rfl) (by kernel_rfl)) (ve_call h_x_law_take (Nat.le_of_ble_eq_true (by kernel_rfl)) (by kernel_rfl) (by intro h; cases h) (va_cons (ve_varS (i := 0) (by kernel_rfl) (by kernel_rfl)) (va_cons (ve_pure (ve_callB vc_len (by kernel_rfl) G.b_len (by kernel_rfl) (va_cons (ve_any (i := 4) (by kernel_rfl) rfl) va_nil (fun _ => rfl)) (fun _ => rfl) (fun _ => rfl))) va_nil (fun _ => rfl)) (fun _ => rfl)) (al_cons (al_cons al_nil)) (fun _ => rfl) (fun _ => rfl)) (fun _ => rfl) rfl (fun _ => rfl) (fun _ => rfl) (fun _ => rfl)) va_nil (fun _ => rfl)) (fun _ => rfl))) va_nil (fun _ => rfl)) rfl (fun _ => rfl) (fun _ => rfl))) (fun _ _ => rfl))
 (vbl_one (vs_ret rfl (ve_callTy vc_tuple (by kernel_rfl) G.b_tuple (by kernel_rfl) (va_cons (ve_var (i := 5) (by kernel_rfl)) va_nil (fun _ => rfl)) (fun _ => rfl) (fun _ => rfl))))))))
def s_x_law_steps : DS := (sSeq (sAsg (eVar 4) (gT (gsCons (gN 11) (gsCons (gN 12) gsNil))))
 (sSeq (sSet 5 (eLst aNil))
 (sSeq (sSet 6 (eCall (f1 fDict) (aCons (eComp [10, 17] (iOf (eVar 3)) (gT (gsCons (gN 10) (gsCons (gN 17) gsNil))) tYesD (eTup (aCons (eVar 17) (aCons (eVar 10) aNil)))) aNil)))
 (sSeq (sSet 7 (eComp [10] (iRange1 (eCall (f1 dLen) (aCons (eVar 0) aNil))) (gN 10) (tBin dNotVals (eVar 10) (eVar 6)) (eVar 10)))
 (sSeq (sSet 8 (eIf (tBin dIn (eVar 11) (eVar 6)) (eLst (aCons (eBin dIx (eVar 6) (eVar 11)) aNil)) (eBin fAdd (eVar 7) (eLst (aCons (eUn dNeg (eC (.int 1))) aNil)))))
 (sSeq (sSet 9 (eComp [10] (iRange1 (eCall (f1 dLen) (aCons (eVar 0) aNil))) (gN 10) (tBin dEq (eBin dAnd (eBin dShr (eVar 12) (eVar 10)) (eC (.int 1))) (eC (.int 1))) (eVar 10)))
 (sSeq (sFor (iOf (eVar 8)) (gN 10)
 (sIf (tBin dNotIn (eVar 10) (eVar 9))
 (sSeq (sSet 13 (eBin fAdd (eVar 9) (eBin fMul (eLst (aCons (eVar 10) aNil)) (eCall (f1 dInt) (aCons (eBin dGe (eVar 10) (eC (.int 0))) aNil)))))
 (sSeq (sSet 14 (eC (.int 0)))
 (sSeq (sFor (iOf (eVar 1)) (gT (gsCons (gN 15) (gsCons (gN 16) gsNil)))
 (sSet 14 (eBin dIAdd (eVar 14) (eCall (f1 dInt) (aCons (eAndT (eCall (f1 dAny) (aCons (eComp [18] (iOf (eVar 16)) (gN 18) tYesD (eBin dIn (eVar 18) (eVar 13))) aNil)) (eCall (f1 dAny) (aCons (eComp [18] (iOf (eVar 16)) (gN 18) tYesD (eBin dNotIn (eVar 18) (eVar 9))) aNil))) aNil)))))
 (sIf (tBin dLe (eVar 14) (eVar 2))
 (sMut 5 gApp (aCons (eTup (aCons (eBin dAdd (eVar 11) (eC (.int 1))) (aCons (eCall (f1 dSum) (aCons (eComp [18] (iOf (eVar 13)) (gN 18) tYesD (eBin dShl (eC (.int 1)) (eVar 18))) aNil)) aNil))) aNil))
 sNext))))
 sNext))
 (sRet (eVar 5)))))))))
def d_x_law_steps : List D → M D := defD 19 true s_x_law_steps
theorem sc_x_law_steps : FnScope ["_law_netlist", "_law_some_nets", "_law_tracks", "_law_pegs_here", "_law_stage", "_law_found", "_law_bound", "_law_free", "_law_some", "_law_left", "_law_place", "_law_slot", "_law_before", "_law_here", "_law_load", "_law_name", "_law_members", "_law_where", "_law_one"] ["_law_netlist", "_law_some_nets", "_law_tracks", "_law_pegs_here", "_law_stage"] (defScope (top 21)) := ⟨by decide +kernel, by decide +kernel, by decide +kernel, by decide +kernel, rfl, by decide +kernel, by decide +kernel⟩
theorem ok_x_law_steps {g : Glo} (G : Fx g) : VFn g 1 "_law_steps" ["_law_netlist", "_law_some_nets", "_law_tracks", "_law_pegs_here", "_law_stage"] true true d_x_law_steps := by
  obtain ⟨a, fd, F, hm⟩ := G.f_x_law_steps
  refine VFn.of (N := ["_law_netlist", "_law_some_nets", "_law_tracks", "_law_pegs_here", "_law_stage", "_law_found", "_law_bound", "_law_free", "_law_some", "_law_left", "_law_place", "_law_slot", "_law_before", "_law_here", "_law_load", "_law_name", "_law_members", "_law_where", "_law_one"]) F sc_x_law_steps hm (F.bindsN fun _ _ _ _ _ _ us hl => match us, hl with | [_, _, _, _, _], _ => rfl) (Γ' := [false, false, false, false, false, true, false, false, false, false, false, false, false, false, false, false, false, false, false]) ?_
  show VBl _ [false, false, false, false, false, false, false, false, false, false, false, false, false, false, false, false, false, false, false] [false, false, false, false, false, true, false, false, false, false, false, false, false, false, false, false, false, false, false] (defBody (top 21)) s_x_law_steps
  exact (vbl_cons (Γ₁ := [false, false, false, false, false, false, false, false, false, false, false, false, false, false, false, false, false, false, false]) (vs_asg (ve_varS (i := 4) (by kernel_rfl) (by kernel_rfl)) (vg_tup (vgs_cons (vg_name (i := 11) (by kernel_rfl)) (vgs_cons (vg_name (i := 12) (by kernel_rfl)) vgs_nil (fun _ => rfl)) (fun _ => rfl)) (gl_cons (gl_cons gl_nil)) (fun _ => rfl) (fun _ => rfl)) (fun _ _ => rfl) (fun _ => rfl) (fun _ => rfl))
 (vbl_cons (Γ₁ := [false, false, false, false, false, true, false, false, false, false, false, false, false, false, false, false, false, false, false]) (vs_setF (i := 5) (by kernel_rfl) (Nat.le_of_ble_eq_true (by kernel_rfl)) (vf_lst va_nil) (fun _ _ => rfl))
 (vbl_cons (Γ₁ := [false, false, false, false, false, true, false, false, false, false, false, false, false, false, false, false, false, false, false]) (vs_set (i := 6) (by kernel_rfl) (VF.e (vf_callTy vc_dictP (by kernel_rfl) G.b_dict (by kernel_rfl) (va_cons (VF.e (vf_comp (own := [("_law_place", 10), ("_law_where", 17)]) (by kernel_rfl) rfl (by kernel_rfl) (by kernel_rfl) (by exact (vi_of (ve_var (i := 3) (by kernel_rfl)))) (vg_tup (vgs_cons (vg_name (i := 10) (by kernel_rfl)) (vgs_cons (vg_name (i := 17) (by kernel_rfl)) vgs_nil (fun _ => rfl)) (fun _ => rfl)) (gl_cons (gl_cons gl_nil)) (fun _ => rfl) (fun _ => rfl)) (by exact vc_nil) (by exact (ve_tup (va_cons (ve_varS (i := 17) (by kernel_rfl) (by kernel_rfl)) (va_cons (ve_varS (i := 10) (by kernel_rfl) (by kernel_rfl)) va_nil (fun _ => rfl)) (fun _ => rfl)))) (fun _ _ => rfl))) va_nil (fun _ => rfl)) (fun _ => rfl) (fun _ => rfl))) (fun _ _ => rfl))
 (vbl_cons (Γ₁ := [false, false, false, false, false, true, false, false, false, false, false, false, false, false, false, false, false, false, false]) (vs_fz 7 (vs_setC (i := 7) rfl (by kernel_rfl) (Nat.le_of_ble_eq_true (by kernel_rfl)) rfl rfl (by kernel_rfl) (own := [("_law_place", 10)]) (by kernel_rfl) rfl (by kernel_rfl) (by kernel_rfl) (by exact (vi_range1 (by kernel_rfl) G.b_range (ve_callB vc_len (by kernel_rfl) G.b_len (by kernel_rfl) (va_cons (ve_var (i := 0) (by kernel_rfl)) va_nil (fun _ => rfl)) (fun _ => rfl) (fun _ => rfl)) (fun _ => rfl))) (vg_name (i := 10) (by kernel_rfl)) (by exact (vc_one (vt_notVals (ve_var (i := 10) (by kernel_rfl)) (ve_var (i := 6) (by kernel_rfl)) (fun _ => rfl) rfl rfl))) (by exact (ve_varS (i := 10) (by kernel_rfl) (by kernel_rfl))) (fun _ _ => rfl)))
 (vbl_cons (Γ₁ := [false, false, false, false, false, true, false, false, false, false, false, false, false, false, false, false, false, false, false]) (vs_set (i := 8) (by kernel_rfl) (ve_if (vt_cmp vop_in (ve_var (i := 11) (by kernel_rfl)) (ve_var (i := 6) (by kernel_rfl)) rfl) (VF.e (vf_lst (va_cons (ve_ix (ve_var (i := 6) (by kernel_rfl)) (ve_var (i := 11) (by kernel_rfl)) (fun _ _ => rfl)) va_nil (fun _ => rfl)))) (VF.e (vf_bin vopF_add (ve_var (i := 7) (by kernel_rfl)) (VF.e (vf_lst (va_cons (ve_un vun_neg ve_int) va_nil (fun _ => rfl))))))) (fun _ _ => rfl))
 (vbl_cons (Γ₁ := [false, false, false, false, false, true, false, false, false, false, false, false, false, false, false, false, false, false, false]) (vs_fz 9 (vs_setK (i := 9) (by kernel_rfl) (Nat.le_of_ble_eq_true (by kernel_rfl)) (by kernel_rfl) (vf_comp (own := [("_law_place", 10)]) (by kernel_rfl) rfl (by kernel_rfl) (by kernel_rfl) (by exact (vi_range1 (by kernel_rfl) G.b_range (ve_callB vc_len (by kernel_rfl) G.b_len (by kernel_rfl) (va_cons (ve_var (i := 0) (by kernel_rfl)) va_nil (fun _ => rfl)) (fun _ => rfl) (fun _ => rfl)) (fun _ => rfl))) (vg_name (i := 10) (by kernel_rfl)) (by exact (vc_one (vt_cmp vop_eq (ve_bin vop_and (ve_bin vop_shr (ve_var (i := 12) (by kernel_rfl)) (ve_var (i := 10) (by kernel_rfl))) ve_int) ve_int rfl))) (by exact (ve_varS (i := 10) (by kernel_rfl) (by kernel_rfl))) (fun _ _ => rfl)) (fun _ _ h => sw_cell h)))
 (vbl_cons (Γ₁ := [false, false, false, false, false, true, false, false, false, false, false, false, false, false, false, false, false, false, false]) (vs_for (Γ₁ := [false, false, false, false, false, true, false, false, false, false, false, false, false, false, false, false, false, false, false]) (vi_of (ve_varS (i := 8) (by kernel_rfl) (by kernel_rfl))) (vg_name (i := 10) (by kernel_rfl))
 (vbl_one (vs_if (vt_cmp vop_notin (ve_var (i := 10) (by kernel_rfl)) (ve_var (i := 9) (by kernel_rfl)) rfl)
 (vbl_cons (Γ₁ := [false, false, false, false, false, true, false, false, false, false, false, false, false, false, false, false, false, false, false]) (vs_set (i := 13) (by kernel_rfl) (VF.e (vf_bin vopF_add (ve_var (i := 9) (by kernel_rfl)) (VF.e (vf_bin vopF_mul (VF.e (vf_lst (va_cons (ve_varS (i := 10) (by kernel_rfl) (by kernel_rfl)) va_nil (fun _ => rfl)))) (ve_callTy vc_int (by kernel_rfl) G.b_int (by kernel_rfl) (va_cons (ve_cmp vop_ge (ve_var (i := 10) (by kernel_rfl)) ve_int rfl) va_nil (fun _ => rfl)) (fun _ => rfl) (fun _ => rfl)))))) (fun _ _ => rfl))
 (vbl_cons (Γ₁ := [false, false, false, false, false, true, false, false, false, false, false, false, false, false, false, false, false, false, false]) (vs_set (i := 14) (by kernel_rfl) ve_int (fun _ _ => rfl))
 (vbl_cons (Γ₁ := [false, false, false, false, false, true, false, false, false, false, false, false, false, false, false, false, false, false, false]) (vs_for (Γ₁ := [false, false, false, false, false, true, false, false, false, false, false, false, false, false, false, false, false, false, false]) (vi_of (ve_varS (i := 1) (by kernel_rfl) (by kernel_rfl))) (vg_tup (vgs_cons (vg_name (i := 15) (by kernel_rfl)) (vgs_cons (vg_name (i := 16) (by kernel_rfl)) vgs_nil (fun _ => rfl)) (fun _ => rfl)) (gl_cons (gl_cons gl_nil)) (fun _ => rfl) (fun _ => rfl))
 (vbl_one (vs_aug (i := 14) vop_iadd (by kernel_rfl) (by kernel_rfl) (ve_callTy vc_int (by kernel_rfl) G.b_int (by kernel_rfl) (va_cons (ve_andT (ve_callB vc_any (by kernel_rfl) G.b_any (by kernel_rfl) (va_cons (VF.e (vf_comp (own := [("_law_one", 18)]) (by kernel_rfl) rfl (by kernel_rfl) (by kernel_rfl) (by exact (vi_of (ve_var (i := 16) (by kernel_rfl)))) (vg_name (i := 18) (by kernel_rfl)) (by exact vc_nil) (by exact (ve_cmp vop_in (ve_var (i := 18) (by kernel_rfl)) (ve_var (i := 13) (by kernel_rfl)) rfl)) (fun _ _ => rfl))) va_nil (fun _ => rfl)) (fun _ => rfl) (fun _ => rfl)) (ve_one (ve_callB vc_any (by kernel_rfl) G.b_any (by kernel_rfl) (va_cons (VF.e (vf_comp (own := [("_law_one", 18)]) (by kernel_rfl) rfl (by kernel_rfl) (by kernel_rfl) (by exact (vi_of (ve_var (i := 16) (by kernel_rfl)))) (vg_name (i := 18) (by kernel_rfl)) (by exact vc_nil) (by exact (ve_cmp vop_notin (ve_var (i := 18) (by kernel_rfl)) (ve_var (i := 9) (by kernel_rfl)) rfl)) (fun _ _ => rfl))) va_nil (fun _ => rfl)) (fun _ => rfl) (fun _ => rfl)))) va_nil (fun _ => rfl)) (fun _ => rfl) (fun _ => rfl)))) (fun _ _ => rfl))
 (vbl_one (vs_if (vt_cmp vop_le (ve_var (i := 14) (by kernel_rfl)) (ve_var (i := 2) (by kernel_rfl)) rfl)
 (vbl_one (vs_append (i := 5) (by kernel_rfl) (by kernel_rfl) (va_cons (ve_tup (va_cons (ve_bin vop_add (ve_var (i := 11) (by kernel_rfl)) ve_int) (va_cons (ve_callB vc_sum (by kernel_rfl) G.b_sum (by kernel_rfl) (va_cons (VF.e (vf_comp (own := [("_law_one", 18)]) (by kernel_rfl) rfl (by kernel_rfl) (by kernel_rfl) (by exact (vi_of (ve_var (i := 13) (by kernel_rfl)))) (vg_name (i := 18) (by kernel_rfl)) (by exact vc_nil) (by exact (ve_bin vop_shl ve_int (ve_var (i := 18) (by kernel_rfl)))) (fun _ _ => rfl))) va_nil (fun _ => rfl)) (fun _ => rfl) (fun _ => rfl)) va_nil (fun _ => rfl)) (fun _ => rfl))) va_nil (fun _ => rfl)) rfl (fun _ => rfl) (fun _ => rfl)))
 vbl_nil)))))
 vbl_nil)) (fun _ _ => rfl))
 (vbl_one (vs_retOwn rfl (by kernel_rfl) (by kernel_rfl))))))))))
def s_x_law_size : DS := (sRet (eCall (f1 dSum) (aCons (eComp [1] (iRange1 (eC (.int 12))) (gN 1) tYesD (eBin dAnd (eBin dShr (eVar 0) (eVar 1)) (eC (.int 1)))) aNil)))
def d_x_law_size : List D → M D := defD 2 false s_x_law_size
theorem sc_x_law_size : FnScope ["_law_before", "_law_place"] ["_law_before"] (defScope (top 22)) := ⟨by decide +kernel, by decide +kernel, by decide +kernel, by decide +kernel, rfl, by decide +kernel, by decide +kernel⟩
theorem ok_x_law_size {g : Glo} (G : Fx g) : VFn g 1 "_law_size" ["_law_before"] false true d_x_law_size := by
  obtain ⟨a, fd, F, hm⟩ := G.f_x_law_size
  refine VFn.of (N := ["_law_before", "_law_place"]) F sc_x_law_size hm (F.bindsN fun _ _ _ _ _ _ us hl => match us, hl with | [_], _ => rfl) (Γ' := [false, false]) ?_
  show VBl _ [false, false] [false, false] (defBody (top 22)) s_x_law_size
  exact (vbl_one (vs_ret rfl (ve_callB vc_sum (by kernel_rfl) G.b_sum (by kernel_rfl) (va_cons (VF.e (vf_comp (own := [("_law_place", 1)]) (by kernel_rfl) rfl (by kernel_rfl) (by kernel_rfl) (by exact (vi_range1 (by kernel_rfl) G.b_range ve_int (fun _ => rfl))) (vg_name (i := 1) (by kernel_rfl)) (by exact vc_nil) (by exact (ve_bin vop_and (ve_bin vop_shr (ve_var (i := 0) (by kernel_rfl)) (ve_var (i := 1) (by kernel_rfl))) ve_int)) (fun _ _ => rfl))) va_nil (fun _ => rfl)) (fun _ => rfl) (fun _ => rfl))))
def s_x_law_reached : DS := (sSeq (sSet 4 (eLst (aCons (eLst (aCons (eTup (aCons (eC (.int 0)) (aCons (eC (.int 0)) aNil))) aNil)) aNil)))
 (sSeq (sFor (iRange1 (eVar 1)) (gN 5)
 (sSeq (sSet 6 (eC (.dic true [])))
 (sSeq (sFor (iOf (eBin dIx (eVar 4) (eUn dNeg (eC (.int 1))))) (gN 7)
 (sFor (iOf (eCall d_x_law_steps (aCons (eVar 0) (aCons (eCall d_x_law_nets (aCons (eVar 0) aNil)) (aCons (eVar 2) (aCons (eVar 3) (aCons (eVar 7) aNil))))))) (gN 8)
 (sPut 6 (eVar 8) (eC (.bl true)))))
 (sMut 4 gApp (aCons (eCall (f1 fListD) (aCons (eVar 6) aNil)) aNil)))))
 (sRet (eCall (f2 fSumL) (aCons (eVar 4) (aCons (eLst aNil) aNil))))))
def d_x_law_reached : List D → M D := defD 9 true s_x_law_reached
theorem sc_x_law_reached : FnScope ["_law_netlist", "_law_slots", "_law_tracks", "_law_pegs_here", "_law_found", "_law_slot", "_law_later", "_law_stage", "_law_other"] ["_law_netlist", "_law_slots", "_law_tracks", "_law_pegs_here"] (defScope (top 23)) := ⟨by decide +kernel, by decide +kernel, by decide +kernel, by decide +kernel, rfl, by decide +kernel, by decide +kernel⟩
theorem ok_x_law_reached {g : Glo} (G : Fx g) : VFn g 2 "_law_reached" ["_law_netlist", "_law_slots", "_law_tracks", "_law_pegs_here"] true true d_x_law_reached := by
  obtain ⟨a, fd, F, hm⟩ := G.f_x_law_reached
  have h_x_law_steps := ok_x_law_steps G
  have h_x_law_nets := ok_x_law_nets G
  refine VFn.of (N := ["_law_netlist", "_law_slots", "_law_tracks", "_law_pegs_here", "_law_found", "_law_slot", "_law_later", "_law_stage", "_law_other"]) F sc_x_law_reached hm (F.bindsN fun _ _ _ _ _ _ us hl => match us, hl with | [_, _, _, _], _ => rfl) (Γ' := [false, false, false, false, true, false, false, false, false]) ?_
  show VBl _ [false, false, false, false, false, false, false, false, false] [false, false, false, false, true, false, false, false, false] (defBody (top 23)) s_x_law_reached
  exact (vbl_cons (Γ₁ := [false, false, false, false, true, false, false, false, false]) (vs_setF (i := 4) (by kernel_rfl) (Nat.le_of_ble_eq_true (by kernel_rfl)) (vf_lst (va_cons (VF.e (vf_lst (va_cons (ve_tup (va_cons ve_int (va_cons ve_int va_nil (fun _ => rfl)) (fun _ => rfl))) va_nil (fun _ => rfl)))) va_nil (fun _ => rfl))) (fun _ _ => rfl))
 (vbl_cons (Γ₁ := [false, false, false, false, true, false, false, false, false]) (vs_for (Γ₁ := [false, false, false, false, true, false, false, false, false]) (vi_range1 (by kernel_rfl) G.b_range (ve_var (i := 1) (by kernel_rfl)) (fun _ => rfl)) (vg_name (i := 5) (by kernel_rfl))
 (vbl_freeze 6 (vbl_cons (Γ₁ := [false, false, false, false, true, false, true, false, false]) (vs_setF (i := 6) (by kernel_rfl) (Nat.le_of_ble_eq_true (by kernel_rfl)) vf_dict0T (fun _ _ => rfl))
 (vbl_cons (Γ₁ := [false, false, false, false, true, false, true, false, false]) (vs_for (Γ₁ := [false, false, false, false, true, false, true, false, false]) (vi_of (ve_ix (ve_var (i := 4) (by kernel_rfl)) (ve_un vun_neg ve_int) (fun _ _ => rfl))) (vg_name (i := 7) (by kernel_rfl))
 (vbl_one (vs_for (Γ₁ := [false, false, false, false, true, false, true, false, false]) (vi_of (VF.e (vf_call h_x_law_steps (Nat.le_of_ble_eq_true (by kernel_rfl)) (by kernel_rfl) (fun _ => rfl) (va_cons (ve_varS (i := 0) (by kernel_rfl) (by kernel_rfl)) (va_cons (VF.e (vf_call h_x_law_nets (Nat.le_of_ble_eq_true (by kernel_rfl)) (by kernel_rfl) (fun _ => rfl) (va_cons (ve_varS (i := 0) (by kernel_rfl) (by kernel_rfl)) va_nil (fun _ => rfl)) (al_cons al_nil) (fun _ => rfl) (fun _ => rfl))) (va_cons (ve_varS (i := 2) (by kernel_rfl) (by kernel_rfl)) (va_cons (ve_varS (i := 3) (by kernel_rfl) (by kernel_rfl)) (va_cons (ve_varS (i := 7) (by kernel_rfl) (by kernel_rfl)) va_nil (fun _ => rfl)) (fun _ => rfl)) (fun _ => rfl)) (fun _ => rfl)) (fun _ => rfl)) (al_cons (al_cons (al_cons (al_cons (al_cons al_nil))))) (fun _ => rfl) (fun _ => rfl)))) (vg_name (i := 8) (by kernel_rfl))
 (vbl_one (vs_put (by kernel_rfl) (by kernel_rfl) (ve_var (i := 8) (by kernel_rfl)) ve_bl (by intro _ _; rfl) (fun _ _ => rfl) (fun _ => rfl) (fun _ => rfl))) (fun _ _ => rfl))) (fun _ _ => rfl))
 (vbl_one (vs_append (i := 4) (by kernel_rfl) (by kernel_rfl) (va_cons (VF.e (vf_callTy vc_listD (by kernel_rfl) G.b_list (by kernel_rfl) (va_cons (ve_var (i := 6) (by kernel_rfl)) va_nil (fun _ => rfl)) (fun _ => rfl) (fun _ => rfl))) va_nil (fun _ => rfl)) rfl (fun _ => rfl) (fun _ => rfl)))))) (fun _ _ => rfl))
 (vbl_one (vs_retF rfl (vf_callB vc_sumL (by kernel_rfl) G.b_sum (by kernel_rfl) (va_cons (ve_var (i := 4) (by kernel_rfl)) (va_cons (VF.e (vf_lst va_nil)) va_nil (fun _ => rfl)) (fun _ => rfl)) (fun _ => rfl) (fun _ => rfl))))))
def s_x_law_bars : DS := (sSeq (sSet 5 (eBin dSub (eBin dShl (eC (.int 1)) (eCall (f1 dLen) (aCons (eVar 0) aNil))) (eC (.int 1))))
 (sSeq (sIf (tAnd' (tBin dEq (eVar 4) (eLst aNil)) (tBin dGt (eCall (f1 dLen) (aCons (eVar 0) aNil)) (eVar 1)))
 (sRet (eC (.bl true)))
 sNext)
 (sSeq (sSet 6 (eCall d_x_law_nets (aCons (eVar 0) aNil)))
 (sSeq (sSet 7 (eCall (f1 fDictT) (aCons (eComp [10] (iOf (eVar 4)) (gN 10) tYesD (eTup (aCons (eVar 10) (aCons (eC (.bl true)) aNil)))) aNil)))
 (sSeq (sIf (tOr' (tBin dNotIn (eTup (aCons (eC (.int 0)) (aCons (eC (.int 0)) aNil))) (eVar 7)) (tAnd' (tBin dLe (eCall (f1 dLen) (aCons (eVar 0) aNil)) (eVar 1)) (tBin dIn (eTup (aCons (eVar 1) (aCons (eVar 5) aNil))) (eVar 7))))
 (sRet (eC (.bl false)))
 sNext)
 (sSeq (sFor (iOf (eVar 4)) (gT (gsCons (gN 8) (gsCons (gN 9) gsNil)))
 (sIf (tAnd' (tChain' dLe dLt (eC (.int 0)) (eVar 8) (eVar 1)) (tAnd' (tChain' dLe dLe (eC (.int 0)) (eVar 9) (eVar 5)) (tBin dLe (eCall d_x_law_size (aCons (eVar 9) aNil)) (eVar 8))))
 (sFor (iOf (eCall d_x_law_steps (aCons (eVar 0) (aCons (eVar 6) (aCons (eVar 2) (aCons (eVar 3) (aCons (eTup (aCons (eVar 8) (aCons (eVar 9) aNil))) aNil))))))) (gN 10)
 (sIf (tBin dNotIn (eVar 10) (eVar 7))
 (sRet (eC (.bl false)))
 sNext))
 sNext))
 (sRet (eC (.bl true)))))))))
def d_x_law_bars : List D → M D := defD 11 false s_x_law_bars
theorem sc_x_law_bars : FnScope ["_law_netlist", "_law_slots", "_law_tracks", "_law_pegs_here", "_law_family", "_law_full", "_law_some_nets", "_law_known", "_law_slot", "_law_before", "_law_stage"] ["_law_netlist", "_law_slots", "_law_tracks", "_law_pegs_here", "_law_family"] (defScope (top 24)) := ⟨by decide +kernel, by decide +kernel, by decide +kernel, by decide +kernel, rfl, by decide +kernel, by decide +kernel⟩
theorem ok_x_law_bars {g : Glo} (G : Fx g) : VFn g 2 "_law_bars" ["_law_netlist", "_law_slots", "_law_tracks", "_law_pegs_here", "_law_family"] false true d_x_law_bars := by
  obtain ⟨a, fd, F, hm⟩ := G.f_x_law_bars
  have h_x_law_nets := ok_x_law_nets G
  have h_x_law_steps := ok_x_law_steps G
  have h_x_law_size := ok_x_law_size G
  refine VFn.of (N := ["_law_netlist", "_law_slots", "_law_tracks", "_law_pegs_here", "_law_family", "_law_full", "_law_some_nets", "_law_known", "_law_slot", "_law_before", "_law_stage"]) F sc_x_law_bars hm (F.bindsN fun _ _ _ _ _ _ us hl => match us, hl with | [_, _, _, _, _], _ => rfl) (Γ' := [false, false, false, false, false, false, false, false, false, false, false]) ?_
  show VBl _ [false, false, false, false, false, false, false, false, false, false, false] [false, false, false, false, false, false, false, false, false, false, false] (defBody (top 24)) s_x_law_bars
  exact (vbl_cons (Γ₁ := [false, false, false, false, false, false, false, false, false, false, false]) (vs_set (i := 5) (by kernel_rfl) (ve_bin vop_sub (ve_bin vop_shl ve_int (ve_callB vc_len (by kernel_rfl) G.b_len (by kernel_rfl) (va_cons (ve_var (i := 0) (by kernel_rfl)) va_nil (fun _ => rfl)) (fun _ => rfl) (fun _ => rfl))) ve_int) (fun _ _ => rfl))
 (vbl_cons (Γ₁ := [false, false, false, false, false, false, false, false, false, false, false]) (vs_if (vw_t (vw_and (vt_cmp vop_eq (ve_var (i := 4) (by kernel_rfl)) (VF.e (vf_lst va_nil)) rfl) (vw_and1 (vt_cmp vop_gt (ve_callB vc_len (by kernel_rfl) G.b_len (by kernel_rfl) (va_cons (ve_var (i := 0) (by kernel_rfl)) va_nil (fun _ => rfl)) (fun _ => rfl) (fun _ => rfl)) (ve_var (i := 1) (by kernel_rfl)) rfl))))
 (vbl_one (vs_ret rfl ve_bl))
 vbl_nil)
 (vbl_cons (Γ₁ := [false, false, false, false, false, false, false, false, false, false, false]) (vs_set (i := 6) (by kernel_rfl) (VF.e (vf_call h_x_law_nets (Nat.le_of_ble_eq_true (by kernel_rfl)) (by kernel_rfl) (fun _ => rfl) (va_cons (ve_varS (i := 0) (by kernel_rfl) (by kernel_rfl)) va_nil (fun _ => rfl)) (al_cons al_nil) (fun _ => rfl) (fun _ => rfl))) (fun _ _ => rfl))
 (vbl_cons (Γ₁ := [false, false, false, false, false, false, false, false, false, false, false]) (vs_set (i := 7) (by kernel_rfl) (VF.e (vf_callTy vc_dictPT (by kernel_rfl) G.b_dict (by kernel_rfl) (va_cons (VF.e (vf_comp (own := [("_law_stage", 10)]) (by kernel_rfl) rfl (by kernel_rfl) (by kernel_rfl) (by exact (vi_of (ve_var (i := 4) (by kernel_rfl)))) (vg_name (i := 10) (by kernel_rfl)) (by exact vc_nil) (by exact (ve_tup (va_cons (ve_varS (i := 10) (by kernel_rfl) (by kernel_rfl)) (va_cons ve_bl va_nil (fun _ => rfl)) (fun _ => rfl)))) (fun _ _ => rfl))) va_nil (fun _ => rfl)) (fun _ => rfl) (fun _ => rfl))) (fun _ _ => rfl))
 (vbl_cons (Γ₁ := [false, false, false, false, false, false, false, false, false, false, false]) (vs_if (vw_t (vw_or (vt_cmp vop_notin (ve_tup (va_cons ve_int (va_cons ve_int va_nil (fun _ => rfl)) (fun _ => rfl))) (ve_var (i := 7) (by kernel_rfl)) rfl) (vw_or1 (vw_t (vw_and (vt_cmp vop_le (ve_callB vc_len (by kernel_rfl) G.b_len (by kernel_rfl) (va_cons (ve_var (i := 0) (by kernel_rfl)) va_nil (fun _ => rfl)) (fun _ => rfl) (fun _ => rfl)) (ve_var (i := 1) (by kernel_rfl)) rfl) (vw_and1 (vt_cmp vop_in (ve_tup (va_cons (ve_varS (i := 1) (by kernel_rfl) (by kernel_rfl)) (va_cons (ve_varS (i := 5) (by kernel_rfl) (by kernel_rfl)) va_nil (fun _ => rfl)) (fun _ => rfl))) (ve_var (i := 7) (by kernel_rfl)) rfl)))))))
 (vbl_one (vs_ret rfl ve_bl))
 vbl_nil)
 (vbl_cons (Γ₁ := [false, false, false, false, false, false, false, false, false, false, false]) (vs_for (Γ₁ := [false, false, false, false, false, false, false, false, false, false, false]) (vi_of (ve_varS (i := 4) (by kernel_rfl) (by kernel_rfl))) (vg_tup (vgs_cons (vg_name (i := 8) (by kernel_rfl)) (vgs_cons (vg_name (i := 9) (by kernel_rfl)) vgs_nil (fun _ => rfl)) (fun _ => rfl)) (gl_cons (gl_cons gl_nil)) (fun _ => rfl) (fun _ => rfl))
 (vbl_one (vs_if (vw_t (vw_and (vt_chain vop_le vop_lt ve_int (ve_var (i := 8) (by kernel_rfl)) (ve_var (i := 1) (by kernel_rfl)) rfl) (vw_and (vt_chain vop_le vop_le ve_int (ve_var (i := 9) (by kernel_rfl)) (ve_var (i := 5) (by kernel_rfl)) rfl) (vw_and1 (vt_cmp vop_le (ve_call h_x_law_size (Nat.le_of_ble_eq_true (by kernel_rfl)) (by kernel_rfl) (fun _ => rfl) (va_cons (ve_varS (i := 9) (by kernel_rfl) (by kernel_rfl)) va_nil (fun _ => rfl)) (al_cons al_nil) (fun _ => rfl) (fun _ => rfl)) (ve_var (i := 8) (by kernel_rfl)) rfl)))))
 (vbl_one (vs_for (Γ₁ := [false, false, false, false, false, false, false, false, false, false, false]) (vi_of (VF.e (vf_call h_x_law_steps (Nat.le_of_ble_eq_true (by kernel_rfl)) (by kernel_rfl) (fun _ => rfl) (va_cons (ve_varS (i := 0) (by kernel_rfl) (by kernel_rfl)) (va_cons (ve_varS (i := 6) (by kernel_rfl) (by kernel_rfl)) (va_cons (ve_varS (i := 2) (by kernel_rfl) (by kernel_rfl)) (va_cons (ve_varS (i := 3) (by kernel_rfl) (by kernel_rfl)) (va_cons (ve_tup (va_cons (ve_varS (i := 8) (by kernel_rfl) (by kernel_rfl)) (va_cons (ve_varS (i := 9) (by kernel_rfl) (by kernel_rfl)) va_nil (fun _ => rfl)) (fun _ => rfl))) va_nil (fun _ => rfl)) (fun _ => rfl)) (fun _ => rfl)) (fun _ => rfl)) (fun _ => rfl)) (al_cons (al_cons (al_cons (al_cons (al_cons al_nil))))) (fun _ => rfl) (fun _ => rfl)))) (vg_name (i := 10) (by kernel_rfl))
 (vbl_one (vs_if (vt_cmp vop_notin (ve_var (i := 10) (by kernel_rfl)) (ve_var (i := 7) (by kernel_rfl)) rfl)
 (vbl_one (vs_ret rfl ve_bl))
 vbl_nil)) (fun _ _ => rfl)))
 vbl_nil)) (fun _ _ => rfl))
 (vbl_one (vs_ret rfl ve_bl))))))))
def s_law : DS := (sSeq (sSet 1 (eNew (eCall d_x_law_box (aCons (eVar 0) aNil))))
 (sSeq (sSet 2 (eCall d_x_law_some_net (aCons (eVar 1) (aCons (eC (.int 2)) (aCons (eC (.int 4)) (aCons (eC (.int 2)) aNil))))))
 (sSeq (sSet 3 (eBin dIx (eLst (aCons (eBin dAdd (eCall (f1 dLen) (aCons (eVar 2) aNil)) (eCall d_x_law_take (aCons (eVar 1) (aCons (eC (.int 2)) aNil)))) (aCons (eBin dAdd (eC (.int 2)) (eCall d_x_law_take (aCons (eVar 1) (aCons (eC (.int 5)) aNil)))) aNil))) (eCall d_x_law_take (aCons (eVar 1) (aCons (eC (.int 2)) aNil)))))
 (sSeq (sSet 3 (eCall (f2 dMax2) (aCons (eC (.int 1)) (aCons (eCall (f2 dMin2) (aCons (eVar 3) (aCons (eC (.int 8)) aNil))) aNil))))
 (sSeq (sSet 4 (eBin dMulE (eCall d_x_law_pegs (aCons (eVar 1) (aCons (eVar 2) (aCons (eVar 3) aNil)))) (eCall (f1 dInt) (aCons (eBin dLe (eCall (f1 dLen) (aCons (eVar 2) aNil)) (eVar 3)) aNil))))
 (sSeq (sSet 5 (eCall d_x_law_take (aCons (eVar 1) (aCons (eC (.int 4)) aNil))))
 (sSeq (sSet 6 (eCall d_placed (aCons (eVar 2) (aCons (eVar 3) (aCons (eVar 5) (aCons (eVar 4) aNil))))))
 (sSeq (sSet 7 (eBin dIx (eLst (aCons (eCall d_x_law_reached (aCons (eVar 2) (aCons (eVar 3) (aCons (eVar 5) (aCons (eVar 4) aNil))))) (aCons (eLst (aCons (eTup (aCons (eC (.int 0)) (aCons (eC (.int 0)) aNil))) aNil)) aNil))) (eBin dFdiv (eCall d_x_law_take (aCons (eVar 1) (aCons (eC (.int 3)) aNil))) (eC (.int 2)))))
 (sSeq (sIf (tAnd' (tBin dEq (eBin dIx (eVar 6) (eC (.int 0))) (eC (.str [98, 97, 114, 114, 101, 100]))) (tBin dEq (eCall d_x_law_take (aCons (eVar 1) (aCons (eC (.int 2)) aNil))) (eC (.int 0))))
 (sSet 7 (eCall (f1 fList) (aCons (eBin dIx (eVar 6) (eC (.int 1))) aNil)))
 sNext)
 (sSeq (sFor (iRange1 (eC (.int 4))) (gN 8)
 (sSeq (sSet 9 (eCall (f1 fList) (aCons (eVar 7) aNil)))
 (sSeq (sSet 10 (eCall d_x_law_bars (aCons (eVar 2) (aCons (eVar 3) (aCons (eVar 5) (aCons (eVar 4) (aCons (eVar 7) aNil)))))))
 (sSeq (sIf (tOr' (tNot' (tOf (eCall (d_x_law_same fuel_x_law_same) (aCons (eCall d_bars (aCons (eVar 2) (aCons (eVar 3) (aCons (eVar 5) (aCons (eVar 4) (aCons (eVar 9) aNil)))))) (aCons (eVar 10) aNil))))) (tBin dNe (eVar 9) (eVar 7)))
 (sRet (eC (.bl false)))
 sNext)
 (sSeq (sSet 11 (eCall d_x_law_take (aCons (eVar 1) (aCons (eBin dAdd (eCall (f1 dLen) (aCons (eVar 7) aNil)) (eC (.int 1))) aNil))))
 (sSeq (sAsg (eTup (aCons (eCall d_x_law_take (aCons (eVar 1) (aCons (eC (.int 9)) aNil))) (aCons (eCall d_x_law_take (aCons (eVar 1) (aCons (eBin dShl (eC (.int 1)) (eCall (f1 dLen) (aCons (eVar 2) aNil))) aNil))) aNil))) (gT (gsCons (gN 13) (gsCons (gN 14) gsNil))))
 (sSeq (sSet 12 (eLst (aCons (eTup (aCons (eVar 13) (aCons (eVar 14) aNil))) (aCons (eTup (aCons (eVar 3) (aCons (eBin dSub (eBin dShl (eC (.int 1)) (eCall (f1 dLen) (aCons (eVar 2) aNil))) (eC (.int 1))) aNil))) (aCons (eTup (aCons (eUn dNeg (eC (.int 1))) (aCons (eUn dNeg (eC (.int 5))) aNil))) (aCons (eTup (aCons (eBin dPow (eC (.int 10)) (eC (.int 20))) (aCons (eC (.int 3)) aNil))) (aCons (eTup (aCons (eC (.int 0)) (aCons (eBin dShl (eC (.int 1)) (eC (.int 12))) aNil))) aNil)))))))
 (sSeq (sSet 12 (eBin dIx (eBin fAdd (eVar 12) (eLst (aCons (eTup (aCons (eVar 13) (aCons (eBin dSub (eUn dNeg (eC (.int 1))) (eVar 14)) aNil))) (aCons (eTup (aCons (eVar 13) (aCons (eBin dShl (eC (.int 1)) (eC (.int 12))) aNil))) aNil)))) (eCall d_x_law_take (aCons (eVar 1) (aCons (eC (.int 7)) aNil)))))
 (sSet 7 (eBin dIx (eLst (aCons (eBin fAdd (eSl fSl (eVar 7) oNone (oSome (eVar 11))) (eSl fSl (eVar 7) (oSome (eBin dAdd (eVar 11) (eC (.int 1)))) oNone)) (aCons (eBin fAdd (eBin fAdd (eSl fSl (eVar 7) oNone (oSome (eVar 11))) (eLst (aCons (eVar 12) aNil))) (eSl fSl (eVar 7) (oSome (eVar 11)) oNone)) aNil))) (eCall d_x_law_take (aCons (eVar 1) (aCons (eC (.int 2)) aNil)))))))))))))
 (sRet (eC (.bl true)))))))))))))
def d_law : List D → M D := defD 15 false s_law
theorem sc_law : FnScope ["_law_script", "_law_box_here", "_law_netlist", "_law_slots", "_law_pegs_here", "_law_tracks", "_law_found", "_law_family", "_law_turn", "_law_handed", "_law_want", "_law_at", "_law_extra", "_law_where", "_law_some"] ["_law_script"] (defScope (top 25)) := ⟨by decide +kernel, by decide +kernel, by decide +kernel, by decide +kernel, rfl, by decide +kernel, by decide +kernel⟩
theorem bl_law {g : Glo} (G : Fx g) : VBl ⟨g, ["_law_script", "_law_box_here", "_law_netlist", "_law_slots", "_law_pegs_here", "_law_tracks", "_law_found", "_law_family", "_law_turn", "_law_handed", "_law_want", "_law_at", "_law_extra", "_law_where", "_law_some"], defScope (top 25), 8, true, false, false, false, none⟩ [false, false, false, false, false, false, false, false, false, false, false, false, false, false, false] [false, false, false, false, false, false, false, false, false, false, false, false, false, false, false] (defBody (top 25)) s_law := by
  have h_x_law_box := ok_x_law_box G
  have h_x_law_some_net := ok_x_law_some_net G
  have h_x_law_take := ok_x_law_take G
  have h_placed := ok_placed G
  have h_x_law_pegs := ok_x_law_pegs G
  have h_x_law_bars := ok_x_law_bars G
  have h_x_law_reached := ok_x_law_reached G
  have h_x_law_same := ok_x_law_same G
  have h_bars := ok_bars G
  exact (vbl_cons (Γ₁ := [false, false, false, false, false, false, false, false, false, false, false, false, false, false, false]) (vs_set (i := 1) (by kernel_rfl) (ve_new (vf_call h_x_law_box (Nat.le_of_ble_eq_true (by kernel_rfl)) (by kernel_rfl) (fun _ => rfl) (va_cons (ve_varS (i := 0) (by kernel_rfl) (by kernel_rfl)) va_nil (fun _ => rfl)) (al_cons al_nil) (fun _ => rfl) (fun _ => rfl))) (fun _ _ => rfl))
 (vbl_cons (Γ₁ := [false, false, false, false, false, false, false, false, false, false, false, false, false, false, false]) (vs_set (i := 2) (by kernel_rfl) (ve_call h_x_law_some_net (Nat.le_of_ble_eq_true (by kernel_rfl)) (by kernel_rfl) (by intro h; cases h) (va_cons (ve_varS (i := 1) (by kernel_rfl) (by kernel_rfl)) (va_cons ve_int (va_cons ve_int (va_cons ve_int va_nil (fun _ => rfl)) (fun _ => rfl)) (fun _ => rfl)) (fun _ => rfl)) (al_cons (al_cons (al_cons (al_cons al_nil)))) (fun _ => rfl) (fun _ => rfl)) (fun _ _ => rfl))
 (vbl_cons (Γ₁ := [false, false, false, false, false, false, false, false, false, false, false, false, false, false, false]) (vs_set (i := 3) (by kernel_rfl) (ve_ix (VF.e (vf_lst (va_cons (ve_bin vop_add (ve_callB vc_len (by kernel_rfl) G.b_len (by kernel_rfl) (va_cons (ve_var (i := 2) (by kernel_rfl)) va_nil (fun _ => rfl)) (fun _ => rfl) (fun _ => rfl)) (ve_call h_x_law_take (Nat.le_of_ble_eq_true (by kernel_rfl)) (by kernel_rfl) (by intro h; cases h) (va_cons (ve_varS (i := 1) (by kernel_rfl) (by kernel_rfl)) (va_cons ve_int va_nil (fun _ => rfl)) (fun _ => rfl)) (al_cons (al_cons al_nil)) (fun _ => rfl) (fun _ => rfl))) (va_cons (ve_bin vop_add ve_int (ve_call h_x_law_take (Nat.le_of_ble_eq_true (by kernel_rfl)) (by kernel_rfl) (by intro h; cases h) (va_cons (ve_varS (i := 1) (by kernel_rfl) (by kernel_rfl)) (va_cons ve_int va_nil (fun _ => rfl)) (fun _ => rfl)) (al_cons (al_cons al_nil)) (fun _ => rfl) (fun _ => rfl))) va_nil (fun _ => rfl)) (fun _ => rfl)))) (ve_call h_x_law_take (Nat.le_of_ble_eq_true (by kernel_rfl)) (by kernel_rfl) (by intro h; cases h) (va_cons (ve_varS (i := 1) (by kernel_rfl) (by kernel_rfl)) (va_cons ve_int va_nil (fun _ => rfl)) (fun _ => rfl)) (al_cons (al_cons al_nil)) (fun _ => rfl) (fun _ => rfl)) (fun _ _ => rfl)) (fun _ _ => rfl))
 (vbl_cons (Γ₁ := [false, false, false, false, false, false, false, false, false, false, false, false, false, false, false]) (vs_set (i := 3) (by kernel_rfl) (ve_callB vc_max2 (by kernel_rfl) G.b_max (by kernel_rfl) (va_cons ve_int (va_cons (ve_callB vc_min2 (by kernel_rfl) G.b_min (by kernel_rfl) (va_cons (ve_var (i := 3) (by kernel_rfl)) (va_cons ve_int va_nil (fun _ => rfl)) (fun _ => rfl)) (fun _ => rfl) (fun _ => rfl)) va_nil (fun _ => rfl)) (fun _ => rfl)) (fun _ => rfl) (fun _ => rfl)) (fun _ _ => rfl))
 (vbl_cons (Γ₁ := [false, false, false, false, false, false, false, false, false, false, false, false, false, false, false]) (vs_set (i := 4) (by kernel_rfl) (ve_bin vop_mulE (ve_call h_x_law_pegs (Nat.le_of_ble_eq_true (by kernel_rfl)) (by kernel_rfl) (by intro h; cases h) (va_cons (ve_varS (i := 1) (by kernel_rfl) (by kernel_rfl)) (va_cons (ve_varS (i := 2) (by kernel_rfl) (by kernel_rfl)) (va_cons (ve_varS (i := 3) (by kernel_rfl) (by kernel_rfl)) va_nil (fun _ => rfl)) (fun _ => rfl)) (fun _ => rfl)) (al_cons (al_cons (al_cons al_nil))) (fun _ => rfl) (fun _ => rfl)) (ve_callTy vc_int (by kernel_rfl) G.b_int (by kernel_rfl) (va_cons (ve_cmp vop_le (ve_callB vc_len (by kernel_rfl) G.b_len (by kernel_rfl) (va_cons (ve_var (i := 2) (by kernel_rfl)) va_nil (fun _ => rfl)) (fun _ => rfl) (fun _ => rfl)) (ve_var (i := 3) (by kernel_rfl)) rfl) va_nil (fun _ => rfl)) (fun _ => rfl) (fun _ => rfl))) (fun _ _ => rfl))
 (vbl_cons (Γ₁ := [false, false, false, false, false, false, false, false, false, false, false, false, false, false, false]) (vs_set (i := 5) (by kernel_rfl) (ve_call h_x_law_take (Nat.le_of_ble_eq_true (by kernel_rfl)) (by kernel_rfl) (by intro h; cases h) (va_cons (ve_varS (i := 1) (by kernel_rfl) (by kernel_rfl)) (va_cons ve_int va_nil (fun _ => rfl)) (fun _ => rfl)) (al_cons (al_cons al_nil)) (fun _ => rfl) (fun _ => rfl)) (fun _ _ => rfl))
 (vbl_cons (Γ₁ := [false, false, false, false, false, false, false, false, false, false, false, false, false, false, false]) (vs_set (i := 6) (by kernel_rfl) (ve_call h_placed (Nat.le_of_ble_eq_true (by kernel_rfl)) (by kernel_rfl) (fun _ => rfl) (va_cons (ve_varS (i := 2) (by kernel_rfl) (by kernel_rfl)) (va_cons (ve_varS (i := 3) (by kernel_rfl) (by kernel_rfl)) (va_cons (ve_varS (i := 5) (by kernel_rfl) (by kernel_rfl)) (va_cons (ve_varS (i := 4) (by kernel_rfl) (by kernel_rfl)) va_nil (fun _ => rfl)) (fun _ => rfl)) (fun _ => rfl)) (fun _ => rfl)) (al_cons (al_cons (al_cons (al_cons al_nil)))) (fun _ => rfl) (fun _ => rfl)) (fun _ _ => rfl))
 (vbl_cons (Γ₁ := [false, false, false, false, false, false, false, false, false, false, false, false, false, false, false]) (vs_set (i := 7) (by kernel_rfl) (ve_ix (VF.e (vf_lst (va_cons (VF.e (vf_call h_x_law_reached (Nat.le_of_ble_eq_true (by kernel_rfl)) (by kernel_rfl) (fun _ => rfl) (va_cons (ve_varS (i := 2) (by kernel_rfl) (by kernel_rfl)) (va_cons (ve_varS (i := 3) (by kernel_rfl) (by kernel_rfl)) (va_cons (ve_varS (i := 5) (by kernel_rfl) (by kernel_rfl)) (va_cons (ve_varS (i := 4) (by kernel_rfl) (by kernel_rfl)) va_nil (fun _ => rfl)) (fun _ => rfl)) (fun _ => rfl)) (fun _ => rfl)) (al_cons (al_cons (al_cons (al_cons al_nil)))) (fun _ => rfl) (fun _ => rfl))) (va_cons (VF.e (vf_lst (va_cons (ve_tup (va_cons ve_int (va_cons ve_int va_nil (fun _ => rfl)) (fun _ => rfl))) va_nil (fun _ => rfl)))) va_nil (fun _ => rfl)) (fun _ => rfl)))) (ve_bin vop_fdiv (ve_call h_x_law_take (Nat.le_of_ble_eq_true (by kernel_rfl)) (by kernel_rfl) (by intro h; cases h) (va_cons (ve_varS (i := 1) (by kernel_rfl) (by kernel_rfl)) (va_cons ve_int va_nil (fun _ => rfl)) (fun _ => rfl)) (al_cons (al_cons al_nil)) (fun _ => rfl) (fun _ => rfl)) ve_int) (fun _ _ => rfl)) (fun _ _ => rfl))
 (vbl_cons (Γ₁ := [false, false, false, false, false, false, false, false, false, false, false, false, false, false, false]) (vs_if (vw_t (vw_and (vt_cmp vop_eq (ve_ix (ve_var (i := 6) (by kernel_rfl)) ve_int (fun _ _ => rfl)) (ve_str (by kernel_rfl)) rfl) (vw_and1 (vt_cmp vop_eq (ve_call h_x_law_take (Nat.le_of_ble_eq_true (by kernel_rfl)) (by kernel_rfl) (by intro h; cases h) (va_cons (ve_varS (i := 1) (by kernel_rfl) (by kernel_rfl)) (va_cons ve_int va_nil (fun _ => rfl)) (fun _ => rfl)) (al_cons (al_cons al_nil)) (fun _ => rfl) (fun _ => rfl)) ve_int rfl))))
 (vbl_one (vs_set (i := 7) (by kernel_rfl) (VF.e (vf_callTy vc_list (by kernel_rfl) G.b_list (by kernel_rfl) (va_cons (ve_ix (ve_var (i := 6) (by kernel_rfl)) ve_int (fun _ _ => rfl)) va_nil (fun _ => rfl)) (fun _ => rfl) (fun _ => rfl))) (fun _ _ => rfl)))
 vbl_nil)
 (vbl_cons (Γ₁ := [false, false, false, false, false, false, false, false, false, false, false, false, false, false, false]) (vs_for (Γ₁ := [false, false, false, false, false, false, false, false, false, false, false, false, false, false, false]) (vi_range1 (by kernel_rfl) G.b_range ve_int (fun _ => rfl)) (vg_name (i := 8) (by kernel_rfl))
 (vbl_cons (Γ₁ := [false, false, false, false, false, false, false, false, false, false, false, false, false, false, false]) (vs_set (i := 9) (by kernel_rfl) (VF.e (vf_callTy vc_list (by kernel_rfl) G.b_list (by kernel_rfl) (va_cons (ve_var (i := 7) (by kernel_rfl)) va_nil (fun _ => rfl)) (fun _ => rfl) (fun _ => rfl))) (fun _ _ => rfl))
 (vbl_cons (Γ₁ := [false, false, false, false, false, false, false, false, false, false, false, false, false, false, false]) (vs_set (i := 10) (by kernel_rfl) (ve_call h_x_law_bars (Nat.le_of_ble_eq_true (by kernel_rfl)) (by kernel_rfl) (fun _ => rfl) (va_cons (ve_varS (i := 2) (by kernel_rfl) (by kernel_rfl)) (va_cons (ve_varS (i := 3) (by kernel_rfl) (by kernel_rfl)) (va_cons (ve_varS (i := 5) (by kernel_rfl) (by kernel_rfl)) (va_cons (ve_varS (i := 4) (by kernel_rfl) (by kernel_rfl)) (va_cons (ve_varS (i := 7) (by kernel_rfl) (by kernel_rfl)) va_nil (fun _ => rfl)) (fun _ => rfl)) (fun _ => rfl)) (fun _ => rfl)) (fun _ => rfl)) (al_cons (al_cons (al_cons (al_cons (al_cons al_nil))))) (fun _ => rfl) (fun _ => rfl)) (fun _ _ => rfl))
 (vbl_cons (Γ₁ := [false, false, false, false, false, false, false, false, false, false, false, false, false, false, false]) (vs_if (vw_t (vw_or (vt_not (vt_of (ve_call h_x_law_same (Nat.le_of_ble_eq_true (by kernel_rfl)) (by kernel_rfl) (fun _ => rfl) (va_cons (ve_call h_bars (Nat.le_of_ble_eq_true (by kernel_rfl)) (by kernel_rfl) (fun _ => rfl) (va_cons (ve_varS (i := 2) (by kernel_rfl) (by kernel_rfl)) (va_cons (ve_varS (i := 3) (by kernel_rfl) (by kernel_rfl)) (va_cons (ve_varS (i := 5) (by kernel_rfl) (by kernel_rfl)) (va_cons (ve_varS (i := 4) (by kernel_rfl) (by kernel_rfl)) (va_cons (ve_varS (i := 9) (by kernel_rfl) (by kernel_rfl)) va_nil (fun _ => rfl)) (fun _ => rfl)) (fun _ => rfl)) (fun _ => rfl)) (fun _ => rfl)) (al_cons (al_cons (al_cons (al_cons (al_cons al_nil))))) (fun _ => rfl) (fun _ => rfl)) (va_cons (ve_varS (i := 10) (by kernel_rfl) (by kernel_rfl)) va_nil (fun _ => rfl)) (fun _ => rfl)) (al_cons (al_cons al_nil)) (fun _ => rfl) (fun _ => rfl)) (fun _ _ => rfl))) (vw_or1 (vt_cmp vop_ne (ve_var (i := 9) (by kernel_rfl)) (ve_var (i := 7) (by kernel_rfl)) rfl))))
 (vbl_one (vs_ret rfl ve_bl))
 vbl_nil)
 (vbl_cons (Γ₁ := [false, false, false, false, false, false, false, false, false, false, false, false, false, false, false]) (vs_set (i := 11) (by kernel_rfl) (ve_call h_x_law_take (Nat.le_of_ble_eq_true (by kernel_rfl)) (by kernel_rfl) (by intro h; cases h) (va_cons (ve_varS (i := 1) (by kernel_rfl) (by kernel_rfl)) (va_cons (ve_bin vop_add (ve_callB vc_len (by kernel_rfl) G.b_len (by kernel_rfl) (va_cons (ve_var (i := 7) (by kernel_rfl)) va_nil (fun _ => rfl)) (fun _ => rfl) (fun _ => rfl)) ve_int) va_nil (fun _ => rfl)) (fun _ => rfl)) (al_cons (al_cons al_nil)) (fun _ => rfl) (fun _ => rfl)) (fun _ _ => rfl))
 (vbl_cons (Γ₁ := [false, false, false, false, false, false, false, false, false, false, false, false, false, false, false]) (vs_par (i := 13) (j := 14) (by kernel_rfl) rfl rfl rfl (by kernel_rfl) (by kernel_rfl) (fun _ _ => rfl) (va_cons (ve_call h_x_law_take (Nat.le_of_ble_eq_true (by kernel_rfl)) (by kernel_rfl) (by intro h; cases h) (va_cons (ve_varS (i := 1) (by kernel_rfl) (by kernel_rfl)) (va_cons ve_int va_nil (fun _ => rfl)) (fun _ => rfl)) (al_cons (al_cons al_nil)) (fun _ => rfl) (fun _ => rfl)) (va_cons (ve_call h_x_law_take (Nat.le_of_ble_eq_true (by kernel_rfl)) (by kernel_rfl) (by intro h; cases h) (va_cons (ve_varS (i := 1) (by kernel_rfl) (by kernel_rfl)) (va_cons (ve_bin vop_shl ve_int (ve_callB vc_len (by kernel_rfl) G.b_len (by kernel_rfl) (va_cons (ve_var (i := 2) (by kernel_rfl)) va_nil (fun _ => rfl)) (fun _ => rfl) (fun _ => rfl))) va_nil (fun _ => rfl)) (fun _ => rfl)) (al_cons (al_cons al_nil)) (fun _ => rfl) (fun _ => rfl)) va_nil (fun _ => rfl)) (fun _ => rfl)))
 (vbl_cons (Γ₁ := [false, false, false, false, false, false, false, false, false, false, false, false, false, false, false]) (vs_set (i := 12) (by kernel_rfl) (VF.e (vf_lst (va_cons (ve_tup (va_cons (ve_varS (i := 13) (by kernel_rfl) (by kernel_rfl)) (va_cons (ve_varS (i := 14) (by kernel_rfl) (by kernel_rfl)) va_nil (fun _ => rfl)) (fun _ => rfl))) (va_cons (ve_tup (va_cons (ve_varS (i := 3) (by kernel_rfl) (by kernel_rfl)) (va_cons (ve_bin vop_sub (ve_bin vop_shl ve_int (ve_callB vc_len (by kernel_rfl) G.b_len (by kernel_rfl) (va_cons (ve_var (i := 2) (by kernel_rfl)) va_nil (fun _ => rfl)) (fun _ => rfl) (fun _ => rfl))) ve_int) va_nil (fun _ => rfl)) (fun _ => rfl))) (va_cons (ve_tup (va_cons (ve_un vun_neg ve_int) (va_cons (ve_un vun_neg ve_int) va_nil (fun _ => rfl)) (fun _ => rfl))) (va_cons (ve_tup (va_cons (ve_bin vop_pow ve_int ve_int) (va_cons ve_int va_nil (fun _ => rfl)) (fun _ => rfl))) (va_cons (ve_tup (va_cons ve_int (va_cons (ve_bin vop_shl ve_int ve_int) va_nil (fun _ => rfl)) (fun _ => rfl))) va_nil (fun _ => rfl)) (fun _ => rfl)) (fun _ => rfl)) (fun _ => rfl)) (fun _ => rfl)))) (fun _ _ => rfl))
 (vbl_cons (Γ₁ := [false, false, false, false, false, false, false, false, false, false, false, false, false, false, false]) (vs_set (i := 12) (by kernel_rfl) (ve_ix (VF.e (vf_bin vopF_add (ve_var (i := 12) (by kernel_rfl)) (VF.e (vf_lst (va_cons (ve_tup (va_cons (ve_varS (i := 13) (by kernel_rfl) (by kernel_rfl)) (va_cons (ve_bin vop_sub (ve_un vun_neg ve_int) (ve_var (i := 14) (by kernel_rfl))) va_nil (fun _ => rfl)) (fun _ => rfl))) (va_cons (ve_tup (va_cons (ve_varS (i := 13) (by kernel_rfl) (by kernel_rfl)) (va_cons (ve_bin vop_shl ve_int ve_int) va_nil (fun _ => rfl)) (fun _ => rfl))) va_nil (fun _ => rfl)) (fun _ => rfl)))))) (ve_call h_x_law_take (Nat.le_of_ble_eq_true (by kernel_rfl)) (by kernel_rfl) (by intro h; cases h) (va_cons (ve_varS (i := 1) (by kernel_rfl) (by kernel_rfl)) (va_cons ve_int va_nil (fun _ => rfl)) (fun _ => rfl)) (al_cons (al_cons al_nil)) (fun _ => rfl) (fun _ => rfl)) (fun _ _ => rfl)) (fun _ _ => rfl))
 (vbl_one (vs_set (i := 7) (by kernel_rfl) (ve_ix (VF.e (vf_lst (va_cons (VF.e (vf_bin vopF_add (VF.e (vf_sl (ve_var (i := 7) (by kernel_rfl)) vo_none (vo_some (ve_var (i := 11) (by kernel_rfl))))) (VF.e (vf_sl (ve_var (i := 7) (by kernel_rfl)) (vo_some (ve_bin vop_add (ve_var (i := 11) (by kernel_rfl)) ve_int)) vo_none)))) (va_cons (VF.e (vf_bin vopF_add (VF.e (vf_bin vopF_add (VF.e (vf_sl (ve_var (i := 7) (by kernel_rfl)) vo_none (vo_some (ve_var (i := 11) (by kernel_rfl))))) (VF.e (vf_lst (va_cons (ve_varS (i := 12) (by kernel_rfl) (by kernel_rfl)) va_nil (fun _ => rfl)))))) (VF.e (vf_sl (ve_var (i := 7) (by kernel_rfl)) (vo_some (ve_var (i := 11) (by kernel_rfl))) vo_none)))) va_nil (fun _ => rfl)) (fun _ => rfl)))) (ve_call h_x_law_take (Nat.le_of_ble_eq_true (by kernel_rfl)) (by kernel_rfl) (by intro h; cases h) (va_cons (ve_varS (i := 1) (by kernel_rfl) (by kernel_rfl)) (va_cons ve_int va_nil (fun _ => rfl)) (fun _ => rfl)) (al_cons (al_cons al_nil)) (fun _ => rfl) (fun _ => rfl)) (fun _ _ => rfl)) (fun _ _ => rfl)))))))))) (fun _ _ => rfl))
 (vbl_one (vs_ret rfl ve_bl))))))))))))
theorem fnok_law {g : Glo} (G : Fx g) {a : Addr} {fd : FuncData} (F : FnP g.K "law" (top 25) a fd) : FnOk g.P g.w g.K g.mg g.base (L2.CX g.P g.w) 9 a fd ["_law_script"] (spV g 1 false false d_law) := fn_ok F sc_law (bl_law G)
end WK
namespace WK
open PySem PySem.Spec PyProof.Rows L2 VS
theorem box_ok {cells : List Int} {S : Store} : W (d_x_law_box [.scr (cells.map .int)] S) fun v S' => BoxD v ∧ S' = S := by
  simp [d_x_law_box, W_def, s_x_law_box]
  refine ⟨by simp [szv], cut cells none (some 63), 0, 0, 17, ?_⟩
  simp [cut_map]
theorem take_ok {tl : Store} {m : Int} (h0 : 0 < m) (h1 : m < 1073741824) {S : Store} (hS : By tl S) : W (d_x_law_take [.ref 0, .int m] S) fun v S' => ∃ r, v = .int r ∧ 0 ≤ r ∧ r < m ∧ By tl S' := by
  obtain ⟨d, rfl, cells, pos, rest, seed, rfl, hp, hs0, hs1⟩ := hS
  have l1 : lim64 48271 = true := rfl
  have l2 : lim64 69621 = true := rfl
  have n1 : seed.natAbs < 18446744073709551616 := by omega
  simp [d_x_law_take, W_def, s_x_law_take, ixN, l1, l2]
  by_cases hr : 0 < rest
  · rw [if_pos hr]
    refine ⟨⟨h0, h1⟩, h0, Int.emod_nonneg _ (by omega), Int.emod_lt_of_pos _ h0, _, rfl, cells, pos, rest / m, seed, rfl, hp, hs0, hs1⟩
  · rw [if_neg hr]
    by_cases hl : pos < cells.length
    · rw [if_pos hl]
      obtain ⟨c, hc, _⟩ := atI_some hp hl
      rw [atI_map, hc]
      simp [ixN, l1, l2, n1]
      split
      · refine ⟨⟨h0, h1⟩, h0, Int.emod_nonneg _ (by omega), Int.emod_lt_of_pos _ h0, _, rfl, cells, pos + 1, c / m, seed, rfl, by omega, hs0, hs1⟩
      · refine ⟨h0, Int.emod_nonneg _ (by omega), Int.emod_lt_of_pos _ h0, _, rfl, cells, pos + 1, rest, _, rfl, by omega, Int.emod_nonneg _ (by omega), Int.emod_lt_of_pos _ (by omega)⟩
    · rw [if_neg hl]
      simp [n1]
      refine ⟨h0, Int.emod_nonneg _ (by omega), Int.emod_lt_of_pos _ h0, _, rfl, cells, pos, rest, _, rfl, by omega, Int.emod_nonneg _ (by omega), Int.emod_lt_of_pos _ (by omega)⟩
theorem bits_ok {tl : Store} {m : Int} (h0 : 0 ≤ m) (h1 : m < 1073741) {S : Store} (hS : By tl S) : W (d_x_law_bits [.ref 0, .int m] S) fun v S' => ∃ bs : T, v = .str bs ∧ (bs.length : Int) = m ∧ BitsOk bs ∧ By tl S' := by
  simp [d_x_law_bits, W_def, s_x_law_bits]
  refine ⟨⟨by omega, by omega⟩, ?_⟩
  refine comp_draw (By tl) (fun c : Nat => .str [c]) (fun c => c = 48 ∨ c = 49) _ _ ?_ hS (by simp [szv]; omega) ?_
  · intro d hd S hS
    simp
    refine ⟨by simp [szv], ?_⟩
    refine (take_ok (m := 2) (by omega) (by omega) hS).mono fun v S' ⟨r, hv, hr0, hr1, hb⟩ => ?_
    subst hv
    have : r = 0 ∨ r = 1 := by omega
    rcases this with rfl | rfl <;> simp [hb, szv]
  · intro cs S' hl hc hb
    have e := txts_map cs (fun c => [c])
    simp only [List.length_map, List.length_range] at hl
    have e2 := sumL_single cs (fun c => c)
    have e3 := flat_single cs (fun c => c)
    simp [e, e2, e3, joinL_nil, hb, -List.length_flatten]
    exact ⟨by omega, by omega, fun c h => hc c h⟩
theorem same_ok : ∀ (n : Nat) (d : VS.D) (S : Store), Fine n d → W (d_x_law_same (n + 1) [d, d] S) fun v S' => v = .bl true ∧ S' = S := by
  intro n
  induction n with
  | zero => intro d S h; cases d <;> first | exact h.elim | simp [d_x_law_same, W_def, s_x_law_same, truB, okq, D.plain, D.dep, eqb]
  | succ n ih =>
    intro d S h
    have key : ∀ ds : List VS.D, ds.length ≤ sz → (∀ d ∈ ds, Fine n d) → ∀ ρ : List VS.D, ρ.length = 4 → W (compD (gT (gsCons (gN 2) (gsCons (gN 3) gsNil))) tYesD (eCall (d_x_law_same (n + 1)) (aCons (eVar 2) (aCons (eVar 3) aNil))) (zipL ds ds) [] ρ S) fun xs S2 => xs = ds.map (fun _ => .bl true) ∧ S2 = S := by
      intro ds hl hf ρ hρ
      have e : zipL ds ds = ds.map fun d => .tup [d, d] := by
        clear hl hf
        induction ds with
        | nil => rfl
        | cons a r ih => simp [zipL, ih]
      rw [e]
      obtain ⟨a, b, c, d, rfl⟩ : ∃ a b c d, ρ = [a, b, c, d] := by
        match ρ, hρ with
        | [a, b, c, d], _ => exact ⟨a, b, c, d, rfl⟩
      refine comp_each (fun d => .tup [d, d]) (fun _ => .bl true) ds ?_ hl ?_
      · intro x hx
        have hx' := hf x hx
        have hu : x ≠ .und := by intro e; subst e; cases n <;> exact hx'.elim
        simp [hu]
        exact ih x S hx'
      · simp
    cases d with
    | tup ds => 
      simp [d_x_law_same, W_def, s_x_law_same, truB]
      refine (key ds h.1 h.2 _ rfl).mono fun xs S2 hq => ?_
      obtain ⟨rfl, rfl⟩ := hq
      simp
    | lst ds =>
      simp [d_x_law_same, W_def, s_x_law_same, truB]
      refine (key ds h.1 h.2 _ rfl).mono fun xs S2 hq => ?_
      obtain ⟨rfl, rfl⟩ := hq
      simp
    | _ => first | exact h.elim | simp [d_x_law_same, W_def, s_x_law_same, truB, okq, D.plain, D.dep, eqb]
end WK
namespace WK
open PySem PySem.Spec PyProof.Rows L2 VS
def ltr (at_ : Nat) (k : Nat) : Nat := 97 + (at_ + 11 * k) % 26
def folk (w : T) (a k : Nat) : T := w ++ [ltr a k]
def pairN (w : T) (a k : Nat) : T := (folk w a (k - k % 2)).drop (w.length + 1 - 7) ++ (if k % 2 = 1 then [98] else [])
theorem ltr_inj {a i j : Nat} (hi : i < 26) (hj : j < 26) (h : ltr a i = ltr a j) : i = j := by
  unfold ltr at h; omega
theorem ltr_le (a k : Nat) : 97 ≤ ltr a k ∧ ltr a k ≤ 122 := by unfold ltr; omega
theorem folk_ok {w : T} (hw : w.length ≤ 7) (hl : ∀ c ∈ w, 97 ≤ c ∧ c ≤ 122) (a k : Nat) : NameOk (folk w a k) := by
  refine ⟨by simp [folk], by simp [folk]; omega, fun c hc => ?_⟩
  rcases List.mem_append.mp hc with h | h
  · exact hl c h
  · rw [List.mem_singleton.mp h]; exact ltr_le a k
theorem pair_eq {w : T} (hw : w.length ≤ 7) (a k : Nat) : pairN w a k = w.drop (w.length + 1 - 7) ++ ([ltr a (k - k % 2)] ++ (if k % 2 = 1 then [98] else [])) := by
  unfold pairN folk
  rw [List.drop_append_of_le_length (by omega), List.append_assoc]
theorem pair_ok {w : T} (hw : w.length ≤ 7) (hl : ∀ c ∈ w, 97 ≤ c ∧ c ≤ 122) (a k : Nat) : NameOk (pairN w a k) := by
  rw [pair_eq hw]
  refine ⟨by simp, by split <;> simp <;> omega, fun c hc => ?_⟩
  rcases List.mem_append.mp hc with h | h
  · exact hl c (List.mem_of_mem_drop h)
  · rcases List.mem_append.mp h with h | h
    · rw [List.mem_singleton.mp h]; exact ltr_le a _
    · split at h
      · rw [List.mem_singleton.mp h]; omega
      · cases h
theorem pair_inj {w : T} (hw : w.length ≤ 7) {a i j : Nat} (hi : i < 26) (hj : j < 26) (h : pairN w a i = pairN w a j) : i = j := by
  rw [pair_eq hw, pair_eq hw, List.append_cancel_left_eq] at h
  have hi2 : i % 2 = 0 ∨ i % 2 = 1 := by omega
  have hj2 : j % 2 = 0 ∨ j % 2 = 1 := by omega
  rcases hi2 with e1 | e1 <;> rcases hj2 with e2 | e2 <;> simp [e1, e2] at h
  · exact ltr_inj hi hj h
  · have := ltr_inj (by omega) (by omega) h; omega
theorem names_ok {tl : Store} {k : Nat} (hk : k ≤ 26) {S : Store} (hS : By tl S) : W (d_x_law_names [.ref 0, .int k] S) fun v S' => ∃ ns : List T, v = .lst (ns.map .str) ∧ ns.length = k ∧ ns.Nodup ∧ (∀ n ∈ ns, NameOk n) ∧ By tl S' := by
  simp [d_x_law_names, W_def, s_x_law_names]
  refine (take_ok (m := 8) (by omega) (by omega) hS).mono fun v S' ⟨r, hv, hr0, hr1, hS⟩ => ?_
  subst hv
  simp
  refine ⟨⟨by omega, by omega⟩, ?_⟩
  refine comp_draw (By tl) (fun c : Nat => .str [c]) (fun c => 97 ≤ c ∧ c ≤ 122) _ _ ?_ hS (by simp [szv]; omega) ?_
  · intro d hd S hS
    simp
    refine (take_ok (m := 26) (by omega) (by omega) hS).mono fun v S' ⟨r, hv, hr0, hr1, hb⟩ => ?_
    subst hv
    simp [abc_at hr0 hr1, hb]
    omega
  intro cs S' hl hc hS
  have e := txts_map cs (fun c => [c])
  have e2 := sumL_single cs (fun c => c)
  have e3 := flat_single cs (fun c => c)
  simp only [List.length_map, List.length_range] at hl
  simp [e, e2, e3, joinL_nil, -List.length_flatten]
  refine ⟨by omega, ?_⟩
  have hl7 : cs.length ≤ 7 := by omega
  refine (take_ok (m := 26) (by omega) (by omega) hS).mono fun v S' ⟨at_, hv, ha0, ha1, hS⟩ => ?_
  subst hv
  obtain ⟨a, rfl⟩ := Int.eq_ofNat_of_zero_le ha0
  refine ⟨by omega, ?_⟩
  refine comp_each (fun j : Nat => .int (j : Int)) (fun j => .str (folk cs a j)) (List.range k) ?_ (by simp [szv]; omega) ?_
  · intro j hj
    simp
    have q := abc_at (i := ((a : Int) + 11 * j) % 26) (by omega) (by omega)
    simp [q, lim64]
    refine ⟨by simp [szv]; omega, ?_⟩
    unfold folk ltr
    congr 2
  refine ⟨by omega, ?_⟩
  refine comp_each (fun j : Nat => .int (j : Int)) (fun j => .str (pairN cs a j)) (List.range k) ?_ (by simp [szv]; omega) ?_
  · intro j hj
    have hj := List.mem_range.mp hj
    have e1 : atI (List.range k) ((j : Int) - (j : Int) % 2) = some (j - j % 2) := by
      rw [atI_nat (by omega), show ((j : Int) - (j : Int) % 2).toNat = j - j % 2 by omega, List.getElem?_range (by omega)]
    simp [e1, atI_map]
    have e2 : atI [D.str [], D.str [98]] ((j : Int) % 2) = some (.str (if j % 2 = 1 then [98] else [])) := by
      have : j % 2 = 0 ∨ j % 2 = 1 := by omega
      rcases this with h | h
      · rw [show (j : Int) % 2 = 0 by omega, h]; rfl
      · rw [show (j : Int) % 2 = 1 by omega, h]; rfl
    have e3 : cut (folk cs a (j - j % 2)) (some (-7)) none = (folk cs a (j - j % 2)).drop (cs.length + 1 - 7) := by
      rw [show (-7 : Int) = -(((6 : Nat) : Int) + 1) by omega, cut_last]
      simp [folk]
    simp [e2, e3, szv]
    refine ⟨?_, rfl⟩
    simp [folk]
    split <;> simp <;> omega
  refine ⟨by simp [szv], ?_⟩
  refine (take_ok (m := 3) (by omega) (by omega) hS).mono fun v S' ⟨r3, hv, hr0, hr1, hS⟩ => ?_
  subst hv
  simp
  have : r3 / 2 = 0 ∨ r3 / 2 = 1 := by omega
  rcases this with h | h
  · rw [h]
    simp
    refine ⟨(List.range k).map (folk cs a), by simp, by simp, ?_, ?_, hS⟩
    · refine nodup_map _ _ List.nodup_range fun i hi j hj h => ?_
      have hi := List.mem_range.mp hi
      have hj := List.mem_range.mp hj
      simp [folk] at h
      exact ltr_inj (by omega) (by omega) h
    · intro n hn
      obtain ⟨j, _, rfl⟩ := List.mem_map.mp hn
      exact folk_ok hl7 hc a j
  · rw [h]
    simp
    refine ⟨(List.range k).map (pairN cs a), by simp, by simp, ?_, ?_, hS⟩
    · refine nodup_map _ _ List.nodup_range fun i hi j hj h => ?_
      have hi := List.mem_range.mp hi
      have hj := List.mem_range.mp hj
      exact pair_inj hl7 (by omega) (by omega) h
    · intro n hn
      obtain ⟨j, _, rfl⟩ := List.mem_map.mp hn
      exact pair_ok hl7 hc a j
end WK
namespace WK
open PySem PySem.Spec PyProof.Rows L2 VS
def inTh (n : T) : Th := ⟨kIn, n, [], []⟩
def outTh (n p : T) : Th := ⟨kOut, n, [], [p]⟩
def gateNames (B : List Th) : List T := (B.filter fun t => t.kd == kGate).map Th.nm
inductive Cells (ins kept cells : List T) : List Th → Prop
  | nil : Cells ins kept cells []
  | reg {B : List Th} {n bt p : T} : Cells ins kept cells B → n ∈ kept → bt.length = 1 → BitsOk bt → p ∈ ins ++ cells → Cells ins kept cells (B ++ [⟨kReg, n, bt, [p]⟩])
  | gate {B : List Th} {n bt : T} {pn : List T} : Cells ins kept cells B → n ∉ kept → pn.length ≤ 3 → bt.length = 2 ^ pn.length → BitsOk bt → (∀ p ∈ pn, p ∈ ins ++ kept ++ gateNames B) → Cells ins kept cells (B ++ [⟨kGate, n, bt, pn⟩])
structure Made (mi mc mo : Nat) (ins kept cells outs : List T) (B B' C net : List Th) : Prop where
  net : net = ins.map inTh ++ B' ++ C
  perm : B'.Perm B
  made : Cells ins kept cells B
  nmB : B.map Th.nm = cells
  nmC : C.map Th.nm = outs
  out : ∀ t ∈ C, ∃ n p, t = outTh n p ∧ p ∈ ins ++ kept ++ gateNames B
  nod : (ins ++ cells ++ outs).Nodup
  ok : ∀ n ∈ ins ++ cells ++ outs, NameOk n
  sub : ∀ n ∈ kept, n ∈ cells
  keptLe : kept.length ≤ 4
  li : ins.length ≤ mi
  lc : cells.length ≤ mc
  lo : outs.length ≤ mo
  all : ins.length + cells.length + outs.length ≤ 12
theorem gate_bits {tl : Store} {z : Nat} (hz : z ≤ 3) {S : Store} (hS : By tl S) {Q : VS.D → Store → Prop} (h : ∀ bt S', bt.length = 2 ^ z → BitsOk bt → By tl S' → Q (.str bt) S') : W (d_x_law_bits [.ref 0, .int (2 ^ ((z : Int).toNat))] S) Q := by
  have key : ∀ q : Nat, q ≤ 8 → (∀ bt S', bt.length = q → BitsOk bt → By tl S' → Q (.str bt) S') → W (d_x_law_bits [.ref 0, .int q] S) Q := fun q hq h =>
    (bits_ok (m := (q : Int)) (by omega) (by omega) hS).mono fun v S4 ⟨bt, hv, hb1, hb2, hS⟩ => by
      subst hv
      exact h bt S4 (by omega) hb2 hS
  have : z = 0 ∨ z = 1 ∨ z = 2 ∨ z = 3 := by omega
  rcases this with e | e | e | e <;> subst e
  · exact key 1 (by omega) h
  · exact key 2 (by omega) h
  · exact key 4 (by omega) h
  · exact key 8 (by omega) h
theorem some_net_ok {tl : Store} {mi mc mo : Nat} (hi : mi ≤ 4) (hc : mc ≤ 8) (ho : mo ≤ 4) {S : Store} (hS : By tl S) :
    W (d_x_law_some_net [.ref 0, .int mi, .int mc, .int mo] S) fun v S' => (∃ ins kept cells outs B B' C net, v = netD net ∧ Made mi mc mo ins kept cells outs B B' C net) ∧ By tl S' := by
  unfold d_x_law_some_net s_x_law_some_net
  rw [W_def]
  simp only [List.length_cons, List.length_nil, Nat.reduceAdd, Nat.reduceSub, List.replicate_succ, List.replicate_zero, List.cons_append, List.nil_append]
  rw [s_seq]; simp [-s_seq, -List.map_take, -List.map_drop]
  refine (names_ok (k := 16) (by omega) hS).mono fun v S1 ⟨ns, hv, hl, hnd, hok, hS⟩ => ?_
  subst hv
  rw [s_seq]; simp [-s_seq, -List.map_take, -List.map_drop]
  refine (take_ok (m := (mi : Int) + 1) (by omega) (by omega) hS).mono fun v S2 ⟨r, hv, hr0, hr1, hS⟩ => ?_
  subst hv
  obtain ⟨a, rfl⟩ := Int.eq_ofNat_of_zero_le hr0
  have e : cut ns none (some (a : Int)) = ns.take a := by rw [cut_to (by omega)]; rfl
  simp [-s_seq, -List.map_take, -List.map_drop, cut_map, e]
  clear e
  rw [s_seq]; simp [-s_seq, -List.map_take, -List.map_drop]
  refine (take_ok (m := (mc : Int) + 1) (by omega) (by omega) hS).mono fun v S2 ⟨r, hv, hr0, hr2, hS⟩ => ?_
  subst hv
  obtain ⟨b, rfl⟩ := Int.eq_ofNat_of_zero_le hr0
  have e : cut ns (some 4) (some (4 + (b : Int))) = (ns.drop 4).take b := by rw [cut_both (by omega) (by omega)]; congr 1; omega
  simp [-s_seq, -List.map_take, -List.map_drop, cut_map, e]
  clear e
  have hins : (ns.take a).length = a := by rw [List.length_take]; omega
  have hcel : ((ns.drop 4).take b).length = b := by rw [List.length_take, List.length_drop]; omega
  have hcm : ∀ n ∈ (ns.drop 4).take b, n ∈ ns := fun n h => List.mem_of_mem_drop (List.mem_of_mem_take h)
  generalize hI : ns.take a = ins at *
  generalize hC : (ns.drop 4).take b = cells at *
  -- kept
  rw [s_seq]; simp [-s_seq, -List.map_take, -List.map_drop]
  refine W_compD (fun rest acc S => ∃ (ks rs : List T), acc = ks.map .str ∧ rest = rs.map .str ∧ (∀ n ∈ ks, n ∈ cells) ∧ (∀ n ∈ rs, n ∈ cells) ∧ ks.length + rs.length ≤ b ∧ By tl S) ?_ ?_ _ _ _ ⟨[], cells, rfl, rfl, by simp, fun _ h => h, by simp; omega, hS⟩
  · intro d ds acc S ⟨ks, rs, e1, e2, h1, h2, h3, hS⟩
    cases rs with
    | nil => cases e2
    | cons n rs =>
      simp at e2 h2 h3
      obtain ⟨rfl, rfl⟩ := e2
      simp
      refine (take_ok (m := 3) (by omega) (by omega) hS).mono fun v S2 ⟨r, hv, hr0, hr2, hS⟩ => ?_
      subst hv
      simp
      by_cases hr : r = 0
      · rw [if_pos hr]
        refine ⟨by rw [e1]; simp [szv]; omega, ks ++ [n], by simp [e1], rs, rfl, ?_, h2.2, by simp; omega, hS⟩
        intro m hm
        rcases List.mem_append.mp hm with hm | hm
        · exact h1 m hm
        · rw [List.mem_singleton.mp hm]; exact h2.1
      · rw [if_neg hr]
        exact ⟨ks, e1, rs, rfl, h1, h2.2, by omega, hS⟩
  intro acc S ⟨ks, rs, e1, e2, h1, h2, h3, hS⟩
  have e2 : rs = [] := by cases rs with | nil => rfl | cons x r => cases e2
  subst e1 e2
  clear h2 h3
  have e : cut ks none (some 4) = ks.take 4 := by rw [cut_to (by omega)]; rfl
  simp [-s_seq, -List.map_take, -List.map_drop, cut_map, e]
  have hk1 : ∀ n ∈ ks.take 4, n ∈ cells := fun n h => h1 n (List.mem_of_mem_take h)
  have hk2 : (ks.take 4).length ≤ 4 := List.length_take_le _ _
  generalize hK : ks.take 4 = kept at *
  -- the inputs
  rw [s_seq]; simp [-s_seq, -List.map_take, -List.map_drop]
  refine comp_each .str (fun n => (inTh n).d) ins ?_ (by simp [szv]; omega) ?_
  · intro n hn; simp [szv, inTh, Th.d]
  rw [s_seq]; simp [-s_seq, -List.map_take, -List.map_drop]
  refine ⟨by simp [szv]; omega, ?_⟩
  -- the cells
  rw [s_seq]; simp [-s_seq, -List.map_take, -List.map_drop]
  refine WS_for (fun rest ρ S => ∃ (done : List Th) (rs : List T) (x10 x14 x15 x16 : VS.D), rest = rs.map .str ∧ cells = done.map Th.nm ++ rs ∧ Cells ins kept cells done ∧ By tl S ∧
    ρ = [D.ref 0, D.int mi, D.int mc, D.int mo, D.lst (ns.map .str), D.lst (ins.map .str), D.lst (cells.map .str), D.lst (kept.map .str), D.lst (ins.map (fun n => (inTh n).d) ++ done.map Th.d), D.lst ((ins ++ kept ++ gateNames done).map .str), x10, D.und, D.und, D.und, x14, x15, x16, D.und]) ?_ ?_ _ _ _ ⟨[], cells, .und, .und, .und, .und, rfl, rfl, .nil, hS, by simp [gateNames]⟩
  · intro d ds ρ S ⟨done, rs, x10, x14, x15, x16, e1, e2, h1, hS, e3⟩
    cases rs with
    | nil => cases e1
    | cons n rs =>
      simp at e1
      obtain ⟨rfl, rfl⟩ := e1
      subst e3
      have hcl : done.length + rs.length + 1 ≤ b := by rw [← hcel, e2]; simp; omega
      have hgl : (gateNames done).length ≤ done.length := by unfold gateNames; rw [List.length_map]; exact List.length_filter_le _ _
      have hel : (ins ++ kept ++ gateNames done).length ≤ 16 := by simp; omega
      generalize hE : ins ++ kept ++ gateNames done = early at *
      simp [-List.map_append, inB_strs]
      by_cases hk : n ∈ kept
      · rw [if_pos hk]
        refine ⟨by simp [szv]; omega, ?_⟩
        refine (bits_ok (m := 1) (by omega) (by omega) hS).mono fun v S2 ⟨bt, hv, hb1, hb2, hS⟩ => ?_
        subst hv
        refine (take_ok (m := (ins.length : Int) + cells.length) (by rw [e2]; simp; omega) (by omega) hS).mono fun v S3 ⟨r, hv, hr0, hr1, hS⟩ => ?_
        subst hv
        obtain ⟨p, hp, hpm⟩ := atI_some (xs := ins ++ cells) hr0 (by simp; omega)
        rw [← List.map_append]
        simp [-List.map_append, atI_map, hp, szv]
        refine ⟨by omega, done ++ [⟨kReg, n, bt, [p]⟩], rs, rfl, by simp [e2], .reg h1 hk (by omega) hb2 hpm, hS, by simp [Th.d], ?_⟩
        rw [← hE]; simp [gateNames]
      · rw [if_neg hk]
        refine (take_ok (m := 4) (by omega) (by omega) hS).mono fun v S2 ⟨r, hv, hr0, hr1, hS⟩ => ?_
        subst hv
        obtain ⟨r, rfl⟩ := Int.eq_ofNat_of_zero_le hr0
        simp [-List.map_append, eqb_lst_nil]
        refine ⟨.inl (by simp [lim64]; omega), ?_⟩
        obtain ⟨z, hz, hz3, hz0⟩ : ∃ z : Nat, (r : Int) * (if early = [] then 0 else 1) = z ∧ z ≤ 3 ∧ (early = [] → z = 0) := by
          by_cases he : early = []
          · exact ⟨0, by simp [he], by omega, fun _ => rfl⟩
          · exact ⟨r, by simp [he], by omega, fun h => absurd h he⟩
        rw [hz]
        refine ⟨⟨by omega, by omega⟩, ?_⟩
        refine comp_draw (By tl) .str (fun p => p ∈ early) _ _ ?_ hS (by simp [szv]; omega) ?_
        · intro d hd S hS
          obtain ⟨k, hk, rfl⟩ := List.mem_map.mp hd
          have hk := List.mem_range.mp hk
          have he : early ≠ [] := fun h => by have := hz0 h; omega
          have he2 : 0 < early.length := by cases early with | nil => exact absurd rfl he | cons x r => simp
          simp [-List.map_append]
          refine (take_ok (m := early.length) (by omega) (by omega) hS).mono fun v S3 ⟨r, hv, hr0, hr1, hS⟩ => ?_
          subst hv
          obtain ⟨p, hp, hpm⟩ := atI_some (xs := early) hr0 hr1
          simp [atI_map, hp, hpm, hS]
        intro pn S3 hpl hpm hS
        have hpl : pn.length = z := by simpa using hpl
        refine ⟨⟨by omega, by omega⟩, ?_⟩
        refine gate_bits hz3 hS fun bt S4 hb1 hb2 hS => ?_
        refine ⟨by simp [szv], by simp [szv]; omega, by simp [szv], by simp [szv]; omega, done ++ [⟨kGate, n, bt, pn⟩], rs, rfl, by simp [e2], .gate h1 hk (by omega) (by rw [hpl]; exact hb1) hb2 (by rw [hE]; exact hpm), hS, by simp [Th.d], ?_⟩
        have ee : ins ++ (kept ++ gateNames (done ++ [⟨kGate, n, bt, pn⟩])) = early ++ [n] := by rw [← hE]; simp [gateNames]
        rw [ee]
        simp
  rintro ρ S ⟨B, rs, x10, x14, x15, x16, e1, e2, hB, hS, rfl⟩
  have e1 : rs = [] := by cases rs with | nil => rfl | cons x r => cases e1
  subst e1
  rw [List.append_nil] at e2
  have hBl : B.length = b := by rw [← hcel, e2]; simp
  have hgl : (gateNames B).length ≤ B.length := by unfold gateNames; rw [List.length_map]; exact List.length_filter_le _ _
  have hel : (ins ++ kept ++ gateNames B).length ≤ 16 := by simp; omega
  generalize hE : ins ++ kept ++ gateNames B = early at *
  -- room
  rw [s_seq]; simp [-s_seq, -List.map_append, -List.map_take, -List.map_drop]
  refine (take_ok (m := (mo : Int) + 1) (by omega) (by omega) hS).mono fun v S2 ⟨r, hv, hr0, hr3, hS⟩ => ?_
  subst hv
  obtain ⟨r, rfl⟩ := Int.eq_ofNat_of_zero_le hr0
  simp [-s_seq, -List.map_append, -List.map_take, -List.map_drop, eqb_lst_nil]
  obtain ⟨z, hz, hz4, hz12, hz0⟩ : ∃ z : Nat, ((if (r : Int) < 12 - ((ins.length : Int) + (B.length : Int)) then (r : Int) else 12 - ((ins.length : Int) + (B.length : Int))) * (if early = [] then 0 else 1) = z) ∧ z ≤ mo ∧ z + ins.length + B.length ≤ 12 ∧ (early = [] → z = 0) := by
    by_cases he : early = []
    · exact ⟨0, by simp [he], by omega, by omega, fun _ => rfl⟩
    · by_cases hr : (r : Int) < 12 - ((ins.length : Int) + (B.length : Int))
      · exact ⟨r, by simp [he, hr], by omega, by omega, fun h => absurd h he⟩
      · exact ⟨12 - (ins.length + B.length), by simp [he, hr]; omega, by omega, by omega, fun h => absurd h he⟩
  rw [hz]
  refine ⟨.inr (by split <;> rfl), ?_⟩
  have hout : ((ns.drop 12).take z).length = z := by rw [List.length_take, List.length_drop]; omega
  -- the outputs
  rw [s_seq]; simp [-s_seq, -List.map_append, -List.map_take, -List.map_drop]
  have e : cut (ns.map D.str) (some 12) (some (12 + (z : Int))) = ((ns.drop 12).take z).map .str := by rw [cut_map, cut_both (by omega) (by omega)]; congr 2; omega
  rw [e]
  clear e
  generalize hO : (ns.drop 12).take z = outs at *
  refine WS_for (fun rest ρ S => ∃ (C : List Th) (rs : List T) (x10 x14 x15 x16 : VS.D), rest = rs.map .str ∧ outs = C.map Th.nm ++ rs ∧ (∀ t ∈ C, ∃ n p, t = outTh n p ∧ p ∈ early) ∧ By tl S ∧
    ρ = [D.ref 0, D.int mi, D.int mc, D.int mo, D.lst (ns.map .str), D.lst (ins.map .str), D.lst (cells.map .str), D.lst (kept.map .str), D.lst (ins.map (fun n => (inTh n).d) ++ B.map Th.d ++ C.map Th.d), D.lst (early.map .str), x10, D.int z, D.und, D.und, x14, x15, x16, D.und]) ?_ ?_ _ _ _ ⟨[], outs, x10, x14, x15, x16, rfl, rfl, by simp, hS, by simp⟩
  · intro d ds ρ S ⟨C, rs, x10, x14, x15, x16, e1, e3, h1, hS, e4⟩
    cases rs with
    | nil => cases e1
    | cons n rs =>
      simp at e1
      obtain ⟨rfl, rfl⟩ := e1
      subst e4
      have hzl : C.length + rs.length + 1 = z := by rw [← hout, e3]; simp; omega
      have he : early ≠ [] := fun h => by have := hz0 h; omega
      have he2 : 0 < early.length := by cases early with | nil => exact absurd rfl he | cons x r => simp
      simp [-List.map_append]
      refine (take_ok (m := early.length) (by omega) (by omega) hS).mono fun v S3 ⟨r, hv, hr0, hr1, hS⟩ => ?_
      subst hv
      obtain ⟨p, hp, hpm⟩ := atI_some (xs := early) hr0 hr1
      simp [-List.map_append, atI_map, hp, hpm, szv]
      refine ⟨by omega, C ++ [outTh n p], rs, rfl, by simp [e3, outTh], ?_, hS, by simp [Th.d, outTh]⟩
      intro t ht
      rcases List.mem_append.mp ht with ht | ht
      · exact h1 t ht
      · exact ⟨n, p, List.mem_singleton.mp ht, hpm⟩
  rintro ρ S ⟨C, rs, x10, x14, x15, x16, e1, e3, hCo, hS, rfl⟩
  have e1 : rs = [] := by cases rs with | nil => rfl | cons x r => cases e1
  subst e1
  rw [List.append_nil] at e3
  have hCl : C.length = z := by rw [← hout, e3]; simp
  rw [s_seq]; simp [-s_seq, -List.map_append, -List.map_take, -List.map_drop]
  have e : cut (ins.map (fun n => (inTh n).d) ++ (B.map Th.d ++ C.map Th.d)) (some (ins.length : Int)) (some ((ins.length : Int) + (cells.length : Int))) = B.map Th.d := by
    rw [cut_both (by omega) (by omega)]
    rw [show (ins.length : Int).toNat = (ins.map (fun n => (inTh n).d)).length by simp, List.drop_left, show ((ins.length : Int) + (cells.length : Int)).toNat - (ins.map (fun n => (inTh n).d)).length = (B.map Th.d).length by simp; omega, List.take_left]
  rw [e]
  clear e
  rw [s_seq]; simp [-s_seq, -List.map_append, -List.map_take, -List.map_drop]
  refine (take_ok (m := 2) (by omega) (by omega) hS).mono fun v S2 ⟨r2, hv, hr0, hr4, hS⟩ => ?_
  subst hv
  simp [-s_seq, -List.map_append, -List.map_take, -List.map_drop]
  have hr22 : r2 = 0 ∨ r2 = 1 := by omega
  have hbl : (B.length : Int) * r2 ≤ B.length ∧ 0 ≤ (B.length : Int) * r2 := by rcases hr22 with h | h <;> subst h <;> omega
  refine ⟨.inr (by rcases hr22 with h | h <;> subst h <;> rfl), ⟨by omega, by omega⟩, ?_⟩
  refine WS_for (fun rest ρ S => ∃ (B' : List Th) (x13 : VS.D), (∀ d ∈ rest, ∃ i : Nat, d = .int i ∧ i < B.length) ∧ B'.Perm B ∧ By tl S ∧
    ρ = [D.ref 0, D.int mi, D.int mc, D.int mo, D.lst (ns.map .str), D.lst (ins.map .str), D.lst (cells.map .str), D.lst (kept.map .str), D.lst (ins.map (fun n => (inTh n).d) ++ (B.map Th.d ++ C.map Th.d)), D.lst (early.map .str), x10, D.int z, D.lst (B'.map Th.d), x13, x14, x15, x16, D.und]) ?_ ?_ _ _ _ ⟨B, .und, ?_, .refl _, hS, rfl⟩
  · intro d ds ρ S ⟨B', x13, e1, hp, hS, e4⟩
    obtain ⟨i, rfl, hi⟩ := e1 d (List.mem_cons_self ..)
    subst e4
    simp [-List.map_append]
    refine (take_ok (m := (i : Int) + 1) (by omega) (by omega) hS).mono fun v S3 ⟨r, hv, hr0, hr1, hS⟩ => ?_
    subst hv
    have hpl := hp.length_eq
    have e5 : seqIndex? (i : Int) B'.length = some i := by
      unfold seqIndex?
      simp; omega
    have hi' : i < B'.length := by omega
    simp [-List.map_append, e5, hi', szv, map_erase]
    refine ⟨⟨by omega, by omega, hr0, by omega⟩, fun d hd => e1 d (List.mem_cons_of_mem _ hd), (B'.eraseIdx i).take r.toNat ++ [B'[i]] ++ (B'.eraseIdx i).drop r.toNat, (perm_move hi').trans hp, hS, by simp⟩
  · rintro ρ S ⟨B', x13, e1, hp, hS, rfl⟩
    have hpl := hp.length_eq
    have c1 : cut (ins.map (fun n => (inTh n).d) ++ (B.map Th.d ++ C.map Th.d)) none (some (ins.length : Int)) = ins.map (fun n => (inTh n).d) := by
      rw [cut_to (by omega), show (ins.length : Int).toNat = (ins.map (fun n => (inTh n).d)).length by simp, List.take_left]
    have c2 : cut (ins.map (fun n => (inTh n).d) ++ (B.map Th.d ++ C.map Th.d)) (some ((ins.length : Int) + (cells.length : Int))) none = C.map Th.d := by
      rw [cut_from (by omega), show ((ins.length : Int) + (cells.length : Int)).toNat = (ins.map (fun n => (inTh n).d) ++ B.map Th.d).length by simp; omega, ← List.append_assoc, List.drop_left]
    simp [-List.map_append, c1, c2, szv]
    refine ⟨by omega, by omega, ⟨ins, kept, cells, outs, B, B', C, ins.map inTh ++ B' ++ C, by simp [netD], rfl, hp, hB, e2.symm, e3.symm, ?_, ?_, ?_, hk1, hk2, by omega, by omega, by omega, by omega⟩, hS⟩
    · rw [hE]; exact hCo
    · have h1 : List.Sublist ins (ns.take 4) := by rw [← hI]; exact List.take_sublist_take_left (by omega)
      have h2 : List.Sublist cells ((ns.drop 4).take 8) := by rw [← hC]; exact List.take_sublist_take_left (by omega)
      have h3 : List.Sublist outs ((ns.drop 4).drop 8) := by rw [← hO, List.drop_drop]; exact List.take_sublist _ _
      have h4 := (h1.append h2).append h3
      rw [List.append_assoc (ns.take 4), List.take_append_drop, List.take_append_drop] at h4
      exact h4.nodup hnd
    · intro n hn
      rw [List.append_assoc, List.mem_append, List.mem_append] at hn
      rcases hn with h | h | h
      · rw [← hI] at h; exact hok n (List.mem_of_mem_take h)
      · exact hok n (hcm n h)
      · rw [← hO] at h; exact hok n (List.mem_of_mem_drop (List.mem_of_mem_take h))
  · intro d hd
    obtain ⟨k, hk, rfl⟩ := List.mem_map.mp hd
    have hk := List.mem_range.mp hk
    exact ⟨k + 1, by simp; omega, by omega⟩
end WK
namespace WK
open PySem PySem.Spec PyProof.Rows L2 VS
structure ThOk (t : Th) : Prop where
  nm : NameOk t.nm
  pn : ∀ p ∈ t.pn, NameOk p
  bt : BitsOk t.bt
  kind : (t.kd = kIn ∧ t.bt = [] ∧ t.pn = []) ∨ (t.kd = kOut ∧ t.bt = [] ∧ t.pn.length = 1) ∨ (t.kd = kReg ∧ t.bt.length = 1 ∧ t.pn.length = 1) ∨ (t.kd = kGate ∧ t.pn.length ≤ 3 ∧ t.bt.length = 2 ^ t.pn.length)
structure NetOk (net : List Th) : Prop where
  th : ∀ t ∈ net, ThOk t
  len : net.length ≤ 12
  nod : (net.map Th.nm).Nodup
  src : ∀ t ∈ net, ∀ p ∈ t.pn, ∃ u ∈ net, u.nm = p ∧ u.kd ≠ kOut
  acyc : ∃ rk : T → Nat, (∀ n, rk n ≤ 8) ∧ ∀ t ∈ net, t.kd = kGate → ∀ u ∈ net, u.kd = kGate → u.nm ∈ t.pn → rk u.nm < rk t.nm
theorem gateNames_sub {B : List Th} : ∀ n ∈ gateNames B, n ∈ B.map Th.nm := fun n h => by
  obtain ⟨t, ht, e⟩ := List.mem_map.mp h
  exact List.mem_map.mpr ⟨t, (List.mem_filter.mp ht).1, e⟩
theorem Cells.th {ins kept cells : List T} {B : List Th} (hB : Cells ins kept cells B) (ok : ∀ n ∈ ins ++ cells, NameOk n) (hk : ∀ n ∈ kept, n ∈ cells) : (∀ n ∈ B.map Th.nm, n ∈ cells) → ∀ t ∈ B, ThOk t ∧ ((t.kd = kReg ∧ t.nm ∈ kept) ∨ (t.kd = kGate ∧ t.nm ∉ kept)) ∧ ∀ p ∈ t.pn, p ∈ ins ++ cells := by
  induction hB with
  | nil => intro _ t ht; cases ht
  | @reg B n bt p hB h1 h2 h3 h4 ih =>
    intro hs t ht
    have hs' : ∀ n ∈ B.map Th.nm, n ∈ cells := fun n h => hs n (by rw [List.map_append]; exact List.mem_append_left _ h)
    rcases List.mem_append.mp ht with ht | ht
    · exact ih hs' t ht
    · rw [List.mem_singleton.mp ht]
      have hp : ∀ q ∈ [p], q ∈ ins ++ cells := fun q hq => by rw [List.mem_singleton.mp hq]; exact h4
      exact ⟨⟨ok n (List.mem_append_right _ (hk n h1)), fun q hq => ok q (hp q hq), h3, .inr (.inr (.inl ⟨rfl, h2, rfl⟩))⟩, .inl ⟨rfl, h1⟩, hp⟩
  | @gate B n bt pn hB h1 h2 h3 h4 h5 ih =>
    intro hs t ht
    have hs' : ∀ n ∈ B.map Th.nm, n ∈ cells := fun n h => hs n (by rw [List.map_append]; exact List.mem_append_left _ h)
    rcases List.mem_append.mp ht with ht | ht
    · exact ih hs' t ht
    · rw [List.mem_singleton.mp ht]
      have hp : ∀ q ∈ pn, q ∈ ins ++ cells := by
        intro q hq
        rcases List.mem_append.mp (h5 q hq) with h | h
        · rcases List.mem_append.mp h with h | h
          · exact List.mem_append_left _ h
          · exact List.mem_append_right _ (hk q h)
        · exact List.mem_append_right _ (hs' q (gateNames_sub q h))
      exact ⟨⟨ok n (List.mem_append_right _ (hs n (by simp))), fun q hq => ok q (hp q hq), h4, .inr (.inr (.inr ⟨rfl, h2, h3⟩))⟩, .inr ⟨rfl, h1⟩, hp⟩
theorem idx_l {as bs : List T} {a : T} (h : a ∈ as) : (as ++ bs).idxOf a = as.idxOf a := by rw [List.idxOf_append, if_pos h]
theorem idx_r {as bs : List T} {a : T} (h : a ∉ as) : (as ++ bs).idxOf a = bs.idxOf a + as.length := by rw [List.idxOf_append, if_neg h]
theorem Cells.early {ins kept cells : List T} {B : List Th} (hB : Cells ins kept cells B) (hk : ∀ n ∈ kept, n ∈ cells) (nd : (B.map Th.nm).Nodup) (hi : ∀ n ∈ B.map Th.nm, n ∉ ins) :
    ∀ t ∈ B, t.kd = kGate → ∀ u ∈ B, u.kd = kGate → u.nm ∉ kept → u.nm ∈ t.pn → (B.map Th.nm).idxOf u.nm < (B.map Th.nm).idxOf t.nm := by
  induction hB with
  | nil => intro t ht; cases ht
  | @reg B n bt p hB h1 h2 h3 h4 ih =>
    intro t ht hg u hu hug huk hp
    rw [List.map_append] at nd hi ⊢
    have nd1 := (List.nodup_append.mp nd).1
    have hi1 : ∀ n ∈ B.map Th.nm, n ∉ ins := fun n h => hi n (List.mem_append_left _ h)
    rcases List.mem_append.mp ht with ht | ht
    · rcases List.mem_append.mp hu with hu | hu
      · have q := ih nd1 hi1 t ht hg u hu hug huk hp
        rw [idx_l (List.mem_map.mpr ⟨u, hu, rfl⟩), idx_l (List.mem_map.mpr ⟨t, ht, rfl⟩)]
        exact q
      · rw [List.mem_singleton.mp hu] at hug; cases hug
    · rw [List.mem_singleton.mp ht] at hg; cases hg
  | @gate B n bt pn hB h1 h2 h3 h4 h5 ih =>
    intro t ht hg u hu hug huk hp
    rw [List.map_append] at nd hi ⊢
    have nd1 := (List.nodup_append.mp nd).1
    have hdis := (List.nodup_append.mp nd).2.2
    have hi1 : ∀ n ∈ B.map Th.nm, n ∉ ins := fun n h => hi n (List.mem_append_left _ h)
    have gpre : ∀ m ∈ gateNames B, m ∈ B.map Th.nm := gateNames_sub
    rcases List.mem_append.mp ht with ht | ht
    · rcases List.mem_append.mp hu with hu | hu
      · have q := ih nd1 hi1 t ht hg u hu hug huk hp
        rw [idx_l (List.mem_map.mpr ⟨u, hu, rfl⟩), idx_l (List.mem_map.mpr ⟨t, ht, rfl⟩)]
        exact q
      · -- an earlier gate that reads the last one: not so
        exfalso
        have eu := List.mem_singleton.mp hu
        have hun : u.nm = n := by rw [eu]
        have key : ∀ C : List Th, Cells ins kept cells C → ∀ t ∈ C, t.kd = kGate → ∀ p ∈ t.pn, p ∈ ins ∨ p ∈ kept ∨ p ∈ C.map Th.nm := by
          intro C hC
          induction hC with
          | nil => intro t ht; cases ht
          | @reg C n bt p hC g1 g2 g3 g4 ih2 =>
            intro t ht hg p hp
            rcases List.mem_append.mp ht with ht | ht
            · rcases ih2 t ht hg p hp with h | h | h
              · exact .inl h
              · exact .inr (.inl h)
              · exact .inr (.inr (by rw [List.map_append]; exact List.mem_append_left _ h))
            · rw [List.mem_singleton.mp ht] at hg; cases hg
          | @gate C n bt pn hC g1 g2 g3 g4 g5 ih2 =>
            intro t ht hg p hp
            rcases List.mem_append.mp ht with ht | ht
            · rcases ih2 t ht hg p hp with h | h | h
              · exact .inl h
              · exact .inr (.inl h)
              · exact .inr (.inr (by rw [List.map_append]; exact List.mem_append_left _ h))
            · rw [List.mem_singleton.mp ht] at hp
              rcases List.mem_append.mp (g5 p hp) with h | h
              · exact (List.mem_append.mp h).imp id .inl
              · exact .inr (.inr (by rw [List.map_append]; exact List.mem_append_left _ (gateNames_sub p h)))
        rcases key B hB t ht hg u.nm hp with h | h | h
        · exact hi u.nm (by rw [hun]; simp) h
        · exact huk h
        · exact hdis u.nm h u.nm (by rw [hun]; simp) rfl
    · have et := List.mem_singleton.mp ht
      have htn : t.nm = n := by rw [et]
      have htp : t.pn = pn := by rw [et]
      rw [htp] at hp
      have hmem : u.nm ∈ B.map Th.nm := by
        rcases List.mem_append.mp (h5 u.nm hp) with h | h
        · rcases List.mem_append.mp h with h | h
          · exact absurd h (hi u.nm (by rw [← List.map_append]; exact List.mem_map.mpr ⟨u, hu, rfl⟩))
          · exact absurd h huk
        · exact gateNames_sub _ h
      have hnot : n ∉ B.map Th.nm := fun h => hdis n h n (by simp) rfl
      rw [idx_l hmem, htn, idx_r hnot]
      have := List.idxOf_lt_length_of_mem hmem
      omega
theorem Made.netOk {mi mc mo : Nat} {ins kept cells outs : List T} {B B' C net : List Th} (hmc : mc ≤ 8) (h : Made mi mc mo ins kept cells outs B B' C net) : NetOk net := by
  have ok2 : ∀ n ∈ ins ++ cells, NameOk n := fun n hn => h.ok n (List.mem_append_left _ hn)
  have hth := h.made.th ok2 h.sub (by rw [h.nmB]; exact fun _ h => h)
  have hin : ∀ t ∈ ins.map inTh, ThOk t ∧ t.kd = kIn ∧ t.pn = [] := by
    intro t ht
    obtain ⟨n, hn, rfl⟩ := List.mem_map.mp ht
    exact ⟨⟨ok2 n (List.mem_append_left _ hn), by simp [inTh], by simp [inTh, BitsOk], .inl ⟨rfl, rfl, rfl⟩⟩, rfl, rfl⟩
  have hB : ∀ t ∈ B', t ∈ B := fun t ht => h.perm.mem_iff.mp ht
  have hC : ∀ t ∈ C, ThOk t ∧ t.kd = kOut ∧ ∀ p ∈ t.pn, p ∈ ins ++ cells := by
    intro t ht
    obtain ⟨n, p, e, hp⟩ := h.out t ht
    have hn : NameOk t.nm := h.ok t.nm (List.mem_append_right _ (by rw [← h.nmC]; exact List.mem_map.mpr ⟨t, ht, rfl⟩))
    have hp' : p ∈ ins ++ cells := by
      rcases List.mem_append.mp hp with h1 | h1
      · rcases List.mem_append.mp h1 with h1 | h1
        · exact List.mem_append_left _ h1
        · exact List.mem_append_right _ (h.sub p h1)
      · exact List.mem_append_right _ (by rw [← h.nmB]; exact gateNames_sub p h1)
    subst e
    exact ⟨⟨hn, by intro q hq; rw [List.mem_singleton.mp hq]; exact ok2 p hp', by simp [outTh, BitsOk], .inr (.inl ⟨rfl, rfl, rfl⟩)⟩, rfl, by intro q hq; rw [List.mem_singleton.mp hq]; exact hp'⟩
  have inNet : ∀ p ∈ ins ++ cells, ∃ u ∈ net, u.nm = p ∧ u.kd ≠ kOut := by
    intro p hp
    rcases List.mem_append.mp hp with hp | hp
    · refine ⟨inTh p, ?_, rfl, by simp [inTh]⟩
      rw [h.net]
      exact List.mem_append_left _ (List.mem_append_left _ (List.mem_map.mpr ⟨p, hp, rfl⟩))
    · rw [← h.nmB] at hp
      obtain ⟨u, hu, e⟩ := List.mem_map.mp hp
      refine ⟨u, ?_, e, ?_⟩
      · rw [h.net]; exact List.mem_append_left _ (List.mem_append_right _ (h.perm.mem_iff.mpr hu))
      · rcases (hth u hu).2.1 with q | q <;> rw [q.1] <;> decide
  have nmI : (ins.map inTh).map Th.nm = ins := by rw [List.map_map]; exact List.map_id' _
  have hnm : (net.map Th.nm).Perm (ins ++ cells ++ outs) := by
    rw [h.net, List.map_append, List.map_append, nmI, h.nmC, ← h.nmB]
    exact ((h.perm.map _).append_left ins).append_right outs
  have ndB : (B.map Th.nm).Nodup := by
    rw [h.nmB]
    have := h.nod
    rw [List.append_assoc] at this
    exact (List.nodup_append.mp (List.nodup_append.mp this).2.1).1
  have disI : ∀ n ∈ B.map Th.nm, n ∉ ins := by
    rw [h.nmB]
    intro n hn hi
    have := h.nod
    rw [List.append_assoc] at this
    exact (List.nodup_append.mp this).2.2 n hi n (List.mem_append_left _ hn) rfl
  refine ⟨?_, ?_, hnm.nodup_iff.mpr h.nod, ?_, ?_⟩
  · intro t ht
    rw [h.net] at ht
    rcases List.mem_append.mp ht with ht | ht
    · rcases List.mem_append.mp ht with ht | ht
      · exact (hin t ht).1
      · exact (hth t (hB t ht)).1
    · exact (hC t ht).1
  · have a := h.perm.length_eq
    have b : B.length = cells.length := by rw [← h.nmB, List.length_map]
    have c : C.length = outs.length := by rw [← h.nmC, List.length_map]
    have d := h.all
    rw [h.net]; simp; omega
  · intro t ht p hp
    rw [h.net] at ht
    rcases List.mem_append.mp ht with ht | ht
    · rcases List.mem_append.mp ht with ht | ht
      · rw [(hin t ht).2.2] at hp; cases hp
      · exact inNet p ((hth t (hB t ht)).2.2 p hp)
    · exact inNet p ((hC t ht).2.2 p hp)
  · refine ⟨fun n => min ((B.map Th.nm).idxOf n) 8, fun n => Nat.min_le_right _ _, ?_⟩
    have gB : ∀ t ∈ net, t.kd = kGate → t ∈ B := by
      intro t ht hg
      rw [h.net] at ht
      rcases List.mem_append.mp ht with ht | ht
      · rcases List.mem_append.mp ht with ht | ht
        · rw [(hin t ht).2.1] at hg; cases hg
        · exact hB t ht
      · rw [(hC t ht).2.1] at hg; cases hg
    intro t ht hg u hu hug hp
    have hub := gB u hu hug
    have huk : u.nm ∉ kept := by
      rcases (hth u hub).2.1 with q | q
      · rw [q.1] at hug; cases hug
      · exact q.2
    have q := h.made.early h.sub ndB disI t (gB t ht hg) hg u hub hug huk hp
    have hl : (B.map Th.nm).idxOf t.nm < (B.map Th.nm).length := List.idxOf_lt_length_of_mem (List.mem_map.mpr ⟨t, gB t ht hg, rfl⟩)
    have hl2 : (B.map Th.nm).length ≤ 8 := by rw [h.nmB]; exact Nat.le_trans h.lc hmc
    show min _ 8 < min _ 8
    omega
end WK
namespace WK
open PySem PySem.Spec PyProof.Rows L2 VS
def rd (net : List Th) (nm : T) : List Nat := (net.zipIdx.filter fun p => decide (nm ∈ p.1.pn)).map (·.2)
def memb (net : List Th) (p : Th × Nat) : List Int := setI ((rd net p.1.nm).map (fun k : Nat => (k : Int)) ++ [(p.2 : Int)])
def netP (net : List Th) (p : Th × Nat) : Bool := !(p.1.kd == kOut) && !(rd net p.1.nm).isEmpty
def netsL (net : List Th) : List (T × List Int) := (net.zipIdx.filter (netP net)).map fun p => (p.1.nm, memb net p)
def pairD (p : T × List Int) : VS.D := .tup [.str p.1, .tup (p.2.map .int)]
theorem rd_len {net : List Th} {nm : T} : (rd net nm).length ≤ net.length := by
  unfold rd
  rw [List.length_map]
  refine Nat.le_trans (List.length_filter_le _ _) ?_
  rw [List.length_zipIdx]; exact Nat.le_refl _
theorem rd_range {net : List Th} {nm : T} : (List.range net.length).filter (fun k => match net[k]? with | some t => decide (nm ∈ t.pn) | none => false) = rd net nm := by
  unfold rd
  have e : List.range net.length = net.zipIdx.map (·.2) := by
    rw [List.zipIdx_map_snd, List.range'_eq_map_range]; simp
  rw [e, List.filter_map]
  congr 1
  refine List.filter_congr fun p hp => ?_
  have := List.mk_mem_zipIdx_iff_getElem?.mp (show (p.1, p.2) ∈ net.zipIdx from hp)
  simp [this]
theorem nets_ok {net : List Th} (hl : net.length ≤ 12) {S : Store} : W (d_nets [netD net] S) fun v S' => v = .lst ((netsL net).map pairD) ∧ S' = S := by
  unfold d_nets s_nets
  rw [W_def]
  simp only [List.length_cons, List.length_nil, Nat.reduceAdd, Nat.reduceSub, List.replicate_succ, List.replicate_zero, List.cons_append, List.nil_append]
  rw [s_seq]; simp [-s_seq, netD, szv]
  rw [s_seq]; simp [-s_seq]
  rw [enumL_map]
  refine WS_for (fun rest ρ S' => S' = S ∧ ∃ (done rs : List (Th × Nat)) (x2 x3 x4 x5 x6 : VS.D), rest = rs.map (fun p => .tup [.int p.2, p.1.d]) ∧ net.zipIdx = done ++ rs ∧ ρ = [netD net, .lst (((done.filter (netP net)).map fun p => (p.1.nm, memb net p)).map pairD), x2, x3, x4, x5, x6]) ?_ ?_ _ _ _ ⟨rfl, [], net.zipIdx, .und, .und, .und, .und, .und, rfl, rfl, rfl⟩
  · rintro d ds ρ S' ⟨rfl, done, rs, x2, x3, x4, x5, x6, e1, e2, rfl⟩
    cases rs with
    | nil => cases e1
    | cons p rs =>
      rw [List.map_cons] at e1
      obtain ⟨rfl, rfl⟩ := List.cons.inj e1
      simp [-s_seq]
      rw [s_seq]; simp [-s_seq, netD]
      rw [enumL_map]
      have hlz : net.zipIdx.length ≤ 12 := by rw [List.length_zipIdx]; exact hl
      refine comp_pure (fun q : Th × Nat => .tup [.int q.2, q.1.d]) (fun q => decide (p.1.nm ∈ q.1.pn)) (fun q => .int q.2) net.zipIdx ?_ (by simp [szv]; omega) ?_
      · intro q hq
        simp [Th.d, inB_strsT]
      have er : (net.zipIdx.filter (fun q => decide (p.1.nm ∈ q.1.pn))).map (fun q => VS.D.int q.2) = ((rd net p.1.nm).map fun k : Nat => (k : Int)).map .int := by simp [rd, List.map_map]
      rw [er]
      have hrl := rd_len (net := net) (nm := p.1.nm)
      have hne : (List.map VS.D.int ((rd net p.1.nm).map fun k : Nat => (k : Int))).isEmpty = (rd net p.1.nm).isEmpty := by simp
      have eP : netP net p = (!(p.1.kd == kOut) && !(rd net p.1.nm).isEmpty) := rfl
      have hlt : (List.filter (netP net) done).length < sz := by
        have h1 := List.length_filter_le (netP net) done
        have h2 := congrArg List.length e2
        simp at h2
        simp [szv]; omega
      generalize hrd : rd net p.1.nm = r at hne eP hrl ⊢
      generalize hns : r.map (fun k : Nat => (k : Int)) = ns at hne ⊢
      have hnl : ns.length = r.length := by rw [← hns, List.length_map]
      simp [-s_seq, eqb_lst_nil]
      by_cases hk : p.1.kd = kOut
      · have hp : netP net p = false := by rw [eP]; simp [hk]
        simp [hk]
        refine ⟨done ++ [p], rs, rfl, by simp [e2], ?_⟩
        rw [List.filter_append, List.filter_cons_of_neg (by simp [hp])]; simp
      · simp [hk]
        by_cases hr : r = []
        · have hp : netP net p = false := by rw [eP]; simp [hr]
          have hns0 : ns = [] := by rw [← hns, hr]; rfl
          simp [hns0]
          refine ⟨done ++ [p], rs, rfl, by simp [e2], ?_⟩
          rw [List.filter_append, List.filter_cons_of_neg (by simp [hp])]; simp
        · have hp : netP net p = true := by rw [eP]; simp [hk, hr]
          have hns0 : ns ≠ [] := by intro e; rw [e] at hnl; exact hr (List.eq_nil_of_length_eq_zero hnl.symm)
          simp [hns0]
          refine ⟨by simp [szv], by simp [szv]; omega, ?_⟩
          rw [show ns.map VS.D.int ++ [VS.D.int (p.2 : Int)] = (ns ++ [(p.2 : Int)]).map .int by simp]
          refine comp_each .int (fun i => .tup [.int i, .bl true]) (ns ++ [(p.2 : Int)]) ?_ (by simp [szv]; omega) ?_
          · intro i hi
            simp [szv]
          rw [dictI_ok, sorted2_ok (by simp; omega)]
          simp
          refine ⟨by simp [szv], hlt, done ++ [p], rs, rfl, by simp [e2], ?_⟩
          rw [List.filter_append, List.filter_cons_of_pos (by simp [hp]), List.map_append]
          simp [pairD, memb, hrd, hns]
  · rintro ρ S' ⟨rfl, done, rs, x2, x3, x4, x5, x6, e1, e2, rfl⟩
    cases rs with
    | cons p rs => cases e1
    | nil =>
      rw [List.append_nil] at e2
      simp [netsL, e2]
theorem ix_net {net : List Th} {k : Nat} (h : k < net.length) {S : Store} {P : VS.D → Store → Prop} : W (dIx (.tup (net.map Th.d)) (.int (k : Int)) S) P = P (net[k]).d S := by
  simp [atI_map, VS.atI_nat (show (0 : Int) ≤ (k : Int) by omega), List.getElem?_eq_getElem h]
theorem law_nets_ok {net : List Th} (hl : net.length ≤ 12) {S : Store} : W (d_x_law_nets [netD net] S) fun v S' => v = .lst ((netsL net).map pairD) ∧ S' = S := by
  unfold d_x_law_nets s_x_law_nets
  rw [W_def]
  simp only [List.length_cons, List.length_nil, Nat.reduceAdd, Nat.reduceSub, List.replicate_succ, List.replicate_zero, List.cons_append, List.nil_append]
  rw [s_seq]; simp [-s_seq, netD, szv]
  rw [s_seq]; simp [-s_seq]
  rw [enumL_map]
  refine WS_for (fun rest ρ S' => S' = S ∧ ∃ (done rs : List (Th × Nat)) (x2 x3 x4 x5 : VS.D), rest = rs.map (fun p => .tup [.int p.2, p.1.d]) ∧ net.zipIdx = done ++ rs ∧ ρ = [netD net, .lst (((done.filter (netP net)).map fun p => (p.1.nm, memb net p)).map pairD), x2, x3, x4, x5]) ?_ ?_ _ _ _ ⟨rfl, [], net.zipIdx,   .und, .und, .und, .und, rfl, rfl, rfl⟩
  · rintro d ds ρ S' ⟨rfl, done, rs, x2, x3, x4, x5, e1, e2, rfl⟩
    cases rs with
    | nil => cases e1
    | cons p rs =>
      rw [List.map_cons] at e1
      obtain ⟨rfl, rfl⟩ := List.cons.inj e1
      simp [-s_seq]
      rw [s_seq]; simp [-s_seq, netD]
      have hlz : net.zipIdx.length ≤ 12 := by rw [List.length_zipIdx]; exact hl
      refine ⟨by omega, ?_⟩
      refine comp_pure (fun k : Nat => .int (k : Int)) (fun k => match net[k]? with | some t => decide (p.1.nm ∈ t.pn) | none => false) (fun k => .int (k : Int)) (List.range net.length) ?_ (by simp [szv]; omega) ?_
      · intro k hk
        have hk := List.mem_range.mp hk
        simp [ix_net hk, inB_strsT, List.getElem?_eq_getElem hk]
      rw [rd_range]
      have er : (rd net p.1.nm).map (fun k : Nat => VS.D.int (k : Int)) = ((rd net p.1.nm).map fun k : Nat => (k : Int)).map .int := by simp [List.map_map]
      rw [er]
      have hrl := rd_len (net := net) (nm := p.1.nm)
      have hne : (List.map VS.D.int ((rd net p.1.nm).map fun k : Nat => (k : Int))).isEmpty = (rd net p.1.nm).isEmpty := by simp
      have eP : netP net p = (!(p.1.kd == kOut) && !(rd net p.1.nm).isEmpty) := rfl
      have hlt : (List.filter (netP net) done).length < sz := by
        have h1 := List.length_filter_le (netP net) done
        have h2 := congrArg List.length e2
        simp at h2
        simp [szv]; omega
      generalize hrd : rd net p.1.nm = r at hne eP hrl ⊢
      generalize hns : r.map (fun k : Nat => (k : Int)) = ns at hne ⊢
      have hnl : ns.length = r.length := by rw [← hns, List.length_map]
      simp [-s_seq, eqb_lst_nil]
      by_cases hk : p.1.kd = kOut
      · have hp : netP net p = false := by rw [eP]; simp [hk]
        simp [hk]
        refine ⟨done ++ [p], rs, rfl, by simp [e2], ?_⟩
        rw [List.filter_append, List.filter_cons_of_neg (by simp [hp])]; simp
      · simp [hk]
        by_cases hr : r = []
        · have hp : netP net p = false := by rw [eP]; simp [hr]
          have hns0 : ns = [] := by rw [← hns, hr]; rfl
          simp [hns0]
          refine ⟨done ++ [p], rs, rfl, by simp [e2], ?_⟩
          rw [List.filter_append, List.filter_cons_of_neg (by simp [hp])]; simp
        · have hp : netP net p = true := by rw [eP]; simp [hk, hr]
          have hns0 : ns ≠ [] := by intro e; rw [e] at hnl; exact hr (List.eq_nil_of_length_eq_zero hnl.symm)
          simp [hns0]
          refine ⟨by simp [szv], by simp [szv]; omega, ?_⟩
          rw [show ns.map VS.D.int ++ [VS.D.int (p.2 : Int)] = (ns ++ [(p.2 : Int)]).map .int by simp]
          rw [sortSet_ok (by simp; omega)]
          simp
          refine ⟨by simp [szv], hlt, done ++ [p], rs, rfl, by simp [e2], ?_⟩
          rw [List.filter_append, List.filter_cons_of_pos (by simp [hp]), List.map_append]
          simp [pairD, memb, hrd, hns]
  · rintro ρ S' ⟨rfl, done, rs, x2, x3, x4, x5, e1, e2, rfl⟩
    cases rs with
    | cons p rs => cases e1
    | nil =>
      rw [List.append_nil] at e2
      simp [netsL, e2]
theorem memb_len {net : List Th} {p : Th × Nat} : (memb net p).length ≤ net.length + 1 := by
  refine Nat.le_trans setI_len ?_
  simp
  exact rd_len
theorem netsL_len {net : List Th} : (netsL net).length ≤ net.length := by
  unfold netsL
  rw [List.length_map]
  refine Nat.le_trans (List.length_filter_le _ _) ?_
  rw [List.length_zipIdx]; exact Nat.le_refl _
theorem netsL_memb {net : List Th} : ∀ p ∈ netsL net, p.2.length ≤ net.length + 1 := by
  intro p hp
  obtain ⟨q, _, rfl⟩ := List.mem_map.mp hp
  exact memb_len
end WK
namespace WK
open PySem PySem.Spec PyProof.Rows L2 VS
theorem rd_lt {net : List Th} {nm : T} : ∀ k ∈ rd net nm, k < net.length := by
  intro k hk
  obtain ⟨p, hp, rfl⟩ := List.mem_map.mp hk
  have := List.mk_mem_zipIdx_iff_getElem?.mp (show (p.1, p.2) ∈ net.zipIdx from (List.mem_filter.mp hp).1)
  exact (List.getElem?_eq_some_iff.mp this).1
theorem netsL_memOk {net : List Th} : ∀ p ∈ netsL net, MemOk net.length p.2 := by
  intro p hp
  obtain ⟨q, hq, rfl⟩ := List.mem_map.mp hp
  have hq := (List.mem_filter.mp hq).1
  have h2 := (List.getElem?_eq_some_iff.mp (List.mk_mem_zipIdx_iff_getElem?.mp (show (q.1, q.2) ∈ net.zipIdx from hq))).1
  refine ⟨?_, up_setI, ?_⟩
  · intro e
    have : (q.2 : Int) ∈ memb net q := by
      show (q.2 : Int) ∈ setI _
      rw [mem_setI]; simp
    rw [show memb net q = [] from e] at this; cases this
  · intro m hm
    have hm : m ∈ setI _ := hm
    rw [mem_setI, List.mem_append] at hm
    rcases hm with hm | hm
    · obtain ⟨k, hk, rfl⟩ := List.mem_map.mp hm
      have := rd_lt k hk
      omega
    · rw [List.mem_singleton.mp hm]; omega
theorem pow_sum {ms : List Int} {n : Nat} (h : MemOk n ms) : (ms.map fun m => (1 * 2 ^ m.toNat : Int)).sum = ((maskN (ms.map Int.toNat) : Nat) : Int) := by
  have hp : (ms.map Int.toNat).Pairwise (· < ·) := by
    rw [List.pairwise_map]
    refine List.Pairwise.imp_of_mem ?_ h.up
    intro a b ha hb hab
    have := h.rng a ha
    omega
  rw [← maskN_sum hp]
  generalize ms = l
  induction l with
  | nil => rfl
  | cons a l ih =>
    rw [List.map_cons, List.sum_cons, ih, List.map_cons, List.map_cons, List.sum_cons]
    simp
def mkD (p : T × List Int) : VS.D := .int (maskN (p.2.map Int.toNat) : Nat)
theorem masks_ok {net : List Th} (hl : net.length ≤ 12) {S : Store} : W (d_masks [netD net] S) fun v S' => v = .lst ((netsL net).map mkD) ∧ S' = S := by
  unfold d_masks s_masks
  rw [W_def]
  simp only [List.length_cons, List.length_nil, Nat.reduceAdd, Nat.reduceSub, List.replicate_succ, List.replicate_zero, List.cons_append, List.nil_append]
  simp [show ¬ netD net = VS.D.und by simp [netD]]
  refine (nets_ok hl).mono fun v S' hv => ?_
  obtain ⟨rfl, rfl⟩ := hv
  simp
  have hnl := netsL_len (net := net)
  refine comp_each pairD mkD (netsL net) ?_ (by simp [szv]; omega) ?_
  · intro p hp
    have hm := netsL_memOk p hp
    have hml := netsL_memb p hp
    simp [pairD]
    refine comp_each .int (fun m => .int (1 * 2 ^ m.toNat)) p.2 ?_ (by simp [szv]; omega) ?_
    · intro m hm1
      have := hm.rng m hm1
      simp
      omega
    have e : ∀ (ns : List Int) (S : Store) (P : VS.D → Store → Prop), W (dSum (.lst (ns.map .int)) S) P = P (.int ns.sum) S := by
      intro ns S P
      have e : dSum (.lst (ns.map .int)) S = .ok (.int ns.sum) S := by
        unfold dSum onInts
        dsimp only
        rw [intsD_map']
        rfl
      rw [e]; exact W_ok
    rw [show p.2.map (fun m : Int => VS.D.int (1 * 2 ^ m.toNat)) = (p.2.map fun m : Int => (1 * 2 ^ m.toNat : Int)).map .int by rw [List.map_map]; rfl, e, pow_sum hm]
    exact ⟨rfl, rfl⟩
  simp
def spansL (net : List Th) (P : List Int) : List (T × Int × Int) := (netsL net).map (spanD P)
theorem tru_nat {k : Nat} : truB (.int (k : Int)) = some (decide (k ≠ 0)) := by
  show some ((k : Int) != 0) = _
  congr 1
  rw [Bool.eq_iff_iff]
  simp
end WK
namespace WK
open PySem PySem.Spec PyProof.Rows L2 VS
def rngI (n : Nat) : List Int := (List.range n).map fun k : Nat => (k : Int)
theorem fRange_ok {n : Nat} (hn : n ≤ 1000) {S : Store} {Q : VS.D → Store → Prop} : W (fRange (.int (n : Int)) S) Q = Q (.lst ((rngI n).map .int)) S := by
  have e : fRange (.int (n : Int)) S = .ok (.lst ((rngI n).map .int)) S := by
    unfold fRange
    dsimp only
    rw [if_pos (by omega)]
    unfold rngI
    rw [List.map_map]
    rfl
  rw [e]; exact W_ok
end WK
namespace WK
open PySem PySem.Spec PyProof.Rows L2 VS
def stE (x : Stg) : VS.D := .tup [.int (x.1 : Nat), .int (x.2 : Nat)]
def kSt (x : Stg) : DK := .inr [.inl (x.1 : Nat), .inl (x.2 : Nat)]
theorem kSt_inj {x y : Stg} (h : kSt x = kSt y) : x = y := by
  have h1 := Sum.inr.inj h
  simp only [List.cons.injEq, Sum.inl.injEq, and_true] at h1
  obtain ⟨a, b⟩ := h1
  exact Prod.ext (by omega) (by omega)
def pgE (p : Int × Int) : VS.D := .tup [.int p.1, .int p.2]
def nxE (p : Int × Nat) : VS.D := .tup [.int p.1, .int (p.2 : Nat)]
def msD (ms : List Nat) : VS.D := .lst (ms.map fun m : Nat => .int (m : Int))
theorem load_gen {ms : List Nat} (hl : ms.length ≤ 1000) {B A : Nat} {S : Store} : W (d_load_between [msD ms, .int (B : Nat), .int (A : Nat)] S) fun v S' => v = .int (lbN ms B A : Nat) ∧ S' = S := by
  unfold d_load_between s_load_between
  rw [W_def]
  simp only [List.length_cons, List.length_nil, Nat.reduceAdd, Nat.reduceSub, List.replicate_succ, List.replicate_zero, List.cons_append, List.nil_append]
  simp [msD]
  refine comp_pure (fun m : Nat => .int (m : Int)) (lbB B A) (fun m : Nat => .int (m : Int)) ms ?_ (by simp [szv]; omega) ?_
  · intro m hm
    unfold lbB
    simp [bAnd_nn, bAnd_nnot, tru_nat]
    by_cases hc : m &&& A = 0 <;> simp [hc, bAnd_nn, bAnd_nnot, tru_nat]
  simp [lbN]
theorem choices_gen {n s B : Nat} {pg : List (Int × Int)} (hg : ∀ q ∈ pg, 0 ≤ q.1) (hn : n ≤ 100) (hl : pg.length ≤ 100) {S : Store} : W (d_choices [.int (n : Nat), .int (s : Nat), .int (B : Nat), .tup (pg.map pgE)] S) fun v S' => v = .lst ((chs n pg s B).map .int) ∧ S' = S := by
  unfold d_choices s_choices
  rw [W_def]
  simp only [List.length_cons, List.length_nil, Nat.reduceAdd, Nat.reduceSub, List.replicate_succ, List.replicate_zero, List.cons_append, List.nil_append]
  have hbit : ∀ p : Nat, Builtin.bitAnd (((B : Nat) : Int) / 2 ^ p) 1 = if B.testBit p = true then 1 else 0 := fun p => by
    have e4 : ((B : Nat) : Int) / 2 ^ p = ((B / 2 ^ p : Nat) : Int) := by
      rw [Int.natCast_ediv]; simp
    have := bAnd_nn (B / 2 ^ p) 1
    rw [show ((1 : Nat) : Int) = 1 from rfl, Nat.and_one_is_mod] at this
    rw [e4, this, Nat.testBit_eq_decide_div_mod_eq]
    by_cases c : B / 2 ^ p % 2 = 1
    · simp [c]
    · have : B / 2 ^ p % 2 = 0 := by omega
      simp [this]
  rw [s_seq]; simp [-s_seq]
  refine WS_for (fun rest ρ S2 => S2 = S ∧ ∃ (rs : List (Int × Int)) (x5 x6 : VS.D), rest = rs.map pgE ∧ (∀ p ∈ rs, p ∈ pg) ∧ pg.find? (fun q => q.2 == (s : Int)) = rs.find? (fun q => q.2 == (s : Int)) ∧ ρ = [.int (n : Nat), .int (s : Nat), .int (B : Nat), .tup (pg.map pgE), .und, x5, x6]) ?_ ?_ _ _ _ ⟨rfl, pg, .und, .und, rfl, fun _ h => h, rfl, rfl⟩
  · rintro d ds ρ S2 ⟨rfl, rs, x5, x6, e1, e2, e3, rfl⟩
    cases rs with
    | nil => cases e1
    | cons p rs =>
      rw [List.map_cons] at e1
      obtain ⟨rfl, rfl⟩ := List.cons.inj e1
      have h0 := hg p (e2 p (List.mem_cons_self ..))
      rw [List.find?_cons] at e3
      simp [pgE]
      by_cases c : p.2 = s
      · have c2 : (p.2 == (s : Int)) = true := by simpa using c
        rw [c2] at e3
        rw [if_pos c, hbit]
        have e5 : chs n pg s B = if B.testBit p.1.toNat = true then [] else [p.1] := by unfold chs; rw [e3]
        rw [e5]
        by_cases d : B.testBit p.1.toNat = true
        · rw [if_pos d, if_pos d]
          rw [show truB (.int 1) = some true from rfl, WG_some]
          exact ⟨by simp [szv], h0, by simp [szv], rfl⟩
        · rw [if_neg d, if_neg d]
          rw [show truB (.int 0) = some false from rfl, WG_some]
          exact ⟨by simp [szv], h0, by simp [szv], rfl⟩
      · have c2 : (p.2 == (s : Int)) = false := by simpa using c
        rw [c2] at e3
        rw [if_neg c]
        exact ⟨rs, rfl, fun a b h => e2 _ (List.mem_cons_of_mem _ h), e3⟩
  · rintro ρ S2 ⟨rfl, rs, x5, x6, e1, e2, e3, rfl⟩
    cases rs with
    | cons p rs => cases e1
    | nil =>
      have e5 : chs n pg s B = ((List.range n).filter fun p : Nat => !decide ((p : Int) ∈ pg.map (·.1)) && !B.testBit p).map (fun p : Nat => (p : Int)) ++ [-1] := by
        unfold chs
        rw [e3]
        rfl
      rw [e5]
      rw [s_seq]; simp [-s_seq]
      refine comp_each pgE (fun p => .int p.1) pg ?_ (by simp [szv]; omega) ?_
      · intro p hp
        simp [pgE]
      refine ⟨by omega, ?_⟩
      refine comp_pure (fun k : Nat => .int (k : Int)) (fun p : Nat => !decide ((p : Int) ∈ pg.map (·.1)) && !B.testBit p) (fun k : Nat => .int (k : Int)) (List.range n) ?_ (by simp [szv]; omega) ?_
      · intro k hk
        have := List.mem_range.mp hk
        have hm : (pg.map fun p => VS.D.int p.1) = (pg.map (·.1)).map VS.D.int := by rw [List.map_map]; rfl
        simp [hbit]
        rw [hm, inB_intsL, WG_some]
        by_cases c : (k : Int) ∈ pg.map (·.1)
        · rw [if_pos (by simpa using c)]
          intro q
          obtain ⟨w, hw, e⟩ := List.mem_map.mp c
          exact absurd (show ((k : Int), w.2) ∈ pg by rw [← e]; exact hw) (q w.2)
        · rw [if_neg (by simpa using c)]
          by_cases d : B.testBit k = true
          · rw [if_pos d, show truB (.int 1) = some true from rfl, WG_some, d]
            simp
          · rw [if_neg d, show truB (.int 0) = some false from rfl, WG_some]
            have d2 : B.testBit k = false := by simpa using d
            rw [decide_eq_false c, d2]
            rfl
      · refine ⟨by simp [szv], ?_, rfl, rfl⟩
        rw [List.length_map]
        have := List.length_filter_le (fun p : Nat => !decide ((p : Int) ∈ pg.map (·.1)) && !B.testBit p) (List.range n)
        rw [List.length_range] at this
        simp only [szv]
        omega
theorem aft_int {B : Nat} {a : Int} : Builtin.bitOr (B : Int) (if 0 ≤ a then 2 ^ a.toNat else 0) = ((aft B a : Nat) : Int) := by
  unfold aft
  by_cases c : 0 ≤ a
  · rw [if_pos c, if_pos c, show ((2 : Int) ^ a.toNat) = ((2 ^ a.toNat : Nat) : Int) by simp, bOr_nn]
  · rw [if_neg c, if_neg c]
    have := bOr_nn B 0
    rw [show ((0 : Nat) : Int) = 0 from rfl] at this
    rw [this]
    simp
theorem next_gen {q : Sr} {x : Stg} (hg : PgOk q.n q.pg) (hn : q.n ≤ 100) (hl : q.pg.length ≤ 100) (hm : q.ms.length ≤ 1000) {S : Store} :
    W (d_next_sets [msD q.ms, .int (q.n : Nat), .int q.tr, .tup (q.pg.map pgE), stE x] S) fun v S' => v = .lst ((q.nxt x).map nxE) ∧ S' = S := by
  unfold d_next_sets s_next_sets
  rw [W_def]
  simp only [List.length_cons, List.length_nil, Nat.reduceAdd, Nat.reduceSub, List.replicate_succ, List.replicate_zero, List.cons_append, List.nil_append]
  have hms : ¬ msD q.ms = VS.D.und := by simp [msD]
  rw [s_seq]; simp [-s_seq, stE]
  rw [s_seq]; simp [-s_seq, szv]
  rw [s_seq]; simp [-s_seq]
  refine (choices_gen (n := q.n) (s := x.1) (B := x.2) (pg := q.pg) (fun w hw => (hg.rng w hw).1) hn hl).mono fun v S2 hv => ?_
  obtain ⟨rfl, rfl⟩ := hv
  simp [-s_seq]
  have hlc : (chs q.n q.pg x.1 x.2).length ≤ q.n + 1 := by
    unfold chs
    split
    · split <;> simp
    · rw [List.length_append, List.length_map]
      have := List.length_filter_le (fun p : Nat => !decide ((p : Int) ∈ q.pg.map (·.1)) && !x.2.testBit p) (List.range q.n)
      rw [List.length_range] at this
      simp
      omega
  have hrng : ∀ a ∈ chs q.n q.pg x.1 x.2, -1 ≤ a ∧ a < q.n := fun a ha => (chs_rng hg ha).1
  have hnx : q.nxt x = ((chs q.n q.pg x.1 x.2).map fun a => (a, aft x.2 a)).filter fun p => decide ((lbN q.ms x.2 p.2 : Int) ≤ q.tr) := rfl
  rw [hnx]
  generalize chs q.n q.pg x.1 x.2 = cs at hlc hrng
  refine WS_for (fun rest ρ S3 => S3 = S2 ∧ ∃ (done rs : List Int) (x6 x9 : VS.D), rest = rs.map .int ∧ cs = done ++ rs ∧ ρ = [msD q.ms, .int (q.n : Nat), .int q.tr, .tup (q.pg.map pgE), .tup [.int (x.1 : Nat), .int (x.2 : Nat)], .lst (((done.map fun a => (a, aft x.2 a)).filter fun p => decide ((lbN q.ms x.2 p.2 : Int) ≤ q.tr)).map nxE), x6, .int (x.1 : Nat), .int (x.2 : Nat), x9]) ?_ ?_ _ _ _ ⟨rfl, [], cs, .und, .und, rfl, rfl, rfl⟩
  · rintro d ds ρ S3 ⟨rfl, done, rs, x6, x9, e1, e2, rfl⟩
    cases rs with
    | nil => cases e1
    | cons a rs =>
      rw [List.map_cons] at e1
      obtain ⟨rfl, rfl⟩ := List.cons.inj e1
      have har := hrng a (by rw [e2]; simp)
      have hdl : done.length ≤ q.n := by rw [e2] at hlc; simp at hlc; omega
      simp only [g_name, WG_some]
      have hfl : ((done.map fun a => (a, aft x.2 a)).filter fun p => decide ((lbN q.ms x.2 p.2 : Int) ≤ q.tr)).length < sz := by
        have := List.length_filter_le (fun p : Int × Nat => decide ((lbN q.ms x.2 p.2 : Int) ≤ q.tr)) (done.map fun a => (a, aft x.2 a))
        rw [List.length_map] at this
        simp only [szv]
        omega
      have key : ∀ A : Nat, A = aft x.2 a → W (d_load_between [msD q.ms, .int (x.2 : Nat), .int (A : Nat)] S3) fun d S' => W (dLe d (.int q.tr) S') fun k S3_1 => match k with
          | .bl k => if k = true then 2 ≤ sz ∧ ((done.map fun a => (a, aft x.2 a)).filter fun p => decide ((lbN q.ms x.2 p.2 : Int) ≤ q.tr)).length < sz ∧ S3_1 = S3 ∧ ∃ done_1 rs_1, rs.map VS.D.int = rs_1.map VS.D.int ∧ cs = done_1 ++ rs_1 ∧ ((done.map fun a => (a, aft x.2 a)).filter fun p => decide ((lbN q.ms x.2 p.2 : Int) ≤ q.tr)).map nxE ++ [.tup [.int a, .int (A : Nat)]] = ((done_1.map fun a => (a, aft x.2 a)).filter fun p => decide ((lbN q.ms x.2 p.2 : Int) ≤ q.tr)).map nxE
            else S3_1 = S3 ∧ ∃ done_1 rs_1, rs.map VS.D.int = rs_1.map VS.D.int ∧ cs = done_1 ++ rs_1 ∧ ((done.map fun a => (a, aft x.2 a)).filter fun p => decide ((lbN q.ms x.2 p.2 : Int) ≤ q.tr)).map nxE = ((done_1.map fun a => (a, aft x.2 a)).filter fun p => decide ((lbN q.ms x.2 p.2 : Int) ≤ q.tr)).map nxE
          | _ => False := fun A hA => by
        refine (load_gen hm).mono fun v S4 hv => ?_
        obtain ⟨rfl, rfl⟩ := hv
        by_cases c : (lbN q.ms x.2 A : Int) ≤ q.tr
        · simp [c]
          refine ⟨by simp [szv], hfl, done ++ [a], rs, rfl, by simp [e2], ?_⟩
          rw [List.map_append, List.filter_append, List.map_append, List.map_cons, List.map_nil, ← hA, List.filter_cons_of_pos (by simpa using c)]
          rfl
        · simp [c]
          refine ⟨done ++ [a], rs, rfl, by simp [e2], ?_⟩
          rw [List.map_append, List.filter_append, List.map_append, List.map_cons, List.map_nil, ← hA, List.filter_cons_of_neg (by simpa using c)]
          simp
      have e := aft_int (B := x.2) (a := a)
      have hk := key _ rfl
      rw [← e] at hk
      rw [s_seq]; simp [-s_seq, hms]
      by_cases h0 : 0 ≤ a
      · rw [if_pos h0] at hk ⊢
        exact ⟨⟨h0, by omega⟩, hk⟩
      · rw [if_neg h0] at hk ⊢
        exact hk
  · rintro ρ S3 ⟨rfl, done, rs, x6, x9, e1, e2, rfl⟩
    cases rs with
    | cons p rs => cases e1
    | nil =>
      rw [List.append_nil] at e2
      simp [e2]
end WK
namespace WK
open PySem PySem.Spec PyProof.Rows L2 VS
def pcb : Nat → Nat → Nat
  | 0, _ => 0
  | k + 1, m => m % 2 + pcb k (m / 2)
theorem pcb_filter : ∀ (k m : Nat), pcb k m = ((List.range k).filter fun i => m.testBit i).length
  | 0, _ => rfl
  | k + 1, m => by
    rw [List.range_succ_eq_map, pcb, pcb_filter k (m / 2), List.filter_cons, List.filter_map]
    have e : (fun i => m.testBit i) ∘ Nat.succ = fun i => (m / 2).testBit i := by
      funext i
      show m.testBit (i + 1) = _
      rw [Nat.testBit_succ]
    rw [e]
    by_cases c : m.testBit 0 = true
    · rw [if_pos c, List.length_cons, List.length_map]
      have : m % 2 = 1 := by simpa [Nat.testBit_zero] using c
      omega
    · rw [if_neg c, List.length_map]
      have : ¬ m % 2 = 1 := by simpa [Nat.testBit_zero] using c
      omega
theorem size_gen {k : Nat} (hk : k ≤ 100) {m : Nat} (hm : m < 2 ^ k) {S : Store} : W (d_size_of [.int (m : Nat)] S) fun v S' => v = .int (pcb k m : Nat) ∧ S' = S := by
  unfold d_size_of s_size_of
  rw [W_def]
  simp only [List.length_cons, List.length_nil, Nat.reduceAdd, Nat.reduceSub, List.replicate_succ, List.replicate_zero, List.cons_append, List.nil_append]
  rw [s_seq]; simp [-s_seq]
  rw [s_seq, s_while]
  refine WS_while (fun j ρ S2 => S2 = S ∧ ∃ (q f : Nat), j ≤ k ∧ q < 2 ^ j ∧ f + pcb j q = pcb k m ∧ ρ = [.int (q : Nat), .int (f : Nat)]) ?_ 1000 k _ _ (by omega) ⟨rfl, m, 0, Nat.le_refl _, hm, by simp, rfl⟩
  rintro j ρ S2 ⟨rfl, q, f, hj, hq, e, rfl⟩
  simp
  cases j with
  | zero =>
    have : q = 0 := by simpa using hq
    subst this
    simp [pcb] at e ⊢
    omega
  | succ j =>
    by_cases c : 0 < q
    · simp [c, -s_seq]
      have := bAnd_nn q 1
      rw [show ((1 : Nat) : Int) = 1 from rfl] at this
      rw [this, Nat.and_one_is_mod]
      refine ⟨j, by omega, by omega, q / 2, by rw [Nat.pow_succ] at hq; omega, f + q % 2, ?_, by omega, by omega⟩
      rw [← e, pcb]; omega
    · have : q = 0 := by omega
      subst this
      have hz : ∀ j, pcb j 0 = 0 := by
        intro j
        induction j with
        | zero => rfl
        | succ j ih => rw [pcb]; simpa using ih
      rw [hz] at e
      simp
      omega
@[simp] theorem s_popG {i j : Nat} {ρ : List VS.D} {S : Store} {N : List VS.D → Store → Prop} {R : VS.D → Store → Prop} : WS (sPop j i ρ S) N R = WG ρ[i]? fun d => match d with
    | .lst l => WG l[l.length - 1]? fun e => N ((ρ.set i (.lst l.dropLast)).set j e) S
    | _ => False := by
  unfold sPop
  cases ρ[i]? with
  | none => simp
  | some d =>
    cases d with
    | lst l =>
      dsimp only
      cases q : l[l.length - 1]? with
      | none => simp [q]
      | some e => simp [q]
    | _ => simp
theorem cnt_pcb {n B : Nat} : cnt n B = pcb n B := (pcb_filter n B).symm
structure Par (q : Sr) (C : List (Stg × Option (Int × Stg))) : Prop where
  ok : ∀ c ∈ C, (c.2 = none ∧ c.1 = (0, 0)) ∨ ∃ a y, c.2 = some (a, y) ∧ y ∈ C.map (·.1) ∧ c.1.1 = y.1 + 1 ∧ (a, c.1.2) ∈ q.nxt y
def bkD : Option (Int × Stg) → VS.D
  | none => .non
  | some (a, y) => .tup [.int a, stE y]
def cE (c : Stg × Option (Int × Stg)) : DK × VS.D := (kSt c.1, bkD c.2)
theorem Par.start {q : Sr} : Par q [((0, 0), none)] := ⟨fun c hc => by rw [List.mem_singleton.mp hc]; exact .inl ⟨rfl, rfl⟩⟩
theorem Par.add {q : Sr} {C : List (Stg × Option (Int × Stg))} (h : Par q C) {x : Stg} {p : Int × Nat} (hx : x ∈ C.map (·.1)) (hp : p ∈ q.nxt x) : Par q (C ++ [((x.1 + 1, p.2), some (p.1, x))]) := by
  refine ⟨fun c hc => ?_⟩
  have hsub : ∀ y ∈ C.map (·.1), y ∈ (C ++ [((x.1 + 1, p.2), some (p.1, x))]).map (·.1) := fun y hy => by rw [List.map_append]; exact List.mem_append_left _ hy
  rcases List.mem_append.mp hc with z | z
  · rcases h.ok c z with w | ⟨a, y, w1, w2, w3, w4⟩
    · exact .inl w
    · exact .inr ⟨a, y, w1, hsub y w2, w3, w4⟩
  · rw [List.mem_singleton.mp z]
    exact .inr ⟨p.1, x, rfl, hsub x hx, rfl, hp⟩
theorem look_none {C : List (Stg × Option (Int × Stg))} {x : Stg} (h : x ∉ C.map (·.1)) : lookK (kSt x) (C.map cE) = none := by
  induction C with
  | nil => rfl
  | cons c C ih =>
    rw [List.map_cons, List.mem_cons, not_or] at h
    show (if kSt c.1 = kSt x then some (bkD c.2) else lookK (kSt x) (C.map cE)) = none
    rw [if_neg fun e => h.1 (kSt_inj e).symm]
    exact ih h.2
theorem look_some {C : List (Stg × Option (Int × Stg))} {c : Stg × Option (Int × Stg)} (nd : (C.map (·.1)).Nodup) (h : c ∈ C) : lookK (kSt c.1) (C.map cE) = some (bkD c.2) := by
  induction C with
  | nil => cases h
  | cons d C ih =>
    rw [List.map_cons, List.nodup_cons] at nd
    show (if kSt d.1 = kSt c.1 then some (bkD d.2) else lookK (kSt c.1) (C.map cE)) = _
    rcases List.mem_cons.mp h with rfl | h
    · rw [if_pos rfl]
    · rw [if_neg fun e => nd.1 (List.mem_map.mpr ⟨c, h, (kSt_inj e).symm⟩)]
      exact ih nd.2 h
theorem look_iff {C : List (Stg × Option (Int × Stg))} {x : Stg} (nd : (C.map (·.1)).Nodup) : (lookK (kSt x) (C.map cE)).isSome = decide (x ∈ C.map (·.1)) := by
  by_cases h : x ∈ C.map (·.1)
  · obtain ⟨c, hc, rfl⟩ := List.mem_map.mp h
    rw [look_some nd hc, decide_eq_true h]
    rfl
  · rw [look_none h, decide_eq_false h]
    rfl
theorem revL_okG {ds : List VS.D} {S : Store} {P : VS.D → Store → Prop} : W (fRevL (.lst ds) S) P = P (.lst ds.reverse) S := W_ok
theorem dixG {kvs : List (DK × VS.D)} {y : Stg} {x : VS.D} (h : lookK (kSt y) kvs = some x) {S : Store} {Q : VS.D → Store → Prop} : W (dIx (.dic true kvs) (stE y) S) Q = Q x S := by
  have e : dIx (.dic true kvs) (stE y) = match lookK (kSt y) kvs with | some x => retD x | none => badD := rfl
  rw [e, h]
  exact W_ok
theorem inG {kvs : List (DK × VS.D)} {y : Stg} : inB (stE y) (.dic true kvs) = some (lookK (kSt y) kvs).isSome := rfl
theorem dsetG {kvs : List (DK × VS.D)} {y : Stg} {v : VS.D} {Q : VS.D → Prop} (h : kvs.length < sz) : WG (dSet (.dic true kvs) (stE y) v) Q = Q (.dic true (putD kvs (kSt y) v)) := by
  have e : dSet (.dic true kvs) (stE y) v = if kvs.length < sz then some (.dic true (putD kvs (kSt y) v)) else none := rfl
  rw [e, if_pos h, WG_some]
theorem st_ix0G {y : Stg} {S : Store} {Q : VS.D → Store → Prop} : W (dIx (stE y) (.int 0) S) Q = Q (.int (y.1 : Nat)) S := W_ok
theorem st_ix1G {y : Stg} {S : Store} {Q : VS.D → Store → Prop} : W (dIx (stE y) (.int 1) S) Q = Q (.int (y.2 : Nat)) S := W_ok
theorem back_gen {q : Sr} {C : List (Stg × Option (Int × Stg))} (hC : Par q C) (nd : (C.map (·.1)).Nodup) {x : Stg} (hx : x ∈ C.map (·.1)) (hl : x.1 ≤ 100) {S : Store} :
    W (d_placing_back [.dic true (C.map cE), stE x] S) fun v S' => (∃ ps : List Int, v = .tup (ps.map .int) ∧ Pth q ps x.2 ∧ ps.length = x.1) ∧ S' = S := by
  unfold d_placing_back s_placing_back
  rw [W_def]
  simp only [List.length_cons, List.length_nil, Nat.reduceAdd, Nat.reduceSub, List.replicate_succ, List.replicate_zero, List.cons_append, List.nil_append]
  rw [s_seq]; simp [-s_seq]
  rw [s_seq, s_while]
  refine WS_while (fun t ρ S2 => S2 = S ∧ ∃ (y : Stg) (acc : List Int) (x3 : VS.D), t = y.1 ∧ y ∈ C.map (·.1) ∧ acc.length + y.1 = x.1 ∧ (∀ ps, Pth q ps y.2 → ps.length = y.1 → Pth q (ps ++ acc) x.2) ∧ ρ = [.dic true (C.map cE), stE y, .lst (acc.reverse.map .int), x3]) ?_ 1000 x.1 _ _ (by omega) ⟨rfl, x, [], .und, rfl, hx, by simp, fun ps h _ => by rw [List.append_nil]; exact h, rfl⟩
  rintro t ρ S2 ⟨rfl, y, acc, x3, rfl, hy, hal, hk, rfl⟩
  have hst : ¬ stE y = VS.D.und := by simp [stE]
  obtain ⟨c, hc, rfl⟩ := List.mem_map.mp hy
  have hlk := look_some nd hc
  simp [hst, -s_seq]
  rw [dixG hlk]
  rcases hC.ok c hc with ⟨h1, h2⟩ | ⟨a, z, h1, h2, h3, h4⟩
  · rw [h1]
    simp [bkD, VS.isNon]
    rw [revL_okG]
    simp
    rw [h2] at hk hal
    exact ⟨acc, by simp, by simpa using hk [] .nil rfl, by simpa using hal⟩
  · rw [h1] at hlk ⊢
    simp [bkD, VS.isNon, -s_seq]
    rw [s_seq]; simp [-s_seq, hst]
    rw [dixG hlk]
    have hsz : ¬ stE z = VS.D.und := by simp [stE]
    simp [bkD]
    obtain ⟨w, hw, ew⟩ := List.mem_map.mp h2
    refine ⟨by simp [szv]; omega, z.1, by omega, z.2, ⟨w.2, by rw [← ew]; exact hw⟩, a :: acc, by simp; omega, fun ps hp hl2 => ?_, rfl, by simp⟩
    have hs : Pth q (ps ++ [a]) c.1.2 := Pth.snoc (p := (a, c.1.2)) hp (by rw [hl2]; exact h4)
    have := hk (ps ++ [a]) hs (by simp; omega)
    rw [List.append_assoc] at this
    exact this
abbrev tPlacedG : T := [112, 108, 97, 99, 101, 100]
abbrev tBarredG : T := [98, 97, 114, 114, 101, 100]
theorem okq_stG {x : Stg} : okq (stE x) = true := okq_tup fun d hd => by
  simp at hd
  rcases hd with rfl | rfl <;> exact ⟨rfl, by simp [VS.D.dep]⟩
theorem okq_stsG {O : List Stg} : okq (.lst (O.map stE)) = true := okq_lst fun d hd => by
  obtain ⟨x, _, rfl⟩ := List.mem_map.mp hd
  exact ⟨rfl, by simp [stE, VS.D.dep, depL]⟩
theorem ne_sts {O : List Stg} : eqb (.lst (O.map stE)) (.lst []) = O.isEmpty := by
  cases O <;> rfl
theorem st_eqG {x y : Stg} : eqb (stE x) (stE y) = decide (x = y) := by
  by_cases c : x = y
  · subst c
    rw [decide_eq_true rfl]
    exact eqb_refl _ rfl
  · rw [decide_eq_false c]
    show ((((x.1 : Nat) : Int) == ((y.1 : Nat) : Int)) && ((((x.2 : Nat) : Int) == ((y.2 : Nat) : Int)) && true)) = false
    by_cases d : x.1 = y.1
    · have : x.2 ≠ y.2 := fun e => c (Prod.ext d e)
      have : (((x.2 : Nat) : Int) == ((y.2 : Nat) : Int)) = false := by simp; omega
      rw [this]
      simp
    · have : (((x.1 : Nat) : Int) == ((y.1 : Nat) : Int)) = false := by simp; omega
      rw [this]
      rfl
theorem disp1_G {v : VS.D} {S : Store} {Q : VS.D → Store → Prop} : W (disp1D [.tup [.int 0, .int 0], v] S) Q = Q (.dic true [(kSt (0, 0), v)]) S := by
  have e : disp1D [.tup [.int 0, .int 0], v] S = .ok (.dic true [(.inr [.inl 0, .inl 0], v)]) S := rfl
  rw [e, W_ok]
  rfl
theorem st_nextG {x : Stg} {B : Nat} : VS.D.tup [.int ((x.1 : Int) + 1), .int (B : Nat)] = stE (x.1 + 1, B) := by unfold stE; simp
theorem last_of {α : Type} {O : List α} (h : O ≠ []) : ∃ O' x, O = O' ++ [x] := ⟨O.dropLast, O.getLast h, (List.dropLast_concat_getLast h).symm⟩
def tE (x : Stg) : DK × VS.D := (kSt x, .bl true)
theorem lookT_iff {K : List Stg} {x : Stg} : (lookK (kSt x) (K.map tE)).isSome = decide (x ∈ K) := by
  induction K with
  | nil => rfl
  | cons y K ih =>
    show (if kSt y = kSt x then some (VS.D.bl true) else lookK (kSt x) (K.map tE)).isSome = _
    by_cases c : y = x
    · subst c; simp
    · rw [if_neg fun e => c (kSt_inj e), ih]
      have : x ≠ y := fun e => c e.symm
      simp [this]
theorem lookT_none {K : List Stg} {x : Stg} (h : x ∉ K) : lookK (kSt x) (K.map tE) = none := by
  have := lookT_iff (K := K) (x := x)
  rw [decide_eq_false h] at this
  simpa using this
theorem reached_gen {q : Sr} (hg : PgOk q.n q.pg) (hn : q.n ≤ 12) (hL : q.L ≤ 20) (hl : q.pg.length ≤ 100) (hm : q.ms.length ≤ 1000) {S : Store} :
    W (d_reached [msD q.ms, .int (q.n : Nat), .int (q.L : Nat), .int q.tr, .tup (q.pg.map pgE)] S) fun v S' => (∃ K, v = .lst (K.map stE) ∧ Exp q (fun x => x.1 < q.L) (fun _ => False) K []) ∧ S' = S := by
  have hM : (q.L + 1) * 2 ^ q.n ≤ 86016 := by
    have h1 : 2 ^ q.n ≤ 2 ^ 12 := Nat.pow_le_pow_right (by omega) hn
    have h2 : (q.L + 1) * 2 ^ q.n ≤ 21 * 2 ^ 12 := Nat.mul_le_mul (by omega) h1
    exact Nat.le_trans h2 (by decide)
  unfold d_reached s_reached
  rw [W_def]
  simp only [List.length_cons, List.length_nil, Nat.reduceAdd, Nat.reduceSub, List.replicate_succ, List.replicate_zero, List.cons_append, List.nil_append]
  have hms : ¬ msD q.ms = VS.D.und := by simp [msD]
  rw [s_seq]; simp [-s_seq, szv]
  rw [disp1_G]
  rw [s_seq]; simp [-s_seq, szv]
  rw [s_seq, s_while]
  refine WS_while (fun k ρ S2 => S2 = S ∧ ∃ (K O : List Stg) (x7 x8 x9 : VS.D), Exp q (fun x => x.1 < q.L) (fun _ => False) K O ∧ k = 2 * ((q.L + 1) * 2 ^ q.n - K.length) + O.length ∧ ρ = [msD q.ms, .int (q.n : Nat), .int (q.L : Nat), .int q.tr, .tup (q.pg.map pgE), .dic true (K.map tE), .lst (O.map stE), x7, x8, x9]) ?_ 500000 _ _ _ ?_ ⟨rfl, [(0, 0)], [(0, 0)], .und, .und, .und, Exp.start, rfl, rfl⟩
  · rintro k ρ S2 ⟨rfl, K, O, x7, x8, x9, hE, rfl, rfl⟩
    simp [okq_stsG, ne_sts, -s_seq]
    by_cases c : O = []
    · subst c
      simp
      exact ⟨K, rfl, hE⟩
    · obtain ⟨O', x, rfl⟩ := last_of c
      have hst : ¬ stE x = VS.D.und := by simp [stE]
      have hp := hE.pop
      have hr1 : x.1 ≤ q.L := hE.len x (hE.sub x (by simp))
      have hkl : ∀ {K' O' : List Stg} {dn : List (Int × Nat)}, ExpM q (fun x => x.1 < q.L) (fun _ => False) K' O' x dn → K'.length ≤ (q.L + 1) * 2 ^ q.n := fun h => known_len hg h.nd h.rch h.len
      have hsz : ∀ {K' : List Stg}, K'.length ≤ (q.L + 1) * 2 ^ q.n → K'.length < sz := fun h => by simp only [szv]; omega
      simp [-s_seq]
      rw [s_seq]; simp [-s_seq, hst]
      rw [st_ix0G]
      simp [-s_seq]
      by_cases d : x.1 < q.L
      · simp [d, hms, -s_seq]
        refine (next_gen (x := x) hg (by omega) hl hm).mono fun v S3 hv => ?_
        obtain ⟨rfl, rfl⟩ := hv
        simp [-s_seq]
        refine WS_for (fun rest ρ S4 => S4 = S3 ∧ ∃ (K' O2 : List Stg) (dn rs : List (Int × Nat)) (x8 x9 : VS.D), ExpM q (fun x => x.1 < q.L) (fun _ => False) K' O2 x dn ∧ rest = rs.map nxE ∧ q.nxt x = dn ++ rs ∧ 2 * ((q.L + 1) * 2 ^ q.n - K'.length) + O2.length ≤ 2 * ((q.L + 1) * 2 ^ q.n - K.length) + O'.length ∧
          ρ = [msD q.ms, .int (q.n : Nat), .int (q.L : Nat), .int q.tr, .tup (q.pg.map pgE), .dic true (K'.map tE), .lst (O2.map stE), stE x, x8, x9]) ?_ ?_ _ _ _ ⟨rfl, K, O', [], q.nxt x, x8, x9, hp, rfl, rfl, Nat.le_refl _, rfl⟩
        · rintro w ws ρ S4 ⟨rfl, K', O2, dn, rs, y8, y9, hM', e1, e2, e3, rfl⟩
          cases rs with
          | nil => cases e1
          | cons p rs =>
            rw [List.map_cons] at e1
            obtain ⟨rfl, rfl⟩ := List.cons.inj e1
            have hpn : p ∈ q.nxt x := by rw [e2]; simp
            have hkl1 := hkl hM'
            have hpd : 2 * ((q.L + 1) * 2 ^ q.n - K'.length) + O2.length ≤ 2 * ((q.L + 1) * 2 ^ q.n - K.length) + O'.length := e3
            simp [nxE, -s_seq, hst]
            rw [st_ix0G]
            simp [-s_seq, szv]
            rw [st_nextG, inG, lookT_iff, WG_some]
            by_cases e : (x.1 + 1, p.2) ∈ K'
            · rw [if_pos (by simpa using e)]
              exact ⟨K', O2, dn ++ [p], hM'.skip e, rs, rfl, by simp [e2], e3, rfl, rfl⟩
            · rw [if_neg (by simpa using e)]
              have hA := hM'.add e hpn d
              have hkl2 := hkl hA
              rw [List.length_append, List.length_singleton] at hkl2
              have hol : O2.length ≤ K'.length := subP_len hM'.ond hM'.sub
              rw [s_seq]; simp [-s_seq, hst]
              rw [st_ix0G]
              simp [-s_seq, szv]
              rw [st_nextG, dsetG (by rw [List.length_map]; exact hsz hkl1), putD_new (lookT_none e)]
              simp [-s_seq, hst]
              rw [st_ix0G]
              simp [-s_seq, szv]
              rw [st_nextG]
              refine ⟨by have := hsz hkl1; simp only [szv] at this; omega, K' ++ [(x.1 + 1, p.2)], O2 ++ [(x.1 + 1, p.2)], dn ++ [p], hA, rs, rfl, by simp [e2], ?_, by simp [tE], by simp⟩
              simp only [List.length_append, List.length_singleton]
              omega
        · rintro ρ S4 ⟨rfl, K', O2, dn, rs, y8, y9, hM', e1, e2, e3, rfl⟩
          cases rs with
          | cons p rs => cases e1
          | nil =>
            rw [List.append_nil] at e2
            exact ⟨_, by have := e3; omega, rfl, K', O2, hM'.done (fun z => z) (fun _ p hp => by rw [← e2]; exact hp), rfl, _, _, _, rfl⟩
      · simp [d]
        exact ⟨_, by omega, K, O', hp.done (fun z => z) (fun z => absurd z d), rfl, rfl, rfl⟩
  · simp
    omega
def srOf (net : List Th) (L : Nat) (tr : Int) (pg : List (Int × Int)) : Sr := ⟨(netsL net).map fun p => maskN (p.2.map Int.toNat), net.length, L, tr, pg⟩
abbrev goalS (q : Sr) : Stg := (q.L, 2 ^ q.n - 1)
def goOn (q : Sr) (x : Stg) : Prop := (q.n : Int) - cnt q.n x.2 ≤ (q.L : Int) - x.1 ∧ x.1 < q.L
theorem placed_gen {net : List Th} {L : Nat} {tr : Int} {pg : List (Int × Int)} (hn : net.length ≤ 12) (hL : L ≤ 20) (hg : PgOk net.length pg) (hs : ∀ w ∈ pg, 0 ≤ w.2 ∧ w.2 < L) (hl : pg.length ≤ 100) {S : Store} :
    W (d_placed [netD net, .int (L : Nat), .int tr, .tup (pg.map pgE)] S) fun v S' => ((∃ P : List Int, v = .tup [.str tPlacedG, .tup (P.map .int)] ∧ Kept (srOf net L tr pg) P) ∨
      ((¬ ∃ P, Kept (srOf net L tr pg) P) ∧ ∃ K : List Stg, v = .tup [.str tBarredG, .lst (K.map stE)] ∧ ((L < net.length ∧ K = []) ∨ Exp (srOf net L tr pg) (fun x => x.1 < L) (fun _ => False) K []))) ∧ S' = S := by
  have hnl := netsL_len (net := net)
  have hM : (L + 1) * 2 ^ net.length ≤ 86016 := by
    have h1 : 2 ^ net.length ≤ 2 ^ 12 := Nat.pow_le_pow_right (by omega) hn
    have h2 : (L + 1) * 2 ^ net.length ≤ 21 * 2 ^ 12 := Nat.mul_le_mul (by omega) h1
    exact Nat.le_trans h2 (by decide)
  have hnu : ¬ netD net = VS.D.und := by simp [netD]
  unfold d_placed s_placed
  rw [W_def]
  simp only [List.length_cons, List.length_nil, Nat.reduceAdd, Nat.reduceSub, List.replicate_succ, List.replicate_zero, List.cons_append, List.nil_append]
  rw [s_seq]; simp [-s_seq, hnu]
  rw [show dLen (netD net) = dLen (.tup (net.map Th.d)) from rfl]
  simp [-s_seq]
  rw [s_seq]; simp [-s_seq]
  by_cases c0 : L < net.length
  · rw [if_pos c0]
    refine ⟨by simp [szv], fun P hP => ?_, .inl c0⟩
    have h1 := hP.left (s := 0) (Nat.zero_le _)
    have h2 : cnt net.length (msk P 0) = 0 := by
      have : msk P 0 = 0 := by unfold msk pre; simp [maskN]
      rw [this]
      unfold VS.cnt
      simp
    have h3 : ((srOf net L tr pg).n : Int) = net.length := rfl
    have h4 : ((srOf net L tr pg).L : Int) = L := rfl
    have h5 : cnt (srOf net L tr pg).n (msk P 0) = 0 := h2
    rw [h5, h3, h4] at h1
    omega
  · rw [if_neg c0]
    rw [s_seq]; simp [-s_seq, hnu]
    refine (masks_ok hn).mono fun v S2 hv => ?_
    obtain ⟨rfl, rfl⟩ := hv
    have hmd : VS.D.lst ((netsL net).map mkD) = msD (srOf net L tr pg).ms := by
      unfold msD srOf
      rw [List.map_map]
      rfl
    rw [hmd]
    have hml : (srOf net L tr pg).ms.length ≤ 1000 := by
      show ((netsL net).map _).length ≤ 1000
      rw [List.length_map]; omega
    have hqn : (srOf net L tr pg).n = net.length := rfl
    have hqL : (srOf net L tr pg).L = L := rfl
    have hqt : (srOf net L tr pg).tr = tr := rfl
    have hqp : (srOf net L tr pg).pg = pg := rfl
    generalize srOf net L tr pg = q at hml hqn hqL hqt hqp ⊢
    subst hqL hqt hqp
    have hms : ¬ msD q.ms = VS.D.und := by simp [msD]
    rw [s_seq]; simp [-s_seq]
    rw [← hqn] at hn hM hg c0 ⊢
    refine ⟨by omega, by simp [szv], ?_⟩
    have hgoal : VS.D.tup [.int (q.L : Nat), .int (2 ^ q.n - 1)] = stE (goalS q) := by
      unfold stE
      have : 0 < 2 ^ q.n := Nat.pow_pos (by omega)
      congr 3
      rw [Int.natCast_sub (by omega)]
      simp
    rw [hgoal]
    rw [s_seq]; simp [-s_seq, szv]
    rw [disp1_G]
    rw [s_seq]; simp [-s_seq, szv]
    rw [s_seq, s_while]
    refine WS_while (fun k ρ S3 => S3 = S2 ∧ ∃ (C : List (Stg × Option (Int × Stg))) (O : List Stg) (x9 x10 x11 x12 : VS.D), Exp q (goOn q) (fun x => x = goalS q) (C.map (·.1)) O ∧ Par q C ∧ k = 2 * ((q.L + 1) * 2 ^ q.n - C.length) + O.length ∧
      ρ = [netD net, .int (q.L : Nat), .int q.tr, .tup (q.pg.map pgE), .int (q.n : Nat), msD q.ms, stE (goalS q), .dic true (C.map cE), .lst (O.map stE), x9, x10, x11, x12]) ?_ 500000 _ _ _ ?_ ⟨rfl, [((0, 0), none)], [(0, 0)], .und, .und, .und, .und, Exp.start, Par.start, rfl, rfl⟩
    · rintro k ρ S3 ⟨rfl, C, O, x9, x10, x11, x12, hE, hC, rfl, rfl⟩
      simp [okq_stsG, ne_sts, -s_seq]
      by_cases c : O = []
      · subst c
        have hno : ¬ ∃ P, Kept q P := hE.none hg fun P s hP hs => ⟨hP.left (by omega), hs⟩
        simp [hms]
        refine (reached_gen hg hn hL hl hml).mono fun v S4 ⟨⟨K, hv, hK⟩, hS⟩ => ?_
        subst hv hS
        refine ⟨by simp [szv], ?_⟩
        simp
        exact ⟨by simpa using hno, K, rfl, .inr hK⟩
      · obtain ⟨O', x, rfl⟩ := last_of c
        have hst : ¬ stE x = VS.D.und := by simp [stE]
        have hsg : ¬ stE (goalS q) = VS.D.und := by simp [stE]
        have hp := hE.pop
        have hr1 : x.1 ≤ q.L := hE.len x (hE.sub x (by simp))
        have hxk : x ∈ C.map (·.1) := hE.sub x (by simp)
        simp [-s_seq]
        rw [s_seq]; simp [-s_seq, hst]
        rw [s_seq]; simp [-s_seq, hst, hsg, okq_stG]
        rw [st_eqG]
        have hkl : ∀ {K' O' : List Stg} {dn : List (Int × Nat)}, ExpM q (goOn q) (fun x => x = goalS q) K' O' x dn → K'.length ≤ (q.L + 1) * 2 ^ q.n := fun h => known_len hg h.nd h.rch h.len
        by_cases cg : x = goalS q
        · rw [if_pos (by simpa using cg)]
          refine (back_gen hC hE.nd hxk (by omega)).mono fun v S4 ⟨⟨ps, hv, h1, h2⟩, hS⟩ => ?_
          subst hv hS
          refine ⟨by simp [szv], ⟨ps, rfl, ?_⟩, rfl⟩
          rw [cg] at h1 h2
          exact h1.kept hg hs h2
        · rw [if_neg (by simpa using cg)]
          obtain ⟨ps0, hps0, _⟩ := hE.rch x (hE.sub x (by simp))
          rw [st_ix1G]
          refine (size_gen (k := q.n) (by omega) (hps0.lt hg)).mono fun v S4 hv => ?_
          obtain ⟨rfl, rfl⟩ := hv
          rw [← cnt_pcb]
          simp [-s_seq]
          rw [st_ix0G]
          simp [-s_seq]
          have hlen : C.length = (C.map (·.1)).length := by rw [List.length_map]
          by_cases cl : (q.n : Int) - VS.cnt q.n x.2 ≤ (q.L : Int) - x.1
          · rw [if_pos cl, st_ix0G]
            simp [-s_seq]
            by_cases d : x.1 < q.L
            · simp [d, hms, -s_seq]
              refine (next_gen (x := x) hg (by omega) hl hml).mono fun v S5 hv => ?_
              obtain ⟨rfl, rfl⟩ := hv
              rw [revL_okG, ← List.map_reverse]
              simp [-s_seq, -List.map_reverse]
              refine WS_for (fun rest ρ S4 => S4 = S5 ∧ ∃ (C' : List (Stg × Option (Int × Stg))) (O2 : List Stg) (dn rs : List (Int × Nat)) (y10 y11 y12 : VS.D), ExpM q (goOn q) (fun x => x = goalS q) (C'.map (·.1)) O2 x dn ∧ Par q C' ∧ rest = rs.map nxE ∧ (q.nxt x).reverse = dn ++ rs ∧ 2 * ((q.L + 1) * 2 ^ q.n - C'.length) + O2.length ≤ 2 * ((q.L + 1) * 2 ^ q.n - C.length) + O'.length ∧
                ρ = [netD net, .int (q.L : Nat), .int q.tr, .tup (q.pg.map pgE), .int (q.n : Nat), msD q.ms, stE (goalS q), .dic true (C'.map cE), .lst (O2.map stE), stE x, y10, y11, y12]) ?_ ?_ _ _ _ ⟨rfl, C, O', [], (q.nxt x).reverse, x10, x11, x12, hp, hC, rfl, rfl, Nat.le_refl _, rfl⟩
              · rintro w ws ρ S4 ⟨rfl, C', O2, dn, rs, y10, y11, y12, hM', hC', e1, e2, e3, rfl⟩
                cases rs with
                | nil => cases e1
                | cons p rs =>
                  rw [List.map_cons] at e1
                  obtain ⟨rfl, rfl⟩ := List.cons.inj e1
                  have hpn : p ∈ q.nxt x := by rw [← List.mem_reverse, e2]; simp
                  have hkl1 := hkl hM'
                  rw [List.length_map] at hkl1
                  have hol : O2.length ≤ (C'.map (·.1)).length := subP_len hM'.ond hM'.sub
                  rw [List.length_map] at hol
                  have hxx : ¬ stE (x.1 + 1, p.2) = VS.D.und := by simp [stE]
                  simp [nxE, -s_seq]
                  rw [s_seq]; simp [-s_seq, hst]
                  rw [st_ix0G]
                  simp [-s_seq, szv]
                  rw [st_nextG]
                  rw [inG, look_iff hM'.nd, WG_some]
                  have e2' : q.nxt x = (p :: rs).reverse ++ dn.reverse := by
                    rw [← List.reverse_append, ← e2, List.reverse_reverse]
                  have e4 : q.nxt x = rs.reverse ++ (dn ++ [p]).reverse := by
                    rw [e2']
                    simp
                  by_cases e : (x.1 + 1, p.2) ∈ C'.map (·.1)
                  · rw [if_pos (by simpa using e)]
                    exact ⟨C', O2, dn ++ [p], hM'.skip e, hC', rs, rfl, e4, e3, rfl, rfl⟩
                  · rw [if_neg (by simpa using e)]
                    have hA := hM'.add e hpn d
                    have hkl2 := hkl hA
                    rw [List.length_append, List.length_singleton, List.length_map] at hkl2
                    have hP := hC'.add hM'.here hpn
                    rw [s_seq]; simp [-s_seq, hst, hxx, szv]
                    rw [dsetG (by rw [List.length_map]; simp only [szv]; omega), putD_new (look_none e)]
                    simp [-s_seq, hst, hxx, szv]
                    refine ⟨by omega, C' ++ [((x.1 + 1, p.2), some (p.1, x))], O2 ++ [(x.1 + 1, p.2)], dn ++ [p], ?_, hP, rs, rfl, e4, ?_, by simp [cE, bkD], by simp⟩
                    · rw [List.map_append]
                      exact hA
                    · simp only [List.length_append, List.length_singleton]
                      omega
              · rintro ρ S4 ⟨rfl, C', O2, dn, rs, y10, y11, y12, hM', hC', e1, e2, e3, rfl⟩
                cases rs with
                | cons p rs => cases e1
                | nil =>
                  rw [List.append_nil] at e2
                  exact ⟨_, by have := e3; omega, rfl, C', O2, hM'.done cg (fun _ p hp => by rw [← e2, List.mem_reverse]; exact hp), hC', rfl, _, _, _, _, rfl⟩
            · simp [d]
              exact ⟨_, by omega, C, O', hp.done cg (fun z => absurd z.2 d), hC, rfl, rfl, rfl⟩
          · rw [if_neg cl]
            exact ⟨_, by omega, C, O', hp.done cg (fun z => absurd z.1 cl), hC, rfl, rfl, rfl⟩
    · simp
      omega
end WK
namespace WK
open PySem PySem.Spec PyProof.Rows L2 VS
theorem lb_load {net : List Th} {L : Nat} {tr : Int} {pg : List (Int × Int)} {P : List Int} (h : PlOk net.length P) (s : Nat) : (lbN (srOf net L tr pg).ms (msk P s) (msk P (s + 1)) : Int) = loadAt (spansL net P) (s : Nat) := by
  show ((((netsL net).map fun p => maskN (p.2.map Int.toNat)).filter (lbB (msk P s) (msk P (s + 1)))).length : Int) = ((((netsL net).map (spanD P)).filter (onB (s : Nat))).length : Nat)
  rw [List.filter_map, List.filter_map, List.length_map, List.length_map]
  congr 2
  refine List.filter_congr fun p hp => ?_
  have := on_slot h (netsL_memOk p hp) (s := s)
  show lbB (msk P s) (msk P (s + 1)) (maskN (p.2.map Int.toNat)) = onS P p.2 s
  unfold lbB msk
  exact this
theorem Kept.loads {net : List Th} {L : Nat} {tr : Int} {pg : List (Int × Int)} {P : List Int} (h : VS.Kept (srOf net L tr pg) P) : ∀ s, s < P.length → loadAt (spansL net P) (s : Nat) ≤ tr := fun s hs => by
  have hl : P.length = L := h.len
  have := h.ld s (by show s < L; omega)
  rw [lb_load h.pl] at this
  exact this
theorem kept_of {net : List Th} {L : Nat} {tr : Int} {pg : List (Int × Int)} {P : List Int} (h : PlOk net.length P) (hl : P.length = L) (hp : ∀ w ∈ pg, ∃ i : Nat, w.2 = (i : Int) ∧ P[i]? = some w.1) (hld : ∀ s, s < L → loadAt (spansL net P) (s : Nat) ≤ tr) : VS.Kept (srOf net L tr pg) P :=
  ⟨h, hl, hp, fun s hs => by rw [lb_load h]; exact hld s hs⟩
theorem Kept.up {net : List Th} {L : Nat} {tr tr' : Int} {pg : List (Int × Int)} {P : List Int} (h : VS.Kept (srOf net L tr pg) P) (ht : tr ≤ tr') : VS.Kept (srOf net L tr' pg) P :=
  kept_of h.pl h.len h.peg fun s hs => Int.le_trans (Kept.loads h s (by have : P.length = L := h.len; omega)) ht
theorem pg_nil {n : Nat} : PgOk n [] := ⟨by simp, by simp, by simp⟩
end WK
namespace WK
open PySem PySem.Spec PyProof.Rows L2 VS
section
variable {ρ : List VS.D} {S : Store} {P : VS.D → Store → Prop}
theorem p_popI {fo fi : DE} : W (ePopI fo fi ρ S) P = W (fo ρ S) fun o S1 => W (isLC o S1) fun _ S2 => W (fi ρ S2) fun k S3 => W (popIC o k S3) P := by
  unfold ePopI
  simp only [W_bind]
end
structure Pegs (n L : Nat) (pg : List (Int × Int)) : Prop where
  ok : PgOk n pg
  sl : ∀ w ∈ pg, 0 ≤ w.2 ∧ w.2 < L
  len : pg.length ≤ n
theorem Pegs.drop {n L : Nat} {pg : List (Int × Int)} (h : Pegs n L pg) : Pegs n L (pg.drop 1) :=
  ⟨h.ok.drop, fun w hw => h.sl w (List.mem_of_mem_drop hw), by have := h.len; rw [List.length_drop]; omega⟩
theorem Pegs.le {n L L' : Nat} {pg : List (Int × Int)} (h : Pegs n L pg) (hl : L ≤ L') : Pegs n L' pg := ⟨h.ok, fun w hw => by have := h.sl w hw; omega, h.len⟩
theorem ints_erase {sp : List Int} {k : Nat} : (sp.map VS.D.int).eraseIdx k = (sp.eraseIdx k).map .int := map_erase VS.D.int sp k
theorem law_pegs_ok {tl : Store} {net : List Th} (hl : net.length ≤ 12) {L : Nat} (hL : L ≤ 900) {S : Store} (hS : By tl S) :
    W (d_x_law_pegs [.ref 0, netD net, .int (L : Nat)] S) fun v S' => ∃ (pg : List (Int × Int)) (x : VS.D), v = .tup (pg.map pgE) ∧ Pegs net.length L pg ∧ By (tl ++ [x]) S' := by
  unfold d_x_law_pegs s_x_law_pegs
  rw [W_def]
  simp only [List.length_cons, List.length_nil, Nat.reduceAdd, Nat.reduceSub, List.replicate_succ, List.replicate_zero, List.cons_append, List.nil_append]
  have hnu : ¬ netD net = VS.D.und := by simp [netD]
  rw [s_seq]; simp [-s_seq, hnu]
  rw [show dLen (netD net) = dLen (.tup (net.map Th.d)) from rfl]
  simp [-s_seq]
  refine ⟨by omega, ?_⟩
  refine W_compD (fun rest acc S => ∃ (ks : List Nat) (k m : Nat), acc = ks.map (fun k : Nat => VS.D.int (k : Int)) ∧ rest = (List.range' k m).map (fun k : Nat => VS.D.int (k : Int)) ∧ k + m = net.length ∧ ks.Nodup ∧ (∀ x ∈ ks, x < k) ∧ By tl S) ?_ ?_ _ _ _ ⟨[], 0, net.length, rfl, by rw [List.range_eq_range'], by omega, by simp, by simp, hS⟩
  · intro d ds acc S ⟨ks, k, m, e1, e2, e3, e4, e5, hS⟩
    cases m with
    | zero => cases e2
    | succ m =>
      rw [List.range'_succ, List.map_cons] at e2
      obtain ⟨rfl, rfl⟩ := List.cons.inj e2
      simp
      refine (take_ok (m := 4) (by omega) (by omega) hS).mono fun v S2 ⟨r, hv, hr0, hr2, hS⟩ => ?_
      subst hv
      have hkl : ks.length ≤ k := by
        have := subP_len e4 (ys := List.range k) fun x hx => List.mem_range.mpr (e5 x hx)
        rwa [List.length_range] at this
      simp
      by_cases hr : r = 0
      · rw [if_pos hr]
        refine ⟨by rw [e1]; simp [szv]; omega, ks ++ [k], by rw [e1]; simp, k + 1, m, rfl, by omega, ?_, fun x hx => ?_, hS⟩
        · refine List.nodup_append.mpr ⟨e4, by simp, fun a ha b hb e => ?_⟩
          have := e5 a ha
          rw [List.mem_singleton.mp hb] at e
          omega
        · rcases List.mem_append.mp hx with z | z
          · have := e5 x z; omega
          · rw [List.mem_singleton.mp z]; omega
      · rw [if_neg hr]
        exact ⟨ks, e1, k + 1, m, rfl, by omega, e4, fun x hx => by have := e5 x hx; omega, hS⟩
  intro acc S1 ⟨ks, k, m, e1, e2, e3, e4, e5, hS⟩
  cases m with
  | succ m => rw [List.range'_succ] at e2; cases e2
  | zero =>
  subst e1
  have ek : k = net.length := by omega
  subst ek
  clear e2 e3
  have hkl : ks.length ≤ net.length := by
    have := subP_len e4 (ys := List.range net.length) fun x hx => List.mem_range.mpr (e5 x hx)
    rwa [List.length_range] at this
  rw [s_seq]; simp [-s_seq]
  rw [fRange_ok (by omega)]
  obtain ⟨dbox, rfl, hb⟩ := hS
  rw [s_seq]; simp [-s_seq, szv]
  have ecut : cut ks none (some (L : Int)) = ks.take L := by rw [cut_to (by omega)]; rfl
  rw [s_seq]; simp [-s_seq, cut_map, ecut, -List.map_take]
  have hkt : (ks.take L).Nodup := e4.sublist (List.take_sublist ..)
  have hk5 : ∀ x ∈ ks.take L, x < net.length := fun x hx => e5 x (List.mem_of_mem_take hx)
  have hktl : (ks.take L).length ≤ L := List.length_take_le ..
  have hktn : (ks.take L).length ≤ net.length := by rw [List.length_take]; omega
  generalize hK : ks.take L = kt at hkt hk5 hktl hktn
  refine WS_for (fun rest ρ S2 => ∃ (pg : List (Int × Int)) (rs : List Nat) (sp : List Int) (x6 : VS.D), rest = rs.map (fun k : Nat => VS.D.int (k : Int)) ∧ kt.map (fun k : Nat => (k : Int)) = pg.map (·.1) ++ rs.map (fun k : Nat => (k : Int)) ∧
    (pg.map (·.2) ++ sp).Nodup ∧ (∀ x ∈ pg.map (·.2) ++ sp, 0 ≤ x ∧ x < (L : Int)) ∧ pg.length + sp.length = L ∧ By (tl ++ [.lst (sp.map .int)]) S2 ∧
    ρ = [.ref 0, netD net, .int (L : Nat), .lst (ks.map fun k : Nat => VS.D.int (k : Int)), .ref (tl.length + 1), .lst (pg.map pgE), x6]) ?_ ?_ _ _ _ ⟨[], kt, rngI L, .und, rfl, by simp, ?_, ?_, by simp [rngI], ⟨dbox, by simp, hb⟩, by simp⟩
  · rintro d ds ρ S2 ⟨pg, rs, sp, x6, f1, f2, f3, f4, f5, hS, rfl⟩
    cases rs with
    | nil => cases f1
    | cons r rs =>
      rw [List.map_cons] at f1
      obtain ⟨rfl, rfl⟩ := List.cons.inj f1
      have hlen := congrArg List.length f2
      simp at hlen
      have hsp : 0 < sp.length := by omega
      obtain ⟨dbox, rfl, hb⟩ := hS
      simp [p_popI]
      rw [show isLC (.ref (tl.length + 1)) (dbox :: (tl ++ [.lst (sp.map .int)])) = .ok () (dbox :: (tl ++ [.lst (sp.map .int)])) by unfold isLC; dsimp only; simp, W_ok]
      have e1 : (dbox :: (tl ++ [VS.D.lst (sp.map .int)]))[tl.length + 1]? = some (.lst (sp.map .int)) := by simp
      rw [e1, WG_some]
      refine ⟨by simp, ?_⟩
      rw [show dLen (.lst (sp.map VS.D.int)) (dbox :: (tl ++ [.lst (sp.map .int)])) = .ok (.int ((sp.map VS.D.int).length : Nat)) (dbox :: (tl ++ [.lst (sp.map .int)])) from rfl, W_ok, List.length_map]
      refine (take_ok (m := (sp.length : Int)) (by omega) (by omega) (tl := tl ++ [.lst (sp.map .int)]) ⟨dbox, rfl, hb⟩).mono fun v S3 ⟨q, hv, hq0, hq1, hS⟩ => ?_
      subst hv
      obtain ⟨dbox, rfl, hb⟩ := hS
      have hql : q.toNat < sp.length := by omega
      rw [show popIC (.ref (tl.length + 1)) (.int q) (dbox :: (tl ++ [.lst (sp.map .int)])) = .ok (.int sp[q.toNat]) (dbox :: (tl ++ [.lst ((sp.eraseIdx q.toNat).map .int)])) from ?_, W_ok]
      · have hmem : sp[q.toNat] ∈ sp := List.getElem_mem hql
        have hpe := perm_erase (l := sp) hql
        refine ⟨by simp [szv], by simp [szv]; omega, pg ++ [((r : Int), sp[q.toNat])], rs, rfl, by simp [f2], sp.eraseIdx q.toNat, ?_, fun x hx => f4 x ?_, by simp [List.length_eraseIdx, hql]; omega, ⟨dbox, rfl, hb⟩, by simp [pgE]⟩
        · refine (List.Perm.nodup_iff ?_).mp f3
          simp only [List.map_append, List.map_cons, List.map_nil, List.append_assoc, List.singleton_append]
          exact List.Perm.append_left _ hpe.symm
        · rcases hx with ⟨a, z⟩ | z
          · rcases List.mem_append.mp z with z | z
            · exact List.mem_append_left _ (List.mem_map.mpr ⟨_, z, rfl⟩)
            · have e := congrArg Prod.snd (List.mem_singleton.mp z)
              have e : x = sp[q.toNat] := e
              rw [e]
              exact List.mem_append_right _ hmem
          · exact List.mem_append_right _ (List.mem_of_mem_eraseIdx z)
      · unfold popIC
        dsimp only
        have e1 : (dbox :: (tl ++ [VS.D.lst (sp.map .int)]))[tl.length + 1]? = some (.lst (sp.map .int)) := by simp
        rw [e1]
        dsimp only
        have e2 : seqIndex? q (sp.map VS.D.int).length = some q.toNat := by
          unfold seqIndex?
          rw [List.length_map]
          simp only [if_neg (Int.not_lt.mpr hq0)]
          simp [hq0, hq1]
        rw [e2]
        dsimp only
        rw [List.getElem?_map, List.getElem?_eq_getElem hql]
        show (if _ then _ else _) = _
        rw [if_pos (by omega), ints_erase]
        congr 1
        simp
  · rintro ρ S2 ⟨pg, rs, sp, x6, f1, f2, f3, f4, f5, hS, rfl⟩
    cases rs with
    | cons r rs => cases f1
    | nil =>
      rw [List.map_nil, List.append_nil] at f2
      have hpl : pg.length = kt.length := by
        have := congrArg List.length f2
        simpa using this.symm
      simp
      refine ⟨pg, rfl, ⟨⟨fun w hw => ?_, ?_, (List.nodup_append.mp f3).1⟩, fun w hw => f4 w.2 (List.mem_append_left _ (List.mem_map.mpr ⟨w, hw, rfl⟩)), by omega⟩, _, hS⟩
      · have : w.1 ∈ kt.map (fun k : Nat => (k : Int)) := by rw [f2]; exact List.mem_map.mpr ⟨w, hw, rfl⟩
        obtain ⟨k, hk, e⟩ := List.mem_map.mp this
        have := hk5 k hk
        omega
      · rw [← f2]
        exact nodup_map _ _ hkt fun x _ y _ e => by omega
  · simp [rngI]
    exact nodup_map _ _ List.nodup_range fun x _ y _ e => by omega
  · intro x hx
    simp [rngI] at hx
    obtain ⟨k, hk, rfl⟩ := hx
    omega
end WK
namespace WK
open PySem PySem.Spec PyProof.Rows L2 VS
section
variable {ρ : List VS.D} {S : Store} {N : List VS.D → Store → Prop} {R : VS.D → Store → Prop} {L : List VS.D → Store → Prop}
theorem s_frzT {i : Nat} {f : DS} {kvs : List (DK × VS.D)} (h : ρ[i]? = some (.dic true kvs)) : WS (sFrzT i f ρ S) N R = WS (f (ρ.set i (.fdt kvs)) S) N R := by
  unfold sFrzT
  rw [h]
theorem p_keyT {fe : DE} : W (iKeyT fe ρ S) L = W (fe ρ S) fun d S1 => W (dKeysT d S1) L := W_bind
theorem p_keysT {kvs : List (DK × VS.D)} : W (dKeysT (.fdt kvs) S) L = L (kvs.map fun p => ofK p.1) S := W_ok
end
abbrev Pr := Int × Int
def pD (x : Pr) : VS.D := .tup [.int x.1, .int x.2]
def kP (x : Pr) : DK := .inr [.inl x.1, .inl x.2]
def tP (x : Pr) : DK × VS.D := (kP x, .bl true)
theorem kP_inj {x y : Pr} (h : kP x = kP y) : x = y := by
  have h1 := Sum.inr.inj h
  simp only [List.cons.injEq, Sum.inl.injEq, and_true] at h1
  exact Prod.ext h1.1 h1.2
def dedP (fam : List Pr) : List Pr := fam.foldl (fun acc x => if x ∈ acc then acc else acc ++ [x]) []
theorem dedP_mem0 : ∀ (fam acc : List Pr) (x : Pr), x ∈ fam.foldl (fun acc x => if x ∈ acc then acc else acc ++ [x]) acc ↔ x ∈ acc ∨ x ∈ fam
  | [], acc, x => by simp
  | y :: fam, acc, x => by
    rw [List.foldl_cons, dedP_mem0 fam]
    by_cases c : y ∈ acc
    · rw [if_pos c, List.mem_cons]
      constructor
      · rintro (h | h)
        · exact .inl h
        · exact .inr (.inr h)
      · rintro (h | rfl | h)
        · exact .inl h
        · exact .inl c
        · exact .inr h
    · rw [if_neg c, List.mem_append, List.mem_singleton, List.mem_cons, or_assoc]
theorem dedP_mem {fam : List Pr} {x : Pr} : x ∈ dedP fam ↔ x ∈ fam := by
  unfold dedP
  rw [dedP_mem0]
  simp
theorem put_tP {acc : List Pr} {x : Pr} : putD (acc.map tP) (kP x) (.bl true) = (if x ∈ acc then acc else acc ++ [x]).map tP := by
  unfold putD
  by_cases c : x ∈ acc
  · rw [if_pos c, if_pos]
    · refine (List.map_congr_left (g := id) fun p hp => ?_).trans (List.map_id _)
      obtain ⟨y, hy, rfl⟩ := List.mem_map.mp hp
      show (if kP y = kP x then (kP y, VS.D.bl true) else tP y) = tP y
      split <;> rfl
    · rw [List.any_eq_true]
      exact ⟨tP x, List.mem_map.mpr ⟨x, c, rfl⟩, decide_eq_true rfl⟩
  · rw [if_neg c, if_neg]
    · rw [List.map_append]; rfl
    · intro q
      rw [List.any_eq_true] at q
      obtain ⟨p, hp, e⟩ := q
      obtain ⟨y, hy, rfl⟩ := List.mem_map.mp hp
      exact c (by rw [← kP_inj (of_decide_eq_true e : kP y = kP x)]; exact hy)
theorem put_tPs : ∀ (fam acc : List Pr), (fam.map tP).foldl (fun acc p => putD acc p.1 p.2) (acc.map tP) = (fam.foldl (fun acc x => if x ∈ acc then acc else acc ++ [x]) acc).map tP
  | [], acc => rfl
  | x :: fam, acc => by
    rw [List.map_cons, List.foldl_cons, List.foldl_cons]
    show List.foldl _ (putD (acc.map tP) (kP x) (.bl true)) _ = _
    rw [put_tP, put_tPs fam]
theorem pairsT_P : ∀ fam : List Pr, pairsT (fam.map fun x => .tup [pD x, .bl true]) = some (fam.map tP)
  | [] => rfl
  | x :: fam => by
    show (match flatKs [VS.D.int x.1, .int x.2], pairsT (fam.map fun x => .tup [pD x, .bl true]) with | some k, some r => some (((Sum.inr k : DK), VS.D.bl true) :: r) | _, _ => none) = _
    rw [pairsT_P fam]
    rfl
theorem dict_P {fam : List Pr} {S : Store} {P : VS.D → Store → Prop} : W (fDictT (.lst (fam.map fun x => .tup [pD x, .bl true])) S) P = P (.dic true ((dedP fam).map tP)) S := by
  have e : fDictT (.lst (fam.map fun x => .tup [pD x, .bl true])) S = .ok (.dic true ((dedP fam).map tP)) S := by
    unfold fDictT
    dsimp only
    rw [pairsT_P]
    dsimp only
    have := put_tPs fam []
    rw [List.map_nil] at this
    rw [this]
    rfl
  rw [e]
  exact W_ok
theorem look_tP {K : List Pr} {x : Pr} : (lookK (kP x) (K.map tP)).isSome = decide (x ∈ K) := by
  induction K with
  | nil => rfl
  | cons y K ih =>
    show (if kP y = kP x then some (VS.D.bl true) else lookK (kP x) (K.map tP)).isSome = _
    by_cases c : y = x
    · subst c; simp
    · rw [if_neg fun e => c (kP_inj e), ih]
      exact decide_eq_decide.mpr ⟨fun h => List.mem_cons_of_mem _ h, fun h => (List.mem_cons.mp h).elim (fun e => absurd e.symm c) id⟩
theorem in_P {K : List Pr} {x : Pr} : inB (pD x) (.dic true (K.map tP)) = some (decide (x ∈ K)) := by
  rw [← look_tP]; rfl
theorem in_PF {K : List Pr} {x : Pr} : inB (pD x) (.fdt (K.map tP)) = some (decide (x ∈ K)) := by
  rw [← look_tP]; rfl
def stgOk (q : Sr) (fam : List Pr) (x : Pr) : Bool := if 0 ≤ x.1 ∧ x.1 < q.L ∧ 0 ≤ x.2 ∧ x.2 ≤ 2 ^ q.n - 1 ∧ (pcb q.n x.2.toNat : Int) ≤ x.1 then (q.nxt (x.1.toNat, x.2.toNat)).all fun p => decide ((((x.1.toNat + 1 : Nat) : Int), (p.2 : Int)) ∈ fam) else true
def barsB (q : Sr) (fam : List Pr) : Bool :=
  if q.L < q.n ∧ fam = [] then true else if (0, 0) ∉ fam ∨ (q.n ≤ q.L ∧ ((q.L : Int), (2 ^ q.n - 1 : Int)) ∈ fam) then false else fam.all (stgOk q fam)
theorem bars_gen {net : List Th} (hn : net.length ≤ 12) {L : Nat} (hL : L ≤ 900) {tr : Int} {pg : List (Int × Int)} (hg : PgOk net.length pg) (hpl : pg.length ≤ 100) {fam : List Pr} (hf : fam.length ≤ 16000000) {S : Store} :
    W (d_bars [netD net, .int (L : Nat), .int tr, .tup (pg.map pgE), .lst (fam.map pD)] S) fun v S' => v = .bl (barsB (srOf net L tr pg) fam) ∧ S' = S := by
  have hnl := netsL_len (net := net)
  have hnu : ¬ netD net = VS.D.und := by simp [netD]
  unfold d_bars s_bars
  rw [W_def]
  simp only [List.length_cons, List.length_nil, Nat.reduceAdd, Nat.reduceSub, List.replicate_succ, List.replicate_zero, List.cons_append, List.nil_append]
  have hM : 2 ^ net.length ≤ 4096 := Nat.pow_le_pow_right (by omega) (show net.length ≤ 12 by omega)
  have hpos : 0 < 2 ^ net.length := Nat.pow_pos (by omega)
  have hqn : (srOf net L tr pg).n = net.length := rfl
  have hqL : (srOf net L tr pg).L = L := rfl
  generalize hb : barsB (srOf net L tr pg) fam = b
  unfold barsB at hb
  rw [hqn, hqL] at hb
  have hok : okq (.lst (fam.map pD)) = true := okq_lst fun d hd => by
    obtain ⟨x, _, rfl⟩ := List.mem_map.mp hd
    exact ⟨rfl, by simp [pD, VS.D.dep, depL]⟩
  have hne : eqb (.lst (fam.map pD)) (.lst []) = decide (fam = []) := by cases fam <;> rfl
  have hfu : ¬ VS.D.lst (fam.map pD) = VS.D.und := by simp
  have first : ∀ (B : Bool → Store → Prop), B (decide (L < net.length ∧ fam = [])) S → W (tAnd' (tBin dGt (eCall (f1 dLen) (aCons (eVar 0) aNil)) (eVar 1)) (tBin dEq (eVar 4) (eLst aNil)) [netD net, .int (L : Nat), .int tr, .tup (pg.map pgE), .lst (fam.map pD), .und, .und, .und, .und, .und, .und, .und, .und] S) B := fun B hB => by
    simp [hnu]
    rw [show dLen (netD net) = dLen (.tup (net.map Th.d)) from rfl]
    simp
    by_cases c : L < net.length
    · rw [if_pos c]
      refine ⟨hok, ?_⟩
      rw [hne]
      simpa [c] using hB
    · rw [if_neg c]
      simpa [c] using hB
  rw [s_seq, s_if]
  refine first _ ?_
  by_cases hA : L < net.length ∧ fam = []
  · rw [if_pos (decide_eq_true hA)]
    rw [if_pos hA] at hb
    simp [← hb]
  rw [if_neg (by simpa using hA), s_next]
  rw [if_neg hA] at hb
  rw [s_seq]; simp [-s_seq, hnu]
  refine (masks_ok hn).mono fun v S2 hv => ?_
  obtain ⟨rfl, rfl⟩ := hv
  have hmd : VS.D.lst ((netsL net).map mkD) = msD (srOf net L tr pg).ms := by
    unfold msD srOf
    rw [List.map_map]
    rfl
  rw [hmd]
  have hml : (srOf net L tr pg).ms.length ≤ 1000 := by
    show ((netsL net).map _).length ≤ 1000
    rw [List.length_map]; omega
  have hms : ¬ msD (srOf net L tr pg).ms = VS.D.und := by simp [msD]
  rw [s_seq]; simp [-s_seq, hnu]
  rw [show dLen (netD net) = dLen (.tup (net.map Th.d)) from rfl]
  simp [-s_seq]
  refine ⟨by omega, ?_⟩
  rw [s_seq]; simp [-s_seq, hfu]
  refine comp_each pD (fun x => .tup [pD x, .bl true]) fam ?_ (by simp only [szv]; omega) ?_
  · intro x hx
    simp [szv, pD]
  rw [dict_P]
  have hz : VS.D.tup [.int 0, .int 0] = pD (0, 0) := rfl
  have hgl : VS.D.tup [.int (L : Nat), .int (2 ^ net.length - 1)] = pD ((L : Int), 2 ^ net.length - 1) := rfl
  have second : ∀ (B : Bool → Store → Prop) (x8 x9 x10 x11 x12 : VS.D), B (decide ((0, 0) ∉ fam ∨ (net.length ≤ L ∧ ((L : Int), (2 ^ net.length - 1 : Int)) ∈ fam))) S2 →
      W (tOr' (tBin dNotIn (eTup (aCons (eC (.int 0)) (aCons (eC (.int 0)) aNil))) (eVar 7)) (tAnd' (tBin dLe (eCall (f1 dLen) (aCons (eVar 0) aNil)) (eVar 1)) (tBin dIn (eTup (aCons (eVar 1) (aCons (eVar 6) aNil))) (eVar 7))) [netD net, .int (L : Nat), .int tr, .tup (pg.map pgE), .lst (fam.map pD), msD (srOf net L tr pg).ms, .int (2 ^ net.length - 1), .dic true ((dedP fam).map tP), x8, x9, x10, x11, x12] S2) B := fun B x8 x9 x10 x11 x12 hB => by
    simp [hnu]
    rw [hz, in_P]
    refine ⟨by simp [szv], ?_⟩
    rw [WG_some]
    by_cases c : (0, 0) ∈ fam
    · rw [show decide ((0, 0) ∈ dedP fam) = true from decide_eq_true (dedP_mem.mpr c)]
      simp
      rw [show dLen (netD net) = dLen (.tup (net.map Th.d)) from rfl]
      simp
      by_cases c2 : net.length ≤ L
      · rw [if_pos c2]
        refine ⟨by simp [szv], ?_⟩
        rw [hgl, in_P, WG_some]
        have e : decide (((L : Int), (2 ^ net.length - 1 : Int)) ∈ dedP fam) = decide ((0, 0) ∉ fam ∨ (net.length ≤ L ∧ ((L : Int), (2 ^ net.length - 1 : Int)) ∈ fam)) := by
          rw [decide_eq_decide, dedP_mem]
          simp [c, c2]
        rw [e]
        exact hB
      · rw [if_neg c2]
        simpa [c, c2] using hB
    · rw [show decide ((0, 0) ∈ dedP fam) = false from decide_eq_false fun h => c (dedP_mem.mp h)]
      simpa [c] using hB
  rw [s_seq, s_if]
  refine second _ _ _ _ _ _ ?_
  by_cases hB : (0, 0) ∉ fam ∨ (net.length ≤ L ∧ ((L : Int), (2 ^ net.length - 1 : Int)) ∈ fam)
  · rw [if_pos (decide_eq_true hB)]
    rw [if_pos hB] at hb
    simp [← hb]
  rw [if_neg (by simpa using hB), s_next]
  rw [if_neg hB] at hb
  rw [s_seq, s_frzT rfl]
  have hall : fam.all (stgOk (srOf net L tr pg) fam) = (dedP fam).all (stgOk (srOf net L tr pg) fam) := by
    rw [Bool.eq_iff_iff, List.all_eq_true, List.all_eq_true]
    exact ⟨fun h x hx => h x (dedP_mem.mp hx), fun h x hx => h x (dedP_mem.mpr hx)⟩
  rw [hall] at hb
  have hin : ∀ y : Pr, inB (pD y) (.fdt ((dedP fam).map tP)) = some (decide (y ∈ fam)) := fun y => by
    rw [in_PF, decide_eq_decide.mpr dedP_mem]
  rw [s_for, p_keyT]
  simp only [List.set_cons_succ, List.set_cons_zero]
  simp [-s_seq]
  rw [p_keysT]
  have hks : ((dedP fam).map tP).map (fun p => ofK p.1) = (dedP fam).map pD := by
    rw [List.map_map]; rfl
  rw [hks]
  generalize hF : VS.D.fdt ((dedP fam).map tP) = F at hin
  refine WS_for (fun rest ρ S3 => S3 = S2 ∧ ∃ (rs : List Pr) (x8 x9 x10 x11 x12 : VS.D), rest = rs.map pD ∧ rs.all (stgOk (srOf net L tr pg) fam) = b ∧ ρ = [netD net, .int (L : Nat), .int tr, .tup (pg.map pgE), .lst (fam.map pD), msD (srOf net L tr pg).ms, .int (2 ^ net.length - 1), F, x8, x9, x10, x11, x12]) ?_ ?_ _ _ _ ⟨rfl, dedP fam, .und, .und, .und, .und, .und, rfl, hb, rfl⟩
  · rintro d ds ρ S3 ⟨rfl, rs, x8, x9, x10, x11, x12, e1, e2, rfl⟩
    cases rs with
    | nil => cases e1
    | cons x rs =>
      rw [List.map_cons] at e1
      obtain ⟨rfl, rfl⟩ := List.cons.inj e1
      rw [List.all_cons] at e2
      have hsk : ¬ (0 ≤ x.1 ∧ x.1 < (L : Int) ∧ 0 ≤ x.2 ∧ x.2 ≤ 2 ^ net.length - 1 ∧ (pcb net.length x.2.toNat : Int) ≤ x.1) → ∃ rs_1 : List Pr, rs.map pD = rs_1.map pD ∧ rs_1.all (stgOk (srOf net L tr pg) fam) = b := fun h => by
        have : stgOk (srOf net L tr pg) fam x = true := by unfold stgOk; rw [hqn, hqL, if_neg h]
        rw [this, Bool.true_and] at e2
        exact ⟨rs, rfl, e2⟩
      simp [pD]
      by_cases c1 : 0 ≤ x.1
      case neg => rw [if_neg c1]; exact hsk fun z => c1 z.1
      by_cases c2 : x.1 < (L : Int)
      case neg => rw [if_pos c1, if_neg c2]; exact hsk fun z => c2 z.2.1
      by_cases c3 : 0 ≤ x.2
      case neg => rw [if_pos c1, if_pos c2, if_neg c3]; exact hsk fun z => c3 z.2.2.1
      by_cases c4 : x.2 ≤ 2 ^ net.length - 1
      case neg => rw [if_pos c1, if_pos c2, if_pos c3, if_neg c4]; exact hsk fun z => c4 z.2.2.2.1
      rw [if_pos c1, if_pos c2, if_pos c3, if_pos c4]
      have hmlt : x.2.toNat < 2 ^ net.length := by
        have : ((2 ^ net.length : Nat) : Int) = 2 ^ net.length := by simp
        omega
      have hx2 : x.2 = ((x.2.toNat : Nat) : Int) := (Int.toNat_of_nonneg c3).symm
      have hx1 : x.1 = ((x.1.toNat : Nat) : Int) := (Int.toNat_of_nonneg c1).symm
      have hsz := size_gen (k := net.length) (by omega) hmlt (S := S3)
      rw [← hx2] at hsz
      refine hsz.mono fun v S4 hv => ?_
      obtain ⟨rfl, rfl⟩ := hv
      by_cases c5 : (pcb net.length x.2.toNat : Int) ≤ x.1
      case neg => simp [c5]; exact hsk fun z => c5 z.2.2.2.2
      simp [c5, hnu, hms]
      rw [show dLen (netD net) = dLen (.tup (net.map Th.d)) from rfl]
      simp
      refine ⟨by simp [szv], ?_⟩
      have hnx := next_gen (q := srOf net L tr pg) (x := (x.1.toNat, x.2.toNat)) hg (by rw [hqn]; omega) hpl hml (S := S4)
      rw [show stE (x.1.toNat, x.2.toNat) = .tup [.int x.1, .int x.2] by unfold stE; rw [← hx1, ← hx2]] at hnx
      refine hnx.mono fun v S5 hv => ?_
      obtain ⟨rfl, rfl⟩ := hv
      simp
      have hst : stgOk (srOf net L tr pg) fam x = ((srOf net L tr pg).nxt (x.1.toNat, x.2.toNat)).all fun p => decide ((((x.1.toNat + 1 : Nat) : Int), (p.2 : Int)) ∈ fam) := by
        unfold stgOk
        rw [hqn, hqL, if_pos ⟨c1, c2, c3, c4, c5⟩]
      rw [hst] at e2
      generalize (srOf net L tr pg).nxt (x.1.toNat, x.2.toNat) = ys at e2
      refine WS_for (fun rest ρ S6 => S6 = S5 ∧ ∃ (ws : List (Int × Nat)) (y11 y12 : VS.D), rest = ws.map nxE ∧ ((ws.all fun p => decide ((((x.1.toNat + 1 : Nat) : Int), (p.2 : Int)) ∈ fam)) && rs.all (stgOk (srOf net L tr pg) fam)) = b ∧
        ρ = [netD net, .int (L : Nat), .int tr, .tup (pg.map pgE), .lst (fam.map pD), msD (srOf net L tr pg).ms, .int (2 ^ net.length - 1), F, .int x.1, .int x.2, x10, y11, y12]) ?_ ?_ _ _ _ ⟨rfl, ys, _, _, rfl, e2, rfl⟩
      · rintro d ds ρ S6 ⟨rfl, ws, y11, y12, f1, f2, rfl⟩
        cases ws with
        | nil => cases f1
        | cons w ws =>
          rw [List.map_cons] at f1
          obtain ⟨rfl, rfl⟩ := List.cons.inj f1
          rw [List.all_cons] at f2
          simp [nxE]
          refine ⟨by simp [szv], by rw [← hF]; simp, ?_⟩
          rw [show VS.D.tup [.int (x.1 + 1), .int (w.2 : Nat)] = pD (((x.1.toNat + 1 : Nat) : Int), (w.2 : Int)) by unfold pD; congr 3; omega, hin, WG_some]
          by_cases c : (((x.1.toNat + 1 : Nat) : Int), (w.2 : Int)) ∈ fam
          · rw [decide_eq_true c] at f2 ⊢
            simp at f2 ⊢
            exact ⟨ws, rfl, f2⟩
          · rw [decide_eq_false c] at f2 ⊢
            simp at f2 ⊢
            exact f2
      · rintro ρ S6 ⟨rfl, ws, y11, y12, f1, f2, rfl⟩
        cases ws with
        | cons w ws => cases f1
        | nil =>
          simp at f2
          exact ⟨rfl, rs, rfl, by rw [← f2], _, _, _, _, _, rfl⟩
  · rintro ρ S3 ⟨rfl, rs, x8, x9, x10, x11, x12, e1, e2, rfl⟩
    cases rs with
    | cons x rs => cases e1
    | nil => simp [← e2]
end WK
namespace WK
open PySem PySem.Spec PyProof.Rows L2 VS
theorem put_new {kvs : List (DK × VS.D)} {k : DK} {v : VS.D} (h : k ∉ kvs.map (·.1)) : putD kvs k v = kvs ++ [(k, v)] := by
  unfold putD
  rw [if_neg]
  intro q
  rw [List.any_eq_true] at q
  obtain ⟨p, hp, e⟩ := q
  exact h (List.mem_map.mpr ⟨p, hp, of_decide_eq_true e⟩)
theorem putD_fold : ∀ (kvs acc : List (DK × VS.D)), ((acc ++ kvs).map (·.1)).Nodup → kvs.foldl (fun acc p => putD acc p.1 p.2) acc = acc ++ kvs
  | [], acc, _ => by simp
  | p :: kvs, acc, h => by
    have e : acc ++ p :: kvs = (acc ++ [p]) ++ kvs := by simp
    have hp : p.1 ∉ acc.map (·.1) := fun z => by
      rw [List.map_append, List.nodup_append] at h
      exact h.2.2 _ z p.1 (by simp) rfl
    rw [List.foldl_cons, put_new hp, show acc ++ [(p.1, p.2)] = acc ++ [p] from rfl, putD_fold kvs (acc ++ [p]) (by rw [← e]; exact h), e]
def kvP (w : Int × Int) : DK × VS.D := (.inl (.inl w.2), .int w.1)
theorem pairs_pg : ∀ pg : List (Int × Int), pairsD (pg.map fun w => .tup [.int w.2, .int w.1]) = some (pg.map kvP)
  | [] => rfl
  | w :: pg => by
    show (match flatK (VS.D.int w.2), pairsD (pg.map fun w => .tup [.int w.2, .int w.1]) with | some k, some r => some (((Sum.inl k : DK), VS.D.int w.1) :: r) | _, _ => none) = _
    rw [pairs_pg pg]
    rfl
theorem dict_pg {pg : List (Int × Int)} (h : (pg.map (·.2)).Nodup) {S : Store} {P : VS.D → Store → Prop} : W (fDict (.lst (pg.map fun w => .tup [.int w.2, .int w.1])) S) P = P (.dic false (pg.map kvP)) S := by
  have e : fDict (.lst (pg.map fun w => .tup [.int w.2, .int w.1])) S = .ok (.dic false (pg.map kvP)) S := by
    unfold fDict
    dsimp only
    rw [pairs_pg]
    dsimp only
    rw [putD_fold]
    · rfl
    · rw [List.nil_append, List.map_map]
      have : ((fun x : DK × VS.D => x.1) ∘ kvP) = (fun i : Int => (Sum.inl (Sum.inl i) : DK)) ∘ (fun w : Int × Int => w.2) := rfl
      rw [this, ← List.map_map]
      exact nodup_map _ _ h fun x _ y _ e => by injection e with e; injection e
  rw [e]
  exact W_ok
theorem intsV_pg : ∀ pg : List (Int × Int), intsV (pg.map kvP) = some (pg.map (·.1))
  | [] => rfl
  | w :: pg => by
    show (intsV (pg.map kvP)).map (w.1 :: ·) = _
    rw [intsV_pg pg]
    rfl
theorem look_pg (s : Int) : ∀ pg : List (Int × Int), lookK (.inl (.inl s)) (pg.map kvP) = (pg.find? fun w => w.2 == s).map fun w => .int w.1
  | [] => rfl
  | w :: pg => by
    rw [List.map_cons, List.find?_cons]
    show (if (Sum.inl (Sum.inl w.2) : DK) = .inl (.inl s) then some (VS.D.int w.1) else lookK (.inl (.inl s)) (pg.map kvP)) = _
    by_cases c : w.2 = s
    · rw [if_pos (by rw [c]), show (w.2 == s) = true by simpa using c]
      rfl
    · rw [if_neg (fun e => c (by injection e with e; injection e)), show (w.2 == s) = false by simpa using c]
      exact look_pg s pg
def candL (n : Nat) (pg : List (Int × Int)) (s : Nat) : List Int := match pg.find? (fun q => q.2 == (s : Int)) with
  | some q => [q.1]
  | none => ((List.range n).filter fun p : Nat => !decide ((p : Int) ∈ pg.map (·.1))).map (fun p : Nat => (p : Int)) ++ [-1]
def goA (B : Nat) (a : Int) : Bool := decide (a < 0) || decide (aft B a ≠ B)
theorem aft_ne {B : Nat} {a : Int} (h : 0 ≤ a) : aft B a ≠ B ↔ B.testBit a.toNat = false := by
  unfold aft
  rw [if_pos h]
  constructor
  · intro q
    cases c : B.testBit a.toNat with
    | false => rfl
    | true =>
      exfalso
      refine q (Nat.eq_of_testBit_eq fun i => ?_)
      rw [Nat.testBit_or, Nat.testBit_two_pow]
      by_cases e : a.toNat = i
      · subst e; simp [c]
      · simp [e]
  · intro c q
    have := congrArg (fun m : Nat => m.testBit a.toNat) q
    simp only [Nat.testBit_or, Nat.testBit_two_pow_self, c] at this
    simp at this
theorem cand_chs {n : Nat} {pg : List (Int × Int)} (hg : PgOk n pg) {s B : Nat} : chs n pg s B = (candL n pg s).filter (goA B) := by
  unfold chs candL
  cases e : pg.find? (fun q => q.2 == (s : Int)) with
  | some w =>
    have hr := (hg.rng w (List.mem_of_find?_eq_some e)).1
    dsimp only
    by_cases c : B.testBit w.1.toNat = true
    · rw [if_pos c, List.filter_cons_of_neg]
      · rfl
      · unfold goA
        have : ¬ (aft B w.1 ≠ B) := fun q => by rw [aft_ne hr] at q; rw [q] at c; cases c
        simp [this]
        omega
    · rw [if_neg c, List.filter_cons_of_pos]
      · rfl
      · unfold goA
        have : aft B w.1 ≠ B := (aft_ne hr).mpr (by simpa using c)
        simp [this]
  | none =>
    dsimp only
    rw [List.filter_append]
    congr 1
    · rw [List.filter_map, List.filter_filter]
      congr 1
      refine List.filter_congr fun p hp => ?_
      show _ = (goA B (p : Int) && _)
      rw [Bool.and_comm]
      congr 1
      unfold goA
      have h0 : (0 : Int) ≤ (p : Int) := by omega
      cases c : B.testBit p with
      | true =>
        have : ¬ (aft B (p : Int) ≠ B) := fun q => by rw [aft_ne h0] at q; rw [show (p : Int).toNat = p from rfl, c] at q; cases q
        simp [this]
      | false =>
        have : aft B (p : Int) ≠ B := (aft_ne h0).mpr c
        simp [this]
def outS (ms : List Nat) (tr : Int) (s B : Nat) (a : Int) : List Stg := if goA B a = true ∧ (lbN ms B (aft B a) : Int) ≤ tr then [(s + 1, aft B a)] else []
theorem out_nxt {q : Sr} (hg : PgOk q.n q.pg) {s B : Nat} : (candL q.n q.pg s).flatMap (outS q.ms q.tr s B) = (q.nxt (s, B)).map fun p => (s + 1, p.2) := by
  unfold Sr.nxt
  dsimp only
  rw [cand_chs hg]
  generalize candL q.n q.pg s = cs
  induction cs with
  | nil => rfl
  | cons a cs ih =>
    rw [List.flatMap_cons, ih, List.filter_cons]
    unfold outS
    by_cases c : goA B a = true
    · rw [if_pos c, List.map_cons, List.filter_cons]
      by_cases d : (lbN q.ms B (aft B a) : Int) ≤ q.tr
      · rw [if_pos ⟨c, d⟩, if_pos (by simpa using d)]
        rfl
      · rw [if_neg (fun z => d z.2), if_neg (by simpa using d)]
        rfl
    · rw [if_neg (fun z => c z.1), if_neg c]
      rfl
end WK
namespace WK
open PySem PySem.Spec PyProof.Rows L2 VS
def bitsL (n B : Nat) : List Int := ((List.range n).filter fun i => B.testBit i).map fun i : Nat => (i : Int)
theorem bits_mem {n B : Nat} {k : Nat} : (k : Int) ∈ bitsL n B ↔ k < n ∧ B.testBit k = true := by
  unfold bitsL
  rw [List.mem_map]
  constructor
  · rintro ⟨i, hi, e⟩
    obtain ⟨h1, h2⟩ := List.mem_filter.mp hi
    have : i = k := by omega
    subst this
    exact ⟨List.mem_range.mp h1, h2⟩
  · rintro ⟨h1, h2⟩
    exact ⟨k, List.mem_filter.mpr ⟨List.mem_range.mpr h1, h2⟩, rfl⟩
theorem bits_rng {n B : Nat} {a : Int} (h : a ∈ bitsL n B) : 0 ≤ a ∧ a < n := by
  obtain ⟨i, hi, rfl⟩ := List.mem_map.mp h
  have := List.mem_range.mp (List.mem_filter.mp hi).1
  omega
theorem bits_sum {n B : Nat} (h : B < 2 ^ n) : ((bitsL n B).map fun m => (1 * 2 ^ m.toNat : Int)).sum = (B : Int) := by
  have hp : ((List.range n).filter fun i => B.testBit i).Pairwise (· < ·) := List.pairwise_lt_range.sublist List.filter_sublist
  have e1 : (((List.range n).filter fun i => B.testBit i).map (2 ^ ·)).sum = B := by
    rw [maskN_sum hp]
    refine Nat.eq_of_testBit_eq fun i => ?_
    rw [maskN_test]
    by_cases c : B.testBit i = true
    · rw [c]
      refine decide_eq_true (List.mem_filter.mpr ⟨List.mem_range.mpr ?_, c⟩)
      refine Nat.not_le.mp fun hle => ?_
      have := Nat.testBit_lt_two_pow (Nat.lt_of_lt_of_le h (Nat.pow_le_pow_right (by omega) hle))
      rw [this] at c
      cases c
    · rw [show B.testBit i = false by simpa using c]
      exact decide_eq_false fun q => c (List.mem_filter.mp q).2
  unfold bitsL
  rw [List.map_map]
  have : ∀ xs : List Nat, (xs.map ((fun m : Int => (1 * 2 ^ m.toNat : Int)) ∘ fun i : Nat => (i : Int))).sum = ((xs.map (2 ^ ·)).sum : Nat) := fun xs => by
    induction xs with
    | nil => rfl
    | cons x xs ih =>
      rw [List.map_cons, List.sum_cons, ih, List.map_cons, List.sum_cons]
      simp
  rw [this, e1]
theorem lb_mem {n B : Nat} {a : Int} (hB : B < 2 ^ n) (ha : -1 ≤ a ∧ a < n) {ms : List Int} (hm : MemOk n ms) :
    (lbB B (aft B a) (maskN (ms.map Int.toNat))) = (ms.any (fun x => decide (x ∈ bitsL n B ++ (if 0 ≤ a then [a] else []))) && ms.any (fun x => !decide (x ∈ bitsL n B))) := by
  unfold lbB
  have hA : ∀ k, (aft B a).testBit k = (B.testBit k || decide (0 ≤ a ∧ a.toNat = k)) := fun k => by
    unfold aft
    by_cases h0 : 0 ≤ a
    · rw [if_pos h0, Nat.testBit_or, Nat.testBit_two_pow]
      simp [h0]
    · rw [if_neg h0]
      simp [h0]
  congr 1
  · rw [Bool.eq_iff_iff, decide_eq_true_iff, List.any_eq_true, and_some]
    constructor
    · rintro ⟨k, h1, h2⟩
      rw [maskN_test, decide_eq_true_iff, List.mem_map] at h1
      obtain ⟨x, hx, e⟩ := h1
      have hr := hm.rng x hx
      have hxk : x = (k : Int) := by omega
      refine ⟨x, hx, decide_eq_true ?_⟩
      rw [hA, Bool.or_eq_true, decide_eq_true_iff] at h2
      rcases h2 with h2 | ⟨h2, h3⟩
      · exact List.mem_append_left _ (by rw [hxk]; exact bits_mem.mpr ⟨by omega, h2⟩)
      · rw [if_pos h2]
        exact List.mem_append_right _ (by rw [List.mem_singleton]; omega)
    · rintro ⟨x, hx, h⟩
      have hr := hm.rng x hx
      refine ⟨x.toNat, by rw [maskN_test]; exact decide_eq_true (List.mem_map.mpr ⟨x, hx, rfl⟩), ?_⟩
      rw [hA, Bool.or_eq_true, decide_eq_true_iff]
      rcases List.mem_append.mp (of_decide_eq_true h) with z | z
      · have e : x = ((x.toNat : Nat) : Int) := by omega
        rw [e] at z
        exact .inl (bits_mem.mp z).2
      · by_cases h0 : 0 ≤ a
        · rw [if_pos h0, List.mem_singleton] at z
          exact .inr ⟨h0, by rw [z]⟩
        · rw [if_neg h0] at z; cases z
  · rw [Bool.eq_iff_iff, decide_eq_true_iff, List.any_eq_true, sub_some]
    constructor
    · rintro ⟨k, h1, h2⟩
      rw [maskN_test, decide_eq_true_iff, List.mem_map] at h1
      obtain ⟨x, hx, e⟩ := h1
      have hr := hm.rng x hx
      have hxk : x = (k : Int) := by omega
      refine ⟨x, hx, ?_⟩
      rw [hxk]
      have : (k : Int) ∉ bitsL n B := fun z => by rw [(bits_mem.mp z).2] at h2; cases h2
      simp [this]
    · rintro ⟨x, hx, h⟩
      have hr := hm.rng x hx
      have e : x = ((x.toNat : Nat) : Int) := by omega
      refine ⟨x.toNat, by rw [maskN_test]; exact decide_eq_true (List.mem_map.mpr ⟨x, hx, rfl⟩), ?_⟩
      have h : x ∉ bitsL n B := by simpa using h
      rw [e] at h
      cases c : B.testBit x.toNat with
      | false => rfl
      | true => exact absurd (bits_mem.mpr ⟨by omega, c⟩) h
theorem sum_ok {ns : List Int} {S : Store} {P : VS.D → Store → Prop} : W (dSum (.lst (ns.map .int)) S) P = P (.int ns.sum) S := by
  have e : dSum (.lst (ns.map .int)) S = .ok (.int ns.sum) S := by
    unfold dSum onInts
    dsimp only
    rw [intsD_map']
    rfl
  rw [e]; exact W_ok
def bitI (B k : Nat) : Int := if B.testBit k then 1 else 0
theorem shr_bit (B p : Nat) : Builtin.bitAnd (((B : Nat) : Int) / 2 ^ p) 1 = bitI B p := by
  have e4 : ((B : Nat) : Int) / 2 ^ p = ((B / 2 ^ p : Nat) : Int) := by
    rw [Int.natCast_ediv]; simp
  have := bAnd_nn (B / 2 ^ p) 1
  rw [show ((1 : Nat) : Int) = 1 from rfl, Nat.and_one_is_mod] at this
  unfold bitI
  rw [e4, this, Nat.testBit_eq_decide_div_mod_eq]
  by_cases c : B / 2 ^ p % 2 = 1
  · simp [c]
  · have : B / 2 ^ p % 2 = 0 := by omega
    simp [this]
theorem law_size_ok {n B : Nat} (hn : n ≤ 12) (hB : B < 2 ^ n) {S : Store} : W (d_x_law_size [.int (B : Nat)] S) fun v S' => v = .int (pcb n B : Nat) ∧ S' = S := by
  unfold d_x_law_size s_x_law_size
  rw [W_def]
  simp only [List.length_cons, List.length_nil, Nat.reduceAdd, Nat.reduceSub, List.replicate_succ, List.replicate_zero, List.cons_append, List.nil_append]
  simp
  refine comp_each (fun k : Nat => .int (k : Int)) (fun k => .int (bitI B k)) (List.range 12) ?_ (by simp [szv]) ?_
  · intro k hk
    have := List.mem_range.mp hk
    simp [shr_bit]
  · rw [show (List.range 12).map (fun k => VS.D.int (bitI B k)) = ((List.range 12).map (bitI B)).map .int by rw [List.map_map]; rfl, sum_ok]
    have key : ∀ k, ((List.range k).map (bitI B)).sum = (((List.range k).filter fun i => B.testBit i).length : Int) := fun k => by
      induction k with
      | zero => rfl
      | succ k ih =>
        rw [List.range_succ, List.map_append, List.sum_append, ih, List.filter_append, List.length_append]
        cases c : B.testBit k <;> simp [bitI, c]
    rw [key]
    refine ⟨?_, rfl⟩
    rw [pcb_filter]
    congr 2
    have e : List.range 12 = List.range n ++ (List.range (12 - n)).map (n + ·) := by
      rw [← List.range_add]; congr 1; omega
    rw [e, List.filter_append]
    have : ((List.range (12 - n)).map (n + ·)).filter (fun i => B.testBit i) = [] := List.filter_eq_nil_iff.mpr fun i hi c => by
      obtain ⟨j, _, rfl⟩ := List.mem_map.mp hi
      have := Nat.testBit_lt_two_pow (Nat.lt_of_lt_of_le hB (Nat.pow_le_pow_right (by omega) (Nat.le_add_right n j)))
      rw [this] at c
      cases c
    rw [this, List.append_nil]
theorem or_add : ∀ (a B : Nat), B.testBit a = false → B ||| 2 ^ a = B + 2 ^ a
  | 0, B, h => by
    have h0 : B % 2 = 0 := by
      have := Nat.testBit_zero B
      rw [h] at this
      have := of_decide_eq_false this.symm
      omega
    have h1 : (B ||| 2 ^ 0) / 2 = B / 2 := by rw [Nat.or_div_two]; simp
    have h2 : (B ||| 2 ^ 0) % 2 = 1 := Nat.or_mod_two_eq_one.mpr (.inr rfl)
    have h3 := Nat.div_add_mod (B ||| 2 ^ 0) 2
    rw [h1, h2] at h3
    have e : (2 : Nat) ^ 0 = 1 := rfl
    rw [e] at h3 ⊢
    omega
  | a + 1, B, h => by
    have hb : (B / 2).testBit a = false := by rw [← Nat.testBit_succ]; exact h
    have ih := or_add a (B / 2) hb
    have e : 2 ^ (a + 1) = 2 * 2 ^ a := by rw [Nat.pow_succ]; omega
    have h1 : (B ||| 2 ^ (a + 1)) / 2 = B / 2 + 2 ^ a := by
      rw [Nat.or_div_two, e, Nat.mul_div_cancel_left _ (by omega)]
      exact ih
    have h2 : (B ||| 2 ^ (a + 1)) % 2 = B % 2 := by
      have k := Nat.or_mod_two_eq_one (a := B) (b := 2 ^ (a + 1))
      have e2 : 2 ^ (a + 1) % 2 = 0 := by rw [e]; omega
      rw [e2] at k
      have := Nat.mod_lt (B ||| 2 ^ (a + 1)) (show 0 < 2 by omega)
      have := Nat.mod_lt B (show 0 < 2 by omega)
      omega
    have h3 := Nat.div_add_mod (B ||| 2 ^ (a + 1)) 2
    rw [h1, h2] at h3
    omega
def hereL (n B : Nat) (a : Int) : List Int := bitsL n B ++ (if 0 ≤ a then [a] else [])
theorem here_sum {n B : Nat} {a : Int} (hB : B < 2 ^ n) (hg : goA B a = true) : ((hereL n B a).map fun m => (1 * 2 ^ m.toNat : Int)).sum = ((aft B a : Nat) : Int) := by
  unfold hereL aft
  rw [List.map_append, List.sum_append, bits_sum hB]
  by_cases h0 : 0 ≤ a
  · rw [if_pos h0, if_pos h0]
    have hb : B.testBit a.toNat = false := by
      unfold goA at hg
      rw [Bool.or_eq_true, decide_eq_true_iff, decide_eq_true_iff] at hg
      exact (aft_ne h0).mp (hg.resolve_left (by omega))
    rw [or_add _ _ hb]
    simp
  · rw [if_neg h0, if_neg h0]
    simp
theorem go_bits {n B : Nat} {a : Int} (ha : -1 ≤ a ∧ a < n) : decide (a ∈ bitsL n B) = !goA B a := by
  unfold goA
  by_cases h0 : 0 ≤ a
  · have e : a = ((a.toNat : Nat) : Int) := by omega
    rw [decide_eq_false (show ¬ a < 0 by omega), Bool.false_or]
    cases c : B.testBit a.toNat with
    | true =>
      rw [decide_eq_true (by rw [e]; exact bits_mem.mpr ⟨by omega, c⟩)]
      have : ¬ (aft B a ≠ B) := fun q => by rw [aft_ne h0] at q; rw [c] at q; cases q
      simp [this]
    | false =>
      have h1 : a ∉ bitsL n B := fun q => by rw [e] at q; rw [(bits_mem.mp q).2] at c; cases c
      rw [decide_eq_false h1, decide_eq_true ((aft_ne h0).mpr c)]
      rfl
  · have h1 : a ∉ bitsL n B := fun q => by have := (bits_rng q).1; omega
    rw [decide_eq_false h1, decide_eq_true (show a < 0 by omega)]
    rfl
theorem lb_snoc {ms : List Nat} {m B A : Nat} : (lbN (ms ++ [m]) B A : Int) = lbN ms B A + (if lbB B A m = true then 1 else 0) := by
  unfold lbN
  rw [List.filter_append]
  by_cases c : lbB B A m = true
  · rw [if_pos c, List.filter_cons_of_pos c]
    simp
  · rw [if_neg c, List.filter_cons_of_neg c]
    simp
def netsV (net : List Th) : VS.D := .lst ((netsL net).map pairD)
theorem steps_ok {net : List Th} (hl : net.length ≤ 12) {L : Nat} {tr : Int} {pg : List (Int × Int)} (hg : PgOk net.length pg) (hpl : pg.length ≤ 100) {s B : Nat} (hB : B < 2 ^ net.length) {S : Store} :
    W (d_x_law_steps [netD net, netsV net, .int tr, .tup (pg.map pgE), .tup [.int (s : Nat), .int (B : Nat)]] S) fun v S' => v = .lst ((((srOf net L tr pg).nxt (s, B)).map fun p => (s + 1, p.2)).map stE) ∧ S' = S := by
  have hout := out_nxt (q := srOf net L tr pg) hg (s := s) (B := B)
  rw [← hout]
  have hnl := netsL_len (net := net)
  have hqn : (srOf net L tr pg).n = net.length := rfl
  have hqt : (srOf net L tr pg).tr = tr := rfl
  have hqp : (srOf net L tr pg).pg = pg := rfl
  have hqm : (srOf net L tr pg).ms = (netsL net).map fun p => maskN (p.2.map Int.toNat) := rfl
  rw [hqn, hqt, hqp]
  unfold d_x_law_steps s_x_law_steps
  rw [W_def]
  simp only [List.length_cons, List.length_nil, Nat.reduceAdd, Nat.reduceSub, List.replicate_succ, List.replicate_zero, List.cons_append, List.nil_append]
  have hnu : ¬ netD net = VS.D.und := by simp [netD]
  have hvu : ¬ netsV net = VS.D.und := by simp [netsV]
  rw [s_seq]; simp [-s_seq]
  rw [s_seq]; simp [-s_seq, szv]
  rw [s_seq]; simp [-s_seq]
  refine comp_each pgE (fun w => .tup [.int w.2, .int w.1]) pg ?_ (by simp [szv]; omega) ?_
  · intro w hw
    simp [pgE, szv]
  rw [dict_pg hg.sl]
  rw [s_seq]; simp [-s_seq, hnu]
  rw [show dLen (netD net) = dLen (.tup (net.map Th.d)) from rfl]
  simp [-s_seq]
  refine ⟨by omega, ?_⟩
  have hnv : ∀ (k : Int) (S2 : Store), dNotVals (.int k) (.dic false (pg.map kvP)) S2 = .ok (.bl (!decide (k ∈ pg.map (·.1)))) S2 := fun k S2 => by
    show (match intsV (pg.map kvP) with | some is => retD (.bl (!decide (k ∈ is))) | none => badD) S2 = _
    rw [intsV_pg]
    rfl
  refine comp_pure (fun k : Nat => .int (k : Int)) (fun p : Nat => !decide ((p : Int) ∈ pg.map (·.1))) (fun k : Nat => .int (k : Int)) (List.range net.length) ?_ (by simp [szv]; omega) ?_
  · intro k hk
    simp only [g_name, WG_some]
    simp
    rw [hnv, W_ok]
    simp
  have hin : inB (.int (s : Int)) (.dic false (pg.map kvP)) = some ((pg.find? fun w => w.2 == (s : Int)).isSome) := by
    show some (hasK (.inl (.inl (s : Int))) (pg.map kvP)) = _
    unfold hasK
    rw [look_pg, Option.isSome_map]
  rw [s_seq, s_set]
  have key : ∀ (Q : VS.D → Store → Prop) (ρ : List VS.D), ρ[6]? = some (.dic false (pg.map kvP)) → ρ[11]? = some (.int (s : Nat)) → ρ[7]? = some (.lst (((List.range net.length).filter fun p : Nat => !decide ((p : Int) ∈ pg.map (·.1))).map fun k : Nat => VS.D.int (k : Int))) →
      Q (.lst ((candL net.length pg s).map .int)) S → W (eIf (tBin dIn (eVar 11) (eVar 6)) (eLst (aCons (eBin dIx (eVar 6) (eVar 11)) aNil)) (eBin fAdd (eVar 7) (eLst (aCons (eUn dNeg (eC (.int 1))) aNil))) ρ S) Q := fun Q ρ r6 r11 r7 hQ => by
    unfold candL at hQ
    simp [r6, r11, r7]
    rw [hin, WG_some]
    cases e : pg.find? (fun w => w.2 == (s : Int)) with
    | some w =>
      rw [e] at hQ
      simp [szv]
      rw [show dIx (.dic false (pg.map kvP)) (.int (s : Int)) S = .ok (.int w.1) S by
        show (match lookK (.inl (.inl (s : Int))) (pg.map kvP) with | some x => retD x | none => badD) S = _
        rw [look_pg, e]
        rfl, W_ok]
      exact hQ
    | none =>
      rw [e] at hQ
      simp [szv]
      have := List.length_filter_le (fun p : Nat => !decide ((p : Int) ∈ pg.map (·.1))) (List.range net.length)
      rw [List.length_range] at this
      simp at hQ this
      exact ⟨by omega, hQ⟩
  refine key _ _ rfl rfl rfl ?_
  rw [s_seq]; simp [-s_seq, hnu]
  rw [show dLen (netD net) = dLen (.tup (net.map Th.d)) from rfl]
  simp [-s_seq]
  refine ⟨by omega, ?_⟩
  refine comp_pure (fun k : Nat => .int (k : Int)) (fun k => B.testBit k) (fun k : Nat => .int (k : Int)) (List.range net.length) ?_ (by simp [szv]; omega) ?_
  · intro k hk
    have := List.mem_range.mp hk
    simp [shr_bit]
    unfold bitI
    cases B.testBit k <;> simp
  rw [show ((List.range net.length).filter fun k => B.testBit k).map (fun k : Nat => VS.D.int (k : Int)) = (bitsL net.length B).map .int by unfold bitsL; rw [List.map_map]; rfl]
  rw [s_seq]; simp [-s_seq]
  have hrng : ∀ a ∈ candL net.length pg s, -1 ≤ a ∧ a < net.length := fun a ha => by
    unfold candL at ha
    split at ha
    · rename_i w e
      rw [List.mem_singleton] at ha
      have := hg.rng w (List.mem_of_find?_eq_some e)
      rw [ha]; omega
    · rcases List.mem_append.mp ha with z | z
      · obtain ⟨p, hp, rfl⟩ := List.mem_map.mp z
        have := List.mem_range.mp (List.mem_filter.mp hp).1
        omega
      · rw [List.mem_singleton.mp z]; omega
  have hcl : (candL net.length pg s).length ≤ net.length + 1 := by
    unfold candL
    split
    · simp
    · have := List.length_filter_le (fun p : Nat => !decide ((p : Int) ∈ pg.map (·.1))) (List.range net.length)
      rw [List.length_range] at this
      rw [List.length_append, List.length_map]
      simp at this ⊢
      omega
  clear hout key hin hnv
  rw [hqm]
  generalize candL net.length pg s = cs at hrng hcl
  generalize hMS : ((netsL net).map fun p => maskN (p.2.map Int.toNat)) = ms
  have hlen : ∀ xs : List Int, (xs.flatMap (outS ms tr s B)).length ≤ xs.length := fun xs => by
    induction xs with
    | nil => simp
    | cons a xs ih =>
      rw [List.flatMap_cons, List.length_append, List.length_cons]
      have : (outS ms tr s B a).length ≤ 1 := by unfold outS; split <;> simp
      omega
  have hbl : (bitsL net.length B).length ≤ net.length := by
    unfold bitsL
    rw [List.length_map]
    have := List.length_filter_le (fun i => B.testBit i) (List.range net.length)
    rwa [List.length_range] at this
  refine WS_for (fun rest ρ S3 => S3 = S ∧ ∃ (done rs : List Int) (x6 x7 x8 x10 x13 x14 x15 x16 x17 x18 : VS.D), rest = rs.map .int ∧ cs = done ++ rs ∧ ρ = [netD net, netsV net, .int tr, .tup (pg.map pgE), .tup [.int (s : Nat), .int (B : Nat)], .lst ((done.flatMap (outS ms tr s B)).map stE), x6, x7, x8, .lst ((bitsL net.length B).map .int), x10, .int (s : Nat), .int (B : Nat), x13, x14, x15, x16, x17, x18]) ?_ ?_ _ _ _ ⟨rfl, [], cs, _, _, _, _, _, _, _, _, _, _, rfl, rfl, rfl⟩
  · rintro d ds ρ S3 ⟨rfl, done, rs, x6, x7, x8, x10, x13, x14, x15, x16, x17, x18, e1, e2, rfl⟩
    cases rs with
    | nil => cases e1
    | cons a rs =>
      rw [List.map_cons] at e1
      obtain ⟨rfl, rfl⟩ := List.cons.inj e1
      have har := hrng a (by rw [e2]; simp)
      have hdl : done.length ≤ net.length := by rw [e2] at hcl; simp at hcl; omega
      have hdo := hlen done
      have hfl : (done.flatMap (outS ms tr s B)).length < sz := by simp only [szv]; omega
      simp only [g_name, WG_some]
      rw [s_if]
      simp [-s_seq]
      rw [inB_intsL, WG_some]
      have hgb := go_bits (n := net.length) (B := B) har
      by_cases hgo : goA B a = true
      · rw [hgo] at hgb
        rw [hgb]
        simp [-s_seq]
        have hhl : (hereL net.length B a).length ≤ 13 := by
          unfold hereL
          rw [List.length_append]
          split <;> simp <;> omega
        have key13 : ∀ (N : List VS.D → Store → Prop) (R : VS.D → Store → Prop), N [netD net, netsV net, .int tr, .tup (pg.map pgE), .tup [.int (s : Nat), .int (B : Nat)], .lst ((done.flatMap (outS ms tr s B)).map stE), x6, x7, x8, .lst ((bitsL net.length B).map .int), .int a, .int (s : Nat), .int (B : Nat), .lst ((hereL net.length B a).map .int), x14, x15, x16, x17, x18] S3 →
            WS (sSet 13 (eBin fAdd (eVar 9) (eBin fMul (eLst (aCons (eVar 10) aNil)) (eCall (f1 dInt) (aCons (eBin dGe (eVar 10) (eC (.int 0))) aNil)))) [netD net, netsV net, .int tr, .tup (pg.map pgE), .tup [.int (s : Nat), .int (B : Nat)], .lst ((done.flatMap (outS ms tr s B)).map stE), x6, x7, x8, .lst ((bitsL net.length B).map .int), .int a, .int (s : Nat), .int (B : Nat), x13, x14, x15, x16, x17, x18] S3) N R := fun N R hN => by
          simp
          by_cases h0 : 0 ≤ a
          · have hh : hereL net.length B a = bitsL net.length B ++ [a] := by unfold hereL; rw [if_pos h0]
            rw [hh] at hN
            simp [h0, szv]
            refine ⟨by omega, ?_⟩
            simpa using hN
          · have hh : hereL net.length B a = bitsL net.length B := by unfold hereL; rw [if_neg h0, List.append_nil]
            rw [hh] at hN
            simp [h0, szv]
            refine ⟨by omega, ?_⟩
            simpa using hN
        rw [s_seq]
        refine key13 _ _ ?_
        rw [s_seq]; simp [-s_seq]
        rw [s_seq]; simp [-s_seq, hvu]
        rw [show iterB (netsV net) = some ((netsL net).map pairD) from rfl, WG_some]
        have hmo : ∀ p ∈ netsL net, MemOk net.length p.2 ∧ p.2.length ≤ 100000 := fun p hp => by
          refine ⟨netsL_memOk p hp, ?_⟩
          have := netsL_memb p hp
          omega
        have hmsE : ms = (netsL net).map fun p => maskN (p.2.map Int.toNat) := hMS.symm
        generalize netsL net = NL at hmo hmsE
        refine WS_for (fun rest ρ S4 => S4 = S3 ∧ ∃ (d2 r2 : List (T × List Int)) (y15 y16 y17 y18 : VS.D), rest = r2.map pairD ∧ NL = d2 ++ r2 ∧ ρ = [netD net, netsV net, .int tr, .tup (pg.map pgE), .tup [.int (s : Nat), .int (B : Nat)], .lst ((done.flatMap (outS ms tr s B)).map stE), x6, x7, x8, .lst ((bitsL net.length B).map .int), .int a, .int (s : Nat), .int (B : Nat), .lst ((hereL net.length B a).map .int), .int (lbN (d2.map fun p => maskN (p.2.map Int.toNat)) B (aft B a) : Nat), y15, y16, y17, y18]) ?_ ?_ _ _ _ ⟨rfl, [], NL, x15, x16, x17, x18, rfl, rfl, rfl⟩
        · rintro d ds ρ S4 ⟨rfl, d2, r2, y15, y16, y17, y18, f1, f2, rfl⟩
          cases r2 with
          | nil => cases f1
          | cons p r2 =>
            rw [List.map_cons] at f1
            obtain ⟨rfl, rfl⟩ := List.cons.inj f1
            obtain ⟨hm, hml⟩ := hmo p (by rw [f2]; simp)
            have hlb := lb_mem hB har hm
            have hls := lb_snoc (ms := d2.map fun p => maskN (p.2.map Int.toNat)) (m := maskN (p.2.map Int.toNat)) (B := B) (A := aft B a)
            simp [pairD]
            refine comp_each .int (fun x => .bl (decide (x ∈ hereL net.length B a))) p.2 ?_ (by simp only [szv]; omega) ?_
            · intro x hx
              simp
              rw [inB_intsL, WG_some]
            rw [bools_map p.2 (fun x => decide (x ∈ hereL net.length B a)), WG_some]
            have e1 : ((p.2.map fun x => decide (x ∈ hereL net.length B a)).any id) = p.2.any fun x => decide (x ∈ hereL net.length B a) := by rw [List.any_map]; rfl
            have hh : hereL net.length B a = bitsL net.length B ++ (if 0 ≤ a then [a] else []) := rfl
            rw [← hh] at hlb
            rw [show truB (.bl ((p.2.map fun x => decide (x ∈ hereL net.length B a)).any id)) = some ((p.2.map fun x => decide (x ∈ hereL net.length B a)).any id) from rfl, WG_some, e1]
            cases c1 : p.2.any fun x => decide (x ∈ hereL net.length B a) with
            | false =>
              rw [if_neg (by simp)]
              rw [c1, Bool.false_and] at hlb
              refine ⟨rfl, d2 ++ [p], r2, rfl, by simp [f2], ?_⟩
              rw [List.map_append, List.map_cons, List.map_nil, hls, hlb]
              have hno : true ∉ p.2.map fun x => decide (x ∈ hereL net.length B a) := fun q => by
                obtain ⟨x, hx, e⟩ := List.mem_map.mp q
                rw [List.any_eq_false] at c1
                exact c1 x hx e
              rw [if_neg hno]
              simp
            | true =>
              rw [if_pos rfl]
              rw [c1, Bool.true_and] at hlb
              refine comp_each .int (fun x => .bl (!decide (x ∈ bitsL net.length B))) p.2 ?_ (by simp only [szv]; omega) ?_
              · intro x hx
                simp
                rw [inB_intsL, WG_some]
              rw [bools_map p.2 (fun x => !decide (x ∈ bitsL net.length B)), WG_some]
              refine ⟨rfl, d2 ++ [p], r2, rfl, by simp [f2], ?_⟩
              rw [List.map_append, List.map_cons, List.map_nil, hls, hlb]
              congr 1
              cases c2 : p.2.any fun x => !decide (x ∈ bitsL net.length B) with
              | false =>
                have hno : true ∉ p.2.map fun x => !decide (x ∈ bitsL net.length B) := fun q => by
                  obtain ⟨x, hx, e⟩ := List.mem_map.mp q
                  rw [List.any_eq_false] at c2
                  exact c2 x hx e
                rw [if_neg hno, if_neg (by simp)]
              | true =>
                have hyes : true ∈ p.2.map fun x => !decide (x ∈ bitsL net.length B) := by
                  obtain ⟨x, hx, e⟩ := List.any_eq_true.mp c2
                  exact List.mem_map.mpr ⟨x, hx, e⟩
                rw [if_pos hyes, if_pos rfl]
        · rintro ρ S4 ⟨rfl, d2, r2, y15, y16, y17, y18, f1, f2, rfl⟩
          cases r2 with
          | cons p r2 => cases f1
          | nil =>
            rw [List.append_nil] at f2
            rw [f2] at hmsE
            rw [← hmsE]
            have hfin : ∀ o : List Stg, o = outS ms tr s B a → ∃ done' rs', rs.map VS.D.int = rs'.map .int ∧ cs = done' ++ rs' ∧ (done.flatMap (outS ms tr s B)).map stE ++ o.map stE = (done'.flatMap (outS ms tr s B)).map stE := fun o ho =>
              ⟨done ++ [a], rs, rfl, by simp [e2], by rw [ho]; simp⟩
            by_cases hle : (lbN ms B (aft B a) : Int) ≤ tr
            · simp [hle, -List.length_flatMap]
              refine comp_each .int (fun x => .int (1 * 2 ^ x.toNat)) (hereL net.length B a) ?_ (by simp only [szv]; omega) ?_
              · intro x hx
                have hx0 : 0 ≤ x ∧ x < 100 := by
                  rcases List.mem_append.mp hx with z | z
                  · have := bits_rng z; omega
                  · by_cases h0 : 0 ≤ a
                    · rw [if_pos h0, List.mem_singleton] at z; omega
                    · rw [if_neg h0] at z; cases z
                simp
                omega
              rw [show (hereL net.length B a).map (fun x : Int => VS.D.int (1 * 2 ^ x.toNat)) = ((hereL net.length B a).map fun x : Int => (1 * 2 ^ x.toNat : Int)).map .int by rw [List.map_map]; rfl, sum_ok, here_sum hB hgo]
              have := hfin [(s + 1, aft B a)] (by unfold outS; rw [if_pos ⟨hgo, hle⟩])
              refine ⟨by simp [szv], hfl, rfl, ?_⟩
              simpa [stE] using this
            · simp [hle]
              have := hfin [] (by unfold outS; rw [if_neg fun z => hle z.2])
              simpa using this
      · have hgf : goA B a = false := by simpa using hgo
        rw [hgf] at hgb
        rw [hgb]
        simp
        refine ⟨done ++ [a], rs, rfl, by simp [e2], ?_⟩
        rw [List.flatMap_append, List.map_append]
        have : [a].flatMap (outS ms tr s B) = [] := by simp [outS, hgf]
        rw [this]
        simp
  · rintro ρ S3 ⟨rfl, done, rs, x6, x7, x8, x10, x13, x14, x15, x16, x17, x18, e1, e2, rfl⟩
    cases rs with
    | cons p rs => cases e1
    | nil =>
      rw [List.append_nil] at e2
      simp [e2]
theorem put_tE {acc : List Stg} {x : Stg} : putD (acc.map tE) (kSt x) (.bl true) = (if x ∈ acc then acc else acc ++ [x]).map tE := by
  unfold putD
  by_cases c : x ∈ acc
  · rw [if_pos c, if_pos]
    · refine (List.map_congr_left (g := id) fun p hp => ?_).trans (List.map_id _)
      obtain ⟨y, hy, rfl⟩ := List.mem_map.mp hp
      show (if kSt y = kSt x then (kSt y, VS.D.bl true) else tE y) = tE y
      split <;> rfl
    · rw [List.any_eq_true]
      exact ⟨tE x, List.mem_map.mpr ⟨x, c, rfl⟩, decide_eq_true rfl⟩
  · rw [if_neg c, if_neg]
    · rw [List.map_append]; rfl
    · intro q
      rw [List.any_eq_true] at q
      obtain ⟨p, hp, e⟩ := q
      obtain ⟨y, hy, rfl⟩ := List.mem_map.mp hp
      exact c (by rw [← kSt_inj (of_decide_eq_true e : kSt y = kSt x)]; exact hy)
structure Lay1 (n s : Nat) (l : List Stg) : Prop where
  nd : l.Nodup
  rg : ∀ x ∈ l, x.1 = s ∧ x.2 < 2 ^ n
theorem Lay1.len {n s : Nat} {l : List Stg} (h : Lay1 n s l) : l.length ≤ 2 ^ n := by
  have : l.length ≤ ((List.range (2 ^ n)).map fun b => ((s, b) : Stg)).length := subP_len h.nd fun x hx => List.mem_map.mpr ⟨x.2, List.mem_range.mpr (h.rg x hx).2, Prod.ext (h.rg x hx).1.symm rfl⟩
  rwa [List.length_map, List.length_range] at this
theorem aft_lt {n B : Nat} {a : Int} (hB : B < 2 ^ n) (ha : a < n) : aft B a < 2 ^ n := by
  unfold aft
  by_cases h0 : 0 ≤ a
  · rw [if_pos h0]
    exact Nat.or_lt_two_pow hB (Nat.pow_lt_pow_right (by omega) (by omega))
  · rw [if_neg h0]; exact hB
theorem lsts_map {ls : List (List Stg)} : lstsD (ls.map fun l => .lst (l.map stE)) = some (ls.map fun l => l.map stE) := by
  induction ls with
  | nil => rfl
  | cons l ls ih =>
    show (lstsD (ls.map fun l => .lst (l.map stE))).map ((l.map stE) :: ·) = _
    rw [ih]; rfl
theorem reached_law_ok {net : List Th} (hl : net.length ≤ 12) {L : Nat} (hL : L ≤ 20) {tr : Int} {pg : List (Int × Int)} (hg : PgOk net.length pg) (hpl : pg.length ≤ 100) {S : Store} :
    W (d_x_law_reached [netD net, .int (L : Nat), .int tr, .tup (pg.map pgE)] S) fun v S' => (∃ K : List Stg, v = .lst (K.map stE) ∧ K.length ≤ 90000) ∧ S' = S := by
  have hM : 2 ^ net.length ≤ 4096 := Nat.pow_le_pow_right (by omega) hl
  have hnu : ¬ netD net = VS.D.und := by simp [netD]
  unfold d_x_law_reached s_x_law_reached
  rw [W_def]
  simp only [List.length_cons, List.length_nil, Nat.reduceAdd, Nat.reduceSub, List.replicate_succ, List.replicate_zero, List.cons_append, List.nil_append]
  rw [s_seq]; simp [-s_seq, szv]
  rw [s_seq]; simp [-s_seq]
  refine ⟨by omega, ?_⟩
  have hlt : ∀ (l : List (List Stg)), l.length ≤ 21 → (∀ x ∈ l, x.length ≤ 4096) → l.flatten.length ≤ 90000 := fun l h1 h2 => by
    have : l.flatten.length ≤ l.length * 4096 := by
      induction l with
      | nil => simp
      | cons x l ih =>
        have h3 := h2 x (List.mem_cons_self ..)
        have h4 := ih (by rw [List.length_cons] at h1; omega) fun y hy => h2 y (List.mem_cons_of_mem _ hy)
        rw [List.flatten_cons, List.length_append, List.length_cons]
        omega
    omega
  refine WS_for (fun rest ρ S2 => S2 = S ∧ ∃ (s m : Nat) (pre : List (List Stg)) (l : List Stg) (x5 x6 x7 x8 : VS.D), rest = (List.range' s m).map (fun i : Nat => VS.D.int (i : Int)) ∧ s + m = L ∧ pre.length = s ∧ (∀ x ∈ pre, x.length ≤ 4096) ∧ Lay1 net.length s l ∧
    ρ = [netD net, .int (L : Nat), .int tr, .tup (pg.map pgE), .lst ((pre ++ [l]).map fun l : List Stg => .lst (l.map stE)), x5, x6, x7, x8]) ?_ ?_ _ _ _ ⟨rfl, 0, L, [], [(0, 0)], .und, .und, .und, .und, by rw [List.range_eq_range'], by omega, rfl, by simp, ⟨by simp, fun x hx => ?_⟩, rfl⟩
  · rintro d ds ρ S2 ⟨rfl, s, m, pre, l, x5, x6, x7, x8, e1, e2, e3, e4, hlay, rfl⟩
    cases m with
    | zero => cases e1
    | succ m =>
      rw [List.range'_succ, List.map_cons] at e1
      obtain ⟨rfl, rfl⟩ := List.cons.inj e1
      simp only [g_name, WG_some]
      rw [s_seq]; simp [-s_seq]
      rw [s_seq]; simp [-s_seq]
      rw [VS.atI_last, WG_some, p_iterL, WG_some]
      have hll := hlay.len
      refine WS_for (fun rest ρ S3 => S3 = S2 ∧ ∃ (rs acc : List Stg) (y7 y8 : VS.D), rest = rs.map stE ∧ (∀ x ∈ rs, x ∈ l) ∧ Lay1 net.length (s + 1) acc ∧ ρ = [netD net, .int (L : Nat), .int tr, .tup (pg.map pgE), .lst (pre.map (fun l => .lst (l.map stE)) ++ [.lst (l.map stE)]), .int (s : Nat), .dic true (acc.map tE), y7, y8]) ?_ ?_ _ _ _ ⟨rfl, l, [], x7, x8, rfl, fun _ h => h, ⟨by simp, by simp⟩, rfl⟩
      · rintro d ds ρ S3 ⟨rfl, rs, acc, y7, y8, f1, f2, hacc, rfl⟩
        cases rs with
        | nil => cases f1
        | cons x rs =>
          rw [List.map_cons] at f1
          obtain ⟨rfl, rfl⟩ := List.cons.inj f1
          have hx := hlay.rg x (f2 x (List.mem_cons_self ..))
          have hr : ∀ y ∈ rs, y ∈ l := fun y hy => f2 y (List.mem_cons_of_mem _ hy)
          have hxu : ¬ stE x = VS.D.und := by simp [stE]
          simp [hnu, hxu]
          refine (law_nets_ok hl).mono fun v S4 hv => ?_
          obtain ⟨rfl, rfl⟩ := hv
          refine (steps_ok hl (L := L) (tr := tr) hg hpl hx.2 (s := x.1)).mono fun v S5 hv => ?_
          obtain ⟨rfl, rfl⟩ := hv
          rw [p_iterL, WG_some]
          have hys : ∀ y ∈ ((srOf net L tr pg).nxt (x.1, x.2)).map (fun p => ((x.1 + 1, p.2) : Stg)), y.1 = s + 1 ∧ y.2 < 2 ^ net.length := fun y hy => by
            obtain ⟨p, hp, rfl⟩ := List.mem_map.mp hy
            obtain ⟨h1, h2, _⟩ := nxt_mem.mp hp
            refine ⟨by rw [hx.1], ?_⟩
            show p.2 < _
            rw [h2]
            exact aft_lt hx.2 (chs_rng hg h1).1.2
          generalize ((srOf net L tr pg).nxt (x.1, x.2)).map (fun p => ((x.1 + 1, p.2) : Stg)) = ys at hys
          refine WS_for (fun rest ρ S6 => S6 = S5 ∧ ∃ (qs acc : List Stg) (y8 : VS.D), rest = qs.map stE ∧ (∀ y ∈ qs, y ∈ ys) ∧ Lay1 net.length (s + 1) acc ∧ ρ = [netD net, .int (L : Nat), .int tr, .tup (pg.map pgE), .lst (pre.map (fun l => .lst (l.map stE)) ++ [.lst (l.map stE)]), .int (s : Nat), .dic true (acc.map tE), stE x, y8]) ?_ ?_ _ _ _ ⟨rfl, ys, acc, y8, rfl, fun _ h => h, hacc, rfl⟩
          · rintro d ds ρ S6 ⟨rfl, qs, acc, z8, g1, g2, hacc, rfl⟩
            cases qs with
            | nil => cases g1
            | cons y qs =>
              rw [List.map_cons] at g1
              obtain ⟨rfl, rfl⟩ := List.cons.inj g1
              have hyu : ¬ stE y = VS.D.und := by simp [stE]
              have hal := hacc.len
              simp [hyu]
              rw [dsetG (by rw [List.length_map]; simp only [szv]; omega), put_tE]
              refine ⟨qs, rfl, fun a b h => g2 _ (List.mem_cons_of_mem _ h), _, ?_, rfl⟩
              have hy := hys y (g2 y (List.mem_cons_self ..))
              by_cases c : y ∈ acc
              · rw [if_pos c]; exact hacc
              · rw [if_neg c]
                refine ⟨List.nodup_append.mpr ⟨hacc.nd, by simp, fun a ha b hb e => c (by rw [← List.mem_singleton.mp hb, ← e]; exact ha)⟩, fun z hz => ?_⟩
                rcases List.mem_append.mp hz with w | w
                · exact hacc.rg z w
                · rw [List.mem_singleton.mp w]; exact hy
          · rintro ρ S6 ⟨rfl, qs, acc, z8, g1, g2, hacc, rfl⟩
            cases qs with
            | cons y qs => cases g1
            | nil => exact ⟨rfl, rs, rfl, fun a b h => hr _ h, acc, hacc, _, _, rfl⟩
      · rintro ρ S3 ⟨rfl, rs, acc, y7, y8, f1, f2, hacc, rfl⟩
        cases rs with
        | cons x rs => cases f1
        | nil =>
          simp
          have hk : acc.map ((fun p => ofK p.1) ∘ tE) = acc.map stE := rfl
          refine ⟨by simp only [szv]; omega, s + 1, m, rfl, by omega, pre ++ [l], by simp [e3], fun x hx => ?_, acc, hacc, by simp, hk⟩
          rcases List.mem_append.mp hx with z | z
          · exact e4 x z
          · rw [List.mem_singleton.mp z]; omega
  · rintro ρ S2 ⟨rfl, s, m, pre, l, x5, x6, x7, x8, e1, e2, e3, e4, hlay, rfl⟩
    cases m with
    | succ m => rw [List.range'_succ] at e1; cases e1
    | zero =>
      simp
      have hall : (pre ++ [l]).length ≤ 21 ∧ ∀ x ∈ pre ++ [l], x.length ≤ 4096 := by
        refine ⟨by simp; omega, fun x hx => ?_⟩
        rcases List.mem_append.mp hx with z | z
        · exact e4 x z
        · rw [List.mem_singleton.mp z]
          have := hlay.len
          omega
      have hfl := hlt _ hall.1 hall.2
      have hm : pre.map (fun l : List Stg => VS.D.lst (l.map stE)) ++ [.lst (l.map stE)] = (pre ++ [l]).map fun l : List Stg => .lst (l.map stE) := by simp
      rw [hm]
      have hflat : ((pre ++ [l]).map fun l : List Stg => l.map stE).flatten = (pre ++ [l]).flatten.map stE := by rw [List.map_flatten]
      rw [show fSumL (.lst ((pre ++ [l]).map fun l : List Stg => .lst (l.map stE))) (.lst []) S2 = .ok (.lst ((pre ++ [l]).flatten.map stE)) S2 from ?_, W_ok]
      · exact ⟨⟨_, rfl, hfl⟩, rfl⟩
      · show (match lstsD ((pre ++ [l]).map fun l : List Stg => .lst (l.map stE)) with | some xs => if (pre ++ [l]).map (fun l : List Stg => VS.D.lst (l.map stE)) ≠ [] ∧ xs.flatten.length ≤ sz then retD (.lst xs.flatten) else badD | none => badD) S2 = _
        rw [lsts_map]
        dsimp only
        rw [hflat, if_pos ⟨by simp, by rw [List.length_map]; simp only [szv]; omega⟩]
        rfl
  · rw [List.mem_singleton.mp hx]
    exact ⟨rfl, Nat.pow_pos (by omega)⟩
theorem law_bars_ok {net : List Th} (hn : net.length ≤ 12) {L : Nat} (hL : L ≤ 900) {tr : Int} {pg : List (Int × Int)} (hg : PgOk net.length pg) (hpl : pg.length ≤ 100) {fam : List Pr} (hf : fam.length ≤ 16000000) {S : Store} :
    W (d_x_law_bars [netD net, .int (L : Nat), .int tr, .tup (pg.map pgE), .lst (fam.map pD)] S) fun v S' => v = .bl (barsB (srOf net L tr pg) fam) ∧ S' = S := by
  have hnl := netsL_len (net := net)
  have hnu : ¬ netD net = VS.D.und := by simp [netD]
  have hvu : ¬ netsV net = VS.D.und := by simp [netsV]
  unfold d_x_law_bars s_x_law_bars
  rw [W_def]
  simp only [List.length_cons, List.length_nil, Nat.reduceAdd, Nat.reduceSub, List.replicate_succ, List.replicate_zero, List.cons_append, List.nil_append]
  have hM : 2 ^ net.length ≤ 4096 := Nat.pow_le_pow_right (by omega) (show net.length ≤ 12 by omega)
  have hpos : 0 < 2 ^ net.length := Nat.pow_pos (by omega)
  have hqn : (srOf net L tr pg).n = net.length := rfl
  have hqL : (srOf net L tr pg).L = L := rfl
  generalize hb : barsB (srOf net L tr pg) fam = b
  unfold barsB at hb
  rw [hqn, hqL] at hb
  have hok : okq (.lst (fam.map pD)) = true := okq_lst fun d hd => by
    obtain ⟨x, _, rfl⟩ := List.mem_map.mp hd
    exact ⟨rfl, by simp [pD, VS.D.dep, depL]⟩
  have hne : eqb (.lst (fam.map pD)) (.lst []) = decide (fam = []) := by cases fam <;> rfl
  have hfu : ¬ VS.D.lst (fam.map pD) = VS.D.und := by simp
  rw [s_seq]; simp [-s_seq, hnu]
  rw [show dLen (netD net) = dLen (.tup (net.map Th.d)) from rfl]
  simp [-s_seq]
  refine ⟨by omega, ?_⟩
  have first : ∀ (B : Bool → Store → Prop), B (decide (L < net.length ∧ fam = [])) S → W (tAnd' (tBin dEq (eVar 4) (eLst aNil)) (tBin dGt (eCall (f1 dLen) (aCons (eVar 0) aNil)) (eVar 1)) [netD net, .int (L : Nat), .int tr, .tup (pg.map pgE), .lst (fam.map pD), .int (2 ^ net.length - 1), .und, .und, .und, .und, .und] S) B := fun B hB => by
    simp [hnu]
    refine ⟨hok, ?_⟩
    rw [hne]
    by_cases c : fam = []
    · rw [decide_eq_true c, if_pos rfl]
      rw [show dLen (netD net) = dLen (.tup (net.map Th.d)) from rfl]
      simp
      simpa [c] using hB
    · rw [decide_eq_false c, if_neg (by simp)]
      simpa [c] using hB
  rw [s_seq, s_if]
  refine first _ ?_
  by_cases hA : L < net.length ∧ fam = []
  · rw [if_pos (decide_eq_true hA)]
    rw [if_pos hA] at hb
    simp [← hb]
  rw [if_neg (by simpa using hA), s_next]
  rw [if_neg hA] at hb
  rw [s_seq]; simp [-s_seq, hnu]
  refine (law_nets_ok hn).mono fun v S2 hv => ?_
  obtain ⟨rfl, rfl⟩ := hv
  rw [show VS.D.lst ((netsL net).map pairD) = netsV net from rfl]
  rw [s_seq]; simp [-s_seq, hfu]
  refine comp_each pD (fun x => .tup [pD x, .bl true]) fam ?_ (by simp only [szv]; omega) ?_
  · intro x hx
    simp [szv, pD]
  rw [dict_P]
  have hz : VS.D.tup [.int 0, .int 0] = pD (0, 0) := rfl
  have hgl : VS.D.tup [.int (L : Nat), .int (2 ^ net.length - 1)] = pD ((L : Int), 2 ^ net.length - 1) := rfl
  have second : ∀ (B : Bool → Store → Prop) (x8 x9 x10 : VS.D), B (decide ((0, 0) ∉ fam ∨ (net.length ≤ L ∧ ((L : Int), (2 ^ net.length - 1 : Int)) ∈ fam))) S2 →
      W (tOr' (tBin dNotIn (eTup (aCons (eC (.int 0)) (aCons (eC (.int 0)) aNil))) (eVar 7)) (tAnd' (tBin dLe (eCall (f1 dLen) (aCons (eVar 0) aNil)) (eVar 1)) (tBin dIn (eTup (aCons (eVar 1) (aCons (eVar 5) aNil))) (eVar 7))) [netD net, .int (L : Nat), .int tr, .tup (pg.map pgE), .lst (fam.map pD), .int (2 ^ net.length - 1), netsV net, .dic true ((dedP fam).map tP), x8, x9, x10] S2) B := fun B x8 x9 x10 hB => by
    simp [hnu]
    rw [hz, in_P]
    refine ⟨by simp [szv], ?_⟩
    rw [WG_some]
    by_cases c : (0, 0) ∈ fam
    · rw [show decide ((0, 0) ∈ dedP fam) = true from decide_eq_true (dedP_mem.mpr c)]
      simp
      rw [show dLen (netD net) = dLen (.tup (net.map Th.d)) from rfl]
      simp
      by_cases c2 : net.length ≤ L
      · rw [if_pos c2]
        refine ⟨by simp [szv], ?_⟩
        rw [hgl, in_P, WG_some]
        have e : decide (((L : Int), (2 ^ net.length - 1 : Int)) ∈ dedP fam) = decide ((0, 0) ∉ fam ∨ (net.length ≤ L ∧ ((L : Int), (2 ^ net.length - 1 : Int)) ∈ fam)) := by
          rw [decide_eq_decide, dedP_mem]
          simp [c, c2]
        rw [e]
        exact hB
      · rw [if_neg c2]
        simpa [c, c2] using hB
    · rw [show decide ((0, 0) ∈ dedP fam) = false from decide_eq_false fun h => c (dedP_mem.mp h)]
      simpa [c] using hB
  rw [s_seq, s_if]
  refine second _ _ _ _ ?_
  by_cases hB : (0, 0) ∉ fam ∨ (net.length ≤ L ∧ ((L : Int), (2 ^ net.length - 1 : Int)) ∈ fam)
  · rw [if_pos (decide_eq_true hB)]
    rw [if_pos hB] at hb
    simp [← hb]
  rw [if_neg (by simpa using hB), s_next]
  rw [if_neg hB] at hb
  have hin : ∀ y : Pr, inB (pD y) (.dic true ((dedP fam).map tP)) = some (decide (y ∈ fam)) := fun y => by
    rw [in_P, decide_eq_decide.mpr dedP_mem]
  rw [s_seq]; simp [-s_seq, hfu]
  generalize hF : VS.D.dic true ((dedP fam).map tP) = F at hin
  have hFu : ¬ F = VS.D.und := by rw [← hF]; simp
  refine WS_for (fun rest ρ S3 => S3 = S2 ∧ ∃ (rs : List Pr) (x8 x9 x10 : VS.D), rest = rs.map pD ∧ rs.all (stgOk (srOf net L tr pg) fam) = b ∧ ρ = [netD net, .int (L : Nat), .int tr, .tup (pg.map pgE), .lst (fam.map pD), .int (2 ^ net.length - 1), netsV net, F, x8, x9, x10]) ?_ ?_ _ _ _ ⟨rfl, fam, .und, .und, .und, rfl, hb, rfl⟩
  · rintro d ds ρ S3 ⟨rfl, rs, x8, x9, x10, e1, e2, rfl⟩
    cases rs with
    | nil => cases e1
    | cons x rs =>
      rw [List.map_cons] at e1
      obtain ⟨rfl, rfl⟩ := List.cons.inj e1
      rw [List.all_cons] at e2
      have hsk : ¬ (0 ≤ x.1 ∧ x.1 < (L : Int) ∧ 0 ≤ x.2 ∧ x.2 ≤ 2 ^ net.length - 1 ∧ (pcb net.length x.2.toNat : Int) ≤ x.1) → ∃ rs_1 : List Pr, rs.map pD = rs_1.map pD ∧ rs_1.all (stgOk (srOf net L tr pg) fam) = b := fun h => by
        have : stgOk (srOf net L tr pg) fam x = true := by unfold stgOk; rw [hqn, hqL, if_neg h]
        rw [this, Bool.true_and] at e2
        exact ⟨rs, rfl, e2⟩
      simp [pD]
      by_cases c1 : 0 ≤ x.1
      case neg => rw [if_neg c1]; exact hsk fun z => c1 z.1
      by_cases c2 : x.1 < (L : Int)
      case neg => rw [if_pos c1, if_neg c2]; exact hsk fun z => c2 z.2.1
      by_cases c3 : 0 ≤ x.2
      case neg => rw [if_pos c1, if_pos c2, if_neg c3]; exact hsk fun z => c3 z.2.2.1
      by_cases c4 : x.2 ≤ 2 ^ net.length - 1
      case neg => rw [if_pos c1, if_pos c2, if_pos c3, if_neg c4]; exact hsk fun z => c4 z.2.2.2.1
      rw [if_pos c1, if_pos c2, if_pos c3, if_pos c4]
      have hmlt : x.2.toNat < 2 ^ net.length := by
        have : ((2 ^ net.length : Nat) : Int) = 2 ^ net.length := by simp
        omega
      have hx2 : x.2 = ((x.2.toNat : Nat) : Int) := (Int.toNat_of_nonneg c3).symm
      have hx1 : x.1 = ((x.1.toNat : Nat) : Int) := (Int.toNat_of_nonneg c1).symm
      have hsz := law_size_ok (n := net.length) (by omega) hmlt (S := S3)
      rw [← hx2] at hsz
      refine hsz.mono fun v S4 hv => ?_
      obtain ⟨rfl, rfl⟩ := hv
      by_cases c5 : (pcb net.length x.2.toNat : Int) ≤ x.1
      case neg => simp [c5]; exact hsk fun z => c5 z.2.2.2.2
      simp [c5, hnu, hvu]
      refine ⟨by simp [szv], ?_⟩
      have hnx := steps_ok hn (L := L) (tr := tr) hg hpl hmlt (s := x.1.toNat) (S := S4)
      rw [← hx1, ← hx2] at hnx
      refine hnx.mono fun v S5 hv => ?_
      obtain ⟨rfl, rfl⟩ := hv
      rw [p_iterL, WG_some]
      have hst : stgOk (srOf net L tr pg) fam x = (((srOf net L tr pg).nxt (x.1.toNat, x.2.toNat)).map fun p => ((x.1.toNat + 1, p.2) : Stg)).all fun y => decide (((y.1 : Int), (y.2 : Int)) ∈ fam) := by
        unfold stgOk
        rw [hqn, hqL, if_pos ⟨c1, c2, c3, c4, c5⟩, List.all_map]
        rfl
      rw [hst] at e2
      generalize ((srOf net L tr pg).nxt (x.1.toNat, x.2.toNat)).map (fun p => ((x.1.toNat + 1, p.2) : Stg)) = ys at e2
      refine WS_for (fun rest ρ S6 => S6 = S5 ∧ ∃ (ws : List Stg) (y10 : VS.D), rest = ws.map stE ∧ ((ws.all fun y => decide (((y.1 : Int), (y.2 : Int)) ∈ fam)) && rs.all (stgOk (srOf net L tr pg) fam)) = b ∧
        ρ = [netD net, .int (L : Nat), .int tr, .tup (pg.map pgE), .lst (fam.map pD), .int (2 ^ net.length - 1), netsV net, F, .int x.1, .int x.2, y10]) ?_ ?_ _ _ _ ⟨rfl, ys, _, rfl, e2, rfl⟩
      · rintro d ds ρ S6 ⟨rfl, ws, y10, f1, f2, rfl⟩
        cases ws with
        | nil => cases f1
        | cons w ws =>
          rw [List.map_cons] at f1
          obtain ⟨rfl, rfl⟩ := List.cons.inj f1
          rw [List.all_cons] at f2
          have hwu : ¬ stE w = VS.D.und := by simp [stE]
          simp [hwu, hFu]
          rw [show stE w = pD ((w.1 : Int), (w.2 : Int)) from rfl, hin, WG_some]
          by_cases c : ((w.1 : Int), (w.2 : Int)) ∈ fam
          · rw [decide_eq_true c] at f2 ⊢
            simp at f2 ⊢
            exact ⟨ws, rfl, f2⟩
          · rw [decide_eq_false c] at f2 ⊢
            simp at f2 ⊢
            exact f2
      · rintro ρ S6 ⟨rfl, ws, y10, f1, f2, rfl⟩
        cases ws with
        | cons w ws => cases f1
        | nil =>
          simp at f2
          exact ⟨rfl, rs, rfl, by rw [← f2], _, _, _, rfl⟩
  · rintro ρ S3 ⟨rfl, rs, x8, x9, x10, e1, e2, rfl⟩
    cases rs with
    | cons x rs => cases e1
    | nil => simp [← e2]
end WK
namespace WK
open PySem PySem.Spec PyProof.Rows L2 VS
theorem law_ok {cells : List Int} : W (d_law [.scr (cells.map .int)] []) fun v _ => v = .bl true := by
  unfold d_law s_law
  rw [W_def]
  simp only [List.length_cons, List.length_nil, Nat.reduceAdd, Nat.reduceSub, List.replicate_succ, List.replicate_zero, List.cons_append, List.nil_append]
  rw [s_seq]; simp [-s_seq]
  refine box_ok.mono fun v S hb => ?_
  obtain ⟨hb, rfl⟩ := hb
  have hS : By [] [v] := ⟨v, rfl, hb⟩
  rw [s_seq]; simp [-s_seq]
  refine (some_net_ok (mi := 2) (mc := 4) (mo := 2) (by omega) (by omega) (by omega) hS).mono fun v S1 ⟨⟨ins, kept, cells', outs, B, B', C, net, hv, hm⟩, hS⟩ => ?_
  subst hv
  have hn := hm.netOk (by omega)
  have hlen := hn.len
  clear hm
  have hnu : ¬ netD net = VS.D.und := by simp [netD]
  rw [s_seq]; simp [-s_seq, hnu]
  rw [show dLen (netD net) = dLen (.tup (net.map Th.d)) from rfl]
  simp [-s_seq]
  refine (take_ok (m := 2) (by omega) (by omega) hS).mono fun v S2 ⟨r1, hv, ha0, ha1, hS⟩ => ?_
  subst hv
  simp [-s_seq]
  refine (take_ok (m := 5) (by omega) (by omega) hS).mono fun v S3 ⟨r2, hv, hb0, hb1, hS⟩ => ?_
  subst hv
  simp [-s_seq]
  refine ⟨by simp [szv], ?_⟩
  refine (take_ok (m := 2) (by omega) (by omega) hS).mono fun v S4 ⟨r3, hv, hc0, hc1, hS⟩ => ?_
  subst hv
  simp [-s_seq]
  obtain ⟨x3, hx3, hat⟩ : ∃ x3 : Int, (0 ≤ x3 ∧ x3 ≤ 20) ∧ atI [VS.D.int ((net.length : Int) + r1), .int (2 + r2)] r3 = some (.int x3) := by
    have : r3 = 0 ∨ r3 = 1 := by omega
    rcases this with e | e <;> rw [e]
    · exact ⟨_, ⟨by omega, by omega⟩, rfl⟩
    · exact ⟨_, ⟨by omega, by omega⟩, rfl⟩
  rw [hat]
  simp [-s_seq]
  rw [s_seq]; simp [-s_seq]
  obtain ⟨L, hLe, hL1, hL2⟩ : ∃ L : Nat, (if (1 : Int) < (if (8 : Int) < x3 then 8 else x3) then (if (8 : Int) < x3 then 8 else x3) else 1) = (L : Int) ∧ 1 ≤ L ∧ L ≤ 8 := by
    refine ⟨(if (1 : Int) < (if (8 : Int) < x3 then 8 else x3) then (if (8 : Int) < x3 then 8 else x3) else 1).toNat, ?_, ?_, ?_⟩ <;> repeat' split <;> omega
  rw [hLe]
  clear hLe hat
  rw [s_seq]; simp [-s_seq, hnu]
  refine (law_pegs_ok hlen (L := L) (by omega) hS).mono fun v S5 ⟨pg0, x, hv, hpg0, hS⟩ => ?_
  subst hv
  rw [show dLen (netD net) = dLen (.tup (net.map Th.d)) from rfl]
  simp [-s_seq]
  obtain ⟨pg, hpg, hmu⟩ : ∃ pg, Pegs net.length L pg ∧ dMulE (.tup (pg0.map pgE)) (.int (if net.length ≤ L then 1 else 0)) S5 = .ok (.tup (pg.map pgE)) S5 := by
    by_cases c : net.length ≤ L
    · rw [if_pos c]
      exact ⟨pg0, hpg0, rfl⟩
    · rw [if_neg c]
      exact ⟨[], ⟨pg_nil, by simp, by simp⟩, rfl⟩
  rw [hmu, W_ok]
  clear hmu hpg0
  have hpl : pg.length ≤ 100 := by have := hpg.len; omega
  rw [s_seq]; simp [-s_seq]
  refine (take_ok (m := 4) (by omega) (by omega) hS).mono fun v S6 ⟨tr, hv, ht0, ht1, hS⟩ => ?_
  subst hv
  rw [s_seq]; simp [-s_seq, hnu]
  refine (placed_gen (L := L) (tr := tr) (pg := pg) hlen (by omega) hpg.ok hpg.sl hpl).mono fun v S7 ⟨hv, hS7⟩ => ?_
  subst hS7
  obtain ⟨tag, d1, rfl, hd1, hbar⟩ : ∃ (tag : T) (d1 : VS.D), v = .tup [.str tag, d1] ∧ d1 ≠ .und ∧ (tag = tBarredG → ∃ K : List Stg, d1 = .lst (K.map stE) ∧ K.length ≤ 90000) := by
    rcases hv with ⟨P, rfl, _⟩ | ⟨_, K, rfl, hK⟩
    · exact ⟨_, _, rfl, by simp, fun h => by cases h⟩
    · refine ⟨_, _, rfl, by simp, fun _ => ⟨K, rfl, ?_⟩⟩
      rcases hK with ⟨_, rfl⟩ | hK
      · simp
      · have hM : (L + 1) * 2 ^ net.length ≤ 86016 := by
          have h1 : 2 ^ net.length ≤ 2 ^ 12 := Nat.pow_le_pow_right (by omega) hlen
          have h2 : (L + 1) * 2 ^ net.length ≤ 21 * 2 ^ 12 := Nat.mul_le_mul (by omega) h1
          exact Nat.le_trans h2 (by decide)
        have := known_len (q := srOf net L tr pg) hpg.ok hK.nd hK.rch hK.len
        have : K.length ≤ (L + 1) * 2 ^ net.length := this
        omega
  clear hv
  rw [s_seq]; simp [-s_seq, hnu]
  refine (reached_law_ok hlen (by omega) hpg.ok hpl).mono fun v S8 ⟨⟨K, hv, hK⟩, hS8⟩ => ?_
  subst hv hS8
  refine ⟨by simp [szv], by simp [szv], ?_⟩
  refine ⟨by simp [szv], ?_⟩
  refine (take_ok (m := 3) (by omega) (by omega) hS).mono fun v S9 ⟨r4, hv, hd0, hd1', hS⟩ => ?_
  subst hv
  simp [-s_seq]
  obtain ⟨fam0, hf0, hat⟩ : ∃ fam : List Pr, fam.length ≤ 90000 ∧ atI [VS.D.lst (K.map stE), .lst [.tup [.int 0, .int 0]]] (r4 / 2) = some (.lst (fam.map pD)) := by
    have : r4 / 2 = 0 ∨ r4 / 2 = 1 := by omega
    rcases this with e | e <;> rw [e]
    · refine ⟨K.map fun x => ((x.1 : Int), (x.2 : Int)), by simpa using hK, ?_⟩
      rw [List.map_map]
      rfl
    · exact ⟨[(0, 0)], by simp, rfl⟩
  rw [hat, WG_some]
  clear hat
  -- the family that is bent
  have second : ∀ (N : List VS.D → Store → Prop) (R : VS.D → Store → Prop) (x8 x9 x10 x11 x12 x13 x14 : VS.D), (∀ (fam : List Pr) (S' : Store), fam.length ≤ 90000 → By ([] ++ [x]) S' → N [.scr (cells.map .int), .ref 0, netD net, .int (L : Nat), .tup (pg.map pgE), .int tr, .tup [.str tag, d1], .lst (fam.map pD), x8, x9, x10, x11, x12, x13, x14] S') →
      WS (sIf (tAnd' (tBin dEq (eBin dIx (eVar 6) (eC (.int 0))) (eC (.str [98, 97, 114, 114, 101, 100]))) (tBin dEq (eCall d_x_law_take (aCons (eVar 1) (aCons (eC (.int 2)) aNil))) (eC (.int 0))))
        (sSet 7 (eCall (f1 fList) (aCons (eBin dIx (eVar 6) (eC (.int 1))) aNil))) sNext [.scr (cells.map .int), .ref 0, netD net, .int (L : Nat), .tup (pg.map pgE), .int tr, .tup [.str tag, d1], .lst (fam0.map pD), x8, x9, x10, x11, x12, x13, x14] S9) N R := fun N R x8 x9 x10 x11 x12 x13 x14 hN => by
    simp
    by_cases c : tag = tBarredG
    · obtain ⟨K2, rfl, hK2⟩ := hbar c
      subst c
      simp
      refine (take_ok (m := 2) (by omega) (by omega) hS).mono fun v S11 ⟨r5, hv, hr0, hr1, hS⟩ => ?_
      subst hv
      simp
      by_cases c5 : r5 = 0
      · rw [if_pos c5]
        have := hN (K2.map fun x => ((x.1 : Int), (x.2 : Int))) S11 (by simpa using hK2) hS
        rw [List.map_map] at this
        exact this
      · rw [if_neg c5]
        exact hN fam0 S11 hf0 hS
    · rw [if_neg c]
      exact hN fam0 S9 hf0 hS
  rw [s_seq]
  refine second _ _ _ _ _ _ _ _ _ fun fam S10 hfl hS => ?_
  rw [s_seq]; simp [-s_seq]
  refine WS_for (fun rest ρ S => ∃ (m : Nat) (fam : List Pr) (x8 x9 x10 x11 x12 x13 x14 : VS.D), rest.length = m ∧ m ≤ 4 ∧ fam.length + m ≤ 90004 ∧ By ([] ++ [x]) S ∧ ρ = [.scr (cells.map .int), .ref 0, netD net, .int (L : Nat), .tup (pg.map pgE), .int tr, .tup [.str tag, d1], .lst (fam.map pD), x8, x9, x10, x11, x12, x13, x14]) ?_ ?_ _ _ _ ⟨4, fam, .und, .und, .und, .und, .und, .und, .und, by simp, by omega, by omega, hS, rfl⟩
  · rintro d ds ρ S11 ⟨m, fam, x8, x9, x10, x11, x12, x13, x14, e1, e2, e3, hS, rfl⟩
    simp only [g_name, WG_some]
    have hfu : ¬ VS.D.lst (fam.map pD) = VS.D.und := by simp
    have hfl2 : fam.length ≤ 90004 := by omega
    have hok : okq (.lst (fam.map pD)) = true := okq_lst fun d hd => by
      obtain ⟨x, _, rfl⟩ := List.mem_map.mp hd
      exact ⟨rfl, by simp [pD, VS.D.dep, depL]⟩
    have heq : eqb (.lst (fam.map pD)) (.lst (fam.map pD)) = true := eqb_refl _ (by
      show plainL (fam.map pD) = true
      exact plainL_of fun d hd => by
        obtain ⟨x, _, rfl⟩ := List.mem_map.mp hd
        rfl)
    rw [s_seq]; simp [-s_seq, hfu]
    rw [s_seq]; simp [-s_seq, hfu, hnu]
    refine (law_bars_ok hlen (L := L) (tr := tr) (pg := pg) (by omega) hpg.ok hpl (fam := fam) (by omega)).mono fun v S12 hv => ?_
    obtain ⟨rfl, rfl⟩ := hv
    rw [s_seq]; simp [-s_seq, hfu, hnu]
    refine (bars_gen hlen (L := L) (tr := tr) (pg := pg) (by omega) hpg.ok hpl (fam := fam) (by omega)).mono fun v S13 hv => ?_
    obtain ⟨rfl, rfl⟩ := hv
    refine (same_ok 7 (.bl (barsB (srOf net L tr pg) fam)) S13 trivial).mono fun v S14 hv => ?_
    obtain ⟨rfl, rfl⟩ := hv
    simp [-s_seq, truB, hok, heq]
    rw [s_seq]; simp [-s_seq, hfu]
    refine (take_ok (m := (fam.length : Int) + 1) (by omega) (by omega) hS).mono fun v S15 ⟨at', hv, ha0', ha1', hS⟩ => ?_
    subst hv
    rw [s_seq]; simp [-s_seq]
    refine (take_ok (m := 9) (by omega) (by omega) hS).mono fun v S16 ⟨w1, hv, hw0, hw1, hS⟩ => ?_
    subst hv
    simp [-s_seq, hnu]
    rw [show dLen (netD net) = dLen (.tup (net.map Th.d)) from rfl]
    simp [-s_seq]
    refine ⟨by omega, ?_⟩
    have hM : 2 ^ net.length ≤ 4096 := Nat.pow_le_pow_right (by omega) hlen
    have hpos : 0 < 2 ^ net.length := Nat.pow_pos (by omega)
    have hMi : ((2 ^ net.length : Nat) : Int) = 2 ^ net.length := by simp
    refine (take_ok (m := 2 ^ net.length) (by omega) (by omega) hS).mono fun v S17 ⟨w2, hv, hv0, hv1, hS⟩ => ?_
    subst hv
    refine ⟨by simp [szv], ?_⟩
    rw [s_seq]; simp [-s_seq, hnu]
    rw [show dLen (netD net) = dLen (.tup (net.map Th.d)) from rfl]
    simp [-s_seq]
    refine ⟨by simp [szv], by omega, by simp [szv], by simp [szv], ?_⟩
    rw [s_seq]; simp [-s_seq]
    refine ⟨by simp [szv], by simp [szv], ?_⟩
    refine (take_ok (m := 7) (by omega) (by omega) hS).mono fun v S18 ⟨r6, hv, hr60, hr61, hS⟩ => ?_
    subst hv
    obtain ⟨ex, hex⟩ : ∃ ex : Pr, atI [VS.D.tup [.int w1, .int w2], .tup [.int L, .int (2 ^ net.length - 1)], .tup [.int (-1), .int (-5)], .tup [.int 100000000000000000000, .int 3], .tup [.int 0, .int 4096], .tup [.int w1, .int (-1 - w2)], .tup [.int w1, .int 4096]] r6 = some (pD ex) := by
      have : r6 = 0 ∨ r6 = 1 ∨ r6 = 2 ∨ r6 = 3 ∨ r6 = 4 ∨ r6 = 5 ∨ r6 = 6 := by omega
      rcases this with e | e | e | e | e | e | e <;> rw [e]
      · exact ⟨(w1, w2), rfl⟩
      · exact ⟨(L, 2 ^ net.length - 1), rfl⟩
      · exact ⟨(-1, -5), rfl⟩
      · exact ⟨(100000000000000000000, 3), rfl⟩
      · exact ⟨(0, 4096), rfl⟩
      · exact ⟨(w1, -1 - w2), rfl⟩
      · exact ⟨(w1, 4096), rfl⟩
    simp [hex]
    rw [cut_to (xs := fam.map pD) ha0', cut_from (xs := fam.map pD) ha0', cut_from (xs := fam.map pD) (i := at' + 1) (by omega), ← List.map_take, ← List.map_drop, ← List.map_drop]
    have hla : (fam.take at'.toNat).length ≤ 90004 := by rw [List.length_take]; omega
    have hlb : (fam.drop at'.toNat).length + (fam.take at'.toNat).length = fam.length := by rw [List.length_take, List.length_drop]; omega
    have hlc : (fam.drop (at' + 1).toNat).length + (fam.take at'.toNat).length ≤ fam.length := by rw [List.length_take, List.length_drop]; omega
    have hds : ds.length + 1 = m := by simpa using e1
    simp only [List.length_map]
    refine ⟨by simp [szv]; omega, by simp [pD], by simp [szv], by simp [szv]; omega, by simp [szv]; omega, by simp [szv], ?_⟩
    refine (take_ok (m := 2) (by omega) (by omega) hS).mono fun v S19 ⟨r7, hv, hr70, hr71, hS⟩ => ?_
    subst hv
    have : r7 = 0 ∨ r7 = 1 := by omega
    rcases this with e | e <;> subst e
    · simp
      refine ⟨by omega, fam.take at'.toNat ++ fam.drop (at' + 1).toNat, ?_, hS, ?_⟩
      · simp only [List.length_append]; omega
      · simp
    · simp
      refine ⟨by omega, fam.take at'.toNat ++ ex :: fam.drop at'.toNat, ?_, hS, ?_⟩
      · simp only [List.length_append, List.length_cons]; omega
      · simp
  · rintro ρ S11 ⟨m, fam, x8, x9, x10, x11, x12, x13, x14, e1, e2, e3, hS, rfl⟩
    simp
end WK
set_option maxHeartbeats 0
namespace HT
open PySem PySem.Spec PyProof.Rows L2
theorem tabFx {g : VS.Glo} {a : Addr} {x : PySem.Str} {kvs : List (PySem.Str × VS.Flat2)} (h : (∃ es n, KDict g.K g.w a es n) ∧ VS.dicV g.K a = some (kvs.map some)) (e : g.mg x = some (.ref a)) : VS.KTab g x kvs := by
  obtain ⟨⟨es, n, k⟩, d⟩ := h
  exact ⟨a, es, n, e, k, d⟩
theorem fnFx {g : VS.Glo} {x : PySem.Str} {st : Stmt} {a : Addr} (h : ∃ fd, WK.FnP g.K x st a fd) (e : g.mg x = some (.ref a)) : ∃ a fd, WK.FnP g.K x st a fd ∧ g.mg x = some (.ref a) := by
  obtain ⟨fd, F⟩ := h
  exact ⟨a, fd, F, e⟩
theorem fnFa {g : VS.Glo} {x y : PySem.Str} {st : Stmt} {a : Addr} (h : ∃ fd, WK.FnP g.K x st a fd) (e : g.mg y = some (.ref a)) : ∃ a fd, WK.FnP g.K x st a fd ∧ g.mg y = some (.ref a) := by
  obtain ⟨fd, F⟩ := h
  exact ⟨a, fd, F, e⟩
theorem fnFy {g : VS.Glo} {x : PySem.Str} {st : Stmt} {dvs : List V} {a : Addr} (h : ∃ fd, WK.FnQ g.K x st dvs a fd) (e : g.mg x = some (.ref a)) : ∃ a fd, WK.FnQ g.K x st dvs a fd ∧ g.mg x = some (.ref a) := by
  obtain ⟨fd, F⟩ := h
  exact ⟨a, fd, F, e⟩
theorem fx {P : Program} {w : World} {K : PySem.W.Frag} {h base : Heap} {mg : PySem.Str → Option Value} (X : K.In h) (G : h.Ns mainGlobals mg) (c : VS.SaysV fa fn tv w K) : WK.Fx ⟨P, w, K, mg, base⟩ where
  b_len := He.free_ok X G (c.t.d.fact 23 (f := .free "len") rfl)
  b_range := He.free_ok X G (c.t.d.fact 24 (f := .free "range") rfl)
  b_list := He.free_ok X G (c.t.d.fact 25 (f := .free "list") rfl)
  b_all := He.free_ok X G (c.t.d.fact 26 (f := .free "all") rfl)
  b_any := He.free_ok X G (c.t.d.fact 27 (f := .free "any") rfl)
  b_isinstance := He.free_ok X G (c.t.d.fact 28 (f := .free "isinstance") rfl)
  b_zip := He.free_ok X G (c.t.d.fact 29 (f := .free "zip") rfl)
  b_int := He.free_ok X G (c.t.d.fact 30 (f := .free "int") rfl)
  b_str := He.free_ok X G (c.t.d.fact 31 (f := .free "str") rfl)
  b_tuple := He.free_ok X G (c.t.d.fact 32 (f := .free "tuple") rfl)
  b_bool := He.free_ok X G (c.t.d.fact 34 (f := .free "bool") rfl)
  b_sorted := He.free_ok X G (c.t.d.fact 35 (f := .free "sorted") rfl)
  b_set := He.free_ok X G (c.t.d.fact 36 (f := .free "set") rfl)
  b_dict := He.free_ok X G (c.t.d.fact 37 (f := .free "dict") rfl)
  b_enumerate := He.free_ok X G (c.t.d.fact 38 (f := .free "enumerate") rfl)
  b_min := He.free_ok X G (c.t.d.fact 39 (f := .free "min") rfl)
  b_max := He.free_ok X G (c.t.d.fact 40 (f := .free "max") rfl)
  b_sum := He.free_ok X G (c.t.d.fact 41 (f := .free "sum") rfl)
  f_nets := fnFx (c.t.d.def_ 0 (d := d_nets) rfl) (He.glo_ok X G (c.t.d.fact 0 (f := .glo "nets") rfl))
  f_masks := fnFx (c.t.d.def_ 1 (d := d_masks) rfl) (He.glo_ok X G (c.t.d.fact 1 (f := .glo "masks") rfl))
  f_load_between := fnFx (c.t.d.def_ 2 (d := d_load_between) rfl) (He.glo_ok X G (c.t.d.fact 2 (f := .glo "load_between") rfl))
  f_choices := fnFx (c.t.d.def_ 3 (d := d_choices) rfl) (He.glo_ok X G (c.t.d.fact 3 (f := .glo "choices") rfl))
  f_next_sets := fnFx (c.t.d.def_ 4 (d := d_next_sets) rfl) (He.glo_ok X G (c.t.d.fact 4 (f := .glo "next_sets") rfl))
  f_placing_back := fnFx (c.t.d.def_ 5 (d := d_placing_back) rfl) (He.glo_ok X G (c.t.d.fact 5 (f := .glo "placing_back") rfl))
  f_size_of := fnFx (c.t.d.def_ 6 (d := d_size_of) rfl) (He.glo_ok X G (c.t.d.fact 6 (f := .glo "size_of") rfl))
  f_reached := fnFx (c.t.d.def_ 7 (d := d_reached) rfl) (He.glo_ok X G (c.t.d.fact 7 (f := .glo "reached") rfl))
  f_placed := fnFx (c.t.d.def_ 8 (d := d_placed) rfl) (He.glo_ok X G (c.t.d.fact 8 (f := .glo "placed") rfl))
  f_bars := fnFx (c.t.d.def_ 9 (d := d_bars) rfl) (He.glo_ok X G (c.t.d.fact 9 (f := .glo "bars") rfl))
  f_x_law_box := fnFx (c.t.d.def_ 10 (d := d__law_box) rfl) (He.glo_ok X G (c.t.d.fact 10 (f := .glo "_law_box") rfl))
  f_x_law_take := fnFx (c.t.d.def_ 11 (d := d__law_take) rfl) (He.glo_ok X G (c.t.d.fact 11 (f := .glo "_law_take") rfl))
  f_x_law_same := fnFx (c.t.d.def_ 12 (d := d__law_same) rfl) (He.glo_ok X G (c.t.d.fact 12 (f := .glo "_law_same") rfl))
  f_x_law_names := fnFx (c.t.d.def_ 13 (d := d__law_names) rfl) (He.glo_ok X G (c.t.d.fact 13 (f := .glo "_law_names") rfl))
  f_x_law_bits := fnFx (c.t.d.def_ 14 (d := d__law_bits) rfl) (He.glo_ok X G (c.t.d.fact 14 (f := .glo "_law_bits") rfl))
  f_x_law_some_net := fnFx (c.t.d.def_ 15 (d := d__law_some_net) rfl) (He.glo_ok X G (c.t.d.fact 15 (f := .glo "_law_some_net") rfl))
  f_x_law_nets := fnFx (c.t.d.def_ 16 (d := d__law_nets) rfl) (He.glo_ok X G (c.t.d.fact 16 (f := .glo "_law_nets") rfl))
  f_x_law_pegs := fnFx (c.t.d.def_ 17 (d := d__law_pegs) rfl) (He.glo_ok X G (c.t.d.fact 17 (f := .glo "_law_pegs") rfl))
  f_x_law_steps := fnFx (c.t.d.def_ 18 (d := d__law_steps) rfl) (He.glo_ok X G (c.t.d.fact 18 (f := .glo "_law_steps") rfl))
  f_x_law_size := fnFx (c.t.d.def_ 19 (d := d__law_size) rfl) (He.glo_ok X G (c.t.d.fact 19 (f := .glo "_law_size") rfl))
  f_x_law_reached := fnFx (c.t.d.def_ 20 (d := d__law_reached) rfl) (He.glo_ok X G (c.t.d.fact 20 (f := .glo "_law_reached") rfl))
  f_x_law_bars := fnFx (c.t.d.def_ 21 (d := d__law_bars) rfl) (He.glo_ok X G (c.t.d.fact 21 (f := .glo "_law_bars") rfl))
  f_law := fnFx (c.t.d.def_ 22 (d := d_law) rfl) (He.glo_ok X G (c.t.d.fact 22 (f := .glo "law") rfl))
theorem d_law_at {w : World} {K : PySem.W.Frag} (c : VS.SaysV fa fn tv w K) : ∃ fd, WK.FnP K "law" (WK.top 25) (He.ga K "law") fd := c.t.d.def_ 22 (d := d_law) rfl
end HT
open PySem PySem.W PySem.Calls PyProof.Rows
theorem PySem.Challenge.cw_tracklay_k15_families_judged_holds : PySem.Challenge.rw_tracklay_k15_families_judged.Holds := by
  w_on; o_law
  refine HandSHeadRun.head_any (r := OpenLaw.row PySem.Challenge.rw_tracklay_k15_families_judged) (q := view (OpenLaw.row PySem.Challenge.rw_tracklay_k15_families_judged).prog [25]) (H := HT.hk) (ob := HT.ob) (M := 12000) (loose := HT.loose) (d := HandSHeadRun.topDef (OpenLaw.row PySem.Challenge.rw_tracklay_k15_families_judged).prog 25) (kwd := []) HT.ob_eq
    (by kernel_rfl) (fun s => by kernel_rfl) HT.run (by kernel_rfl) (by kernel_rfl) (by kernel_rfl) (by rfl) (by first | assumption | decide +kernel) (by decide +kernel) ⟨rfl, rfl, rfl, rfl, rfl, by decide +kernel⟩ ?hw ?hc
  case hw => w_witness2
  case hc =>
    refine VS.walk_ofV (l := PySem.Challenge.rw_tracklay_k15_families_judged) (n := 63) (k := 9) (x := "_law_script") (fr := false) (pu := false) (f := WK.d_law) rfl (by decide) (by kernel_rfl) ⟨rfl, by decide, by decide⟩ ?F fun ns => ?L
    case F =>
      intro w mg fa_ h Y G hmg0
      obtain ⟨K, ⟨KX, nl⟩, c⟩ := Y
      have hmg : mg ("law" : PySem.Str) = some (.ref fa_) := by
        have e : (HandSHeadRun.topDef (OpenLaw.row PySem.Challenge.rw_tracklay_k15_families_judged).prog 25).name = ("law" : PySem.Str) := by kernel_rfl
        rw [← e]
        exact hmg0
      obtain ⟨fd, F⟩ := HT.d_law_at c
      have e := hmg.symm.trans (He.glo_ok KX G (c.t.d.fact 22 (f := .glo "law") rfl))
      cases e
      have b := L2.FunD.bindsA (ps := ["_law_script"]) F fun _ _ _ _ _ _ us hl => match us, hl with | [_], _ => rfl
      exact ⟨K, fd, KX, nl, fun s u => b s [u] rfl, fun base kb gb => WK.fnok_law (HT.fx KX G c) F⟩
    case L =>
      obtain ⟨v, S, e, hv⟩ := WK.law_ok (cells := ns)
      exact ⟨S, by rw [e, hv]⟩
