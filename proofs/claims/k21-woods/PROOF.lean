import PyProof.Rows.All
import Wide.All
import OpenK.AllK
import Wide.FinOn
import HandS.ForMost
import HandS.ForExc
import HandS.Wide
import HandS.WideBits
import HandS.EndBits
import HandS.TupSets
import HandS.Strs
import HandS.Deep
import KE.SortData
import HandS.IsInst
import HandS.TupAny
import HandS.SetKeys
import HandS.SortInts
import HandS.Conv
import HandS.Walk
import HandS.TryOnly
import HandS.Small
import HandS.Style
import HandS.More
import HandS.WordsExc
import KE.BitLaws
import KE.OsArith
import PySem.Challenge.RW_roundsalone_k21_woods
set_option Elab.async false
set_option linter.all false
set_option maxRecDepth 100000
set_option maxHeartbeats 4000000
/-! TV1: tree values, how the abstract heap bears them. -/
namespace TV
open PySem PySem.Spec PyProof.Rows L2

/-- a tree value; the flag of a list, tuple, dict: its holder alone has it. scr: the script; lkd: a dict held alone while it is walked -/
inductive T where
  | non | bl (b : Bool) | int (i : Int) | str (s : Str)
  | lst (o : Bool) (xs : List T)
  | tup (o : Bool) (xs : List T)
  | dic (o : Bool) (ks : List Key) (xs : List T)
  | dit (o : Bool) (ks : List (List Key)) (xs : List T)
  | lkd (ks : List Key) (xs : List T)
  | scr (ns : List Int)

abbrev Slots := List (Option T)
abbrev Sg := List (Option V)

/-! no longer held alone, to the last -/
mutual
def frz : T → T
  | .lst _ xs => .lst false (frzs xs)
  | .tup _ xs => .tup false (frzs xs)
  | .dic _ ks xs => .dic false ks (frzs xs)
  | .dit _ ks xs => .dit false ks (frzs xs)
  | .lkd ks xs => .lkd ks xs
  | .non => .non
  | .bl b => .bl b
  | .int i => .int i
  | .str s => .str s
  | .scr ns => .scr ns
def frzs : List T → List T
  | [] => []
  | t :: ts => frz t :: frzs ts
end
theorem frzs_map : ∀ xs : List T, frzs xs = xs.map frz
  | [] => rfl
  | t :: ts => by rw [frzs, frzs_map ts, List.map_cons]
/-! nothing in it is held alone -/
mutual
def shr : T → Bool
  | .lst o xs => !o && shrs xs
  | .tup o xs => !o && shrs xs
  | .dic o _ xs => !o && shrs xs
  | .dit o _ xs => !o && shrs xs
  | .lkd _ _ => false
  | .non => true
  | .bl _ => true
  | .int _ => true
  | .str _ => true
  | .scr _ => true
def shrs : List T → Bool
  | [] => true
  | t :: ts => shr t && shrs ts
end
theorem shrs_all : ∀ xs : List T, shrs xs = xs.all shr
  | [] => rfl
  | t :: ts => by rw [shrs, shrs_all ts, List.all_cons]
/-! all of it is held alone -/
mutual
def cln : T → Bool
  | .lst o xs => o && clns xs
  | .tup o xs => o && clns xs
  | .dic o _ xs => o && clns xs
  | .dit o _ xs => o && clns xs
  | .lkd _ _ => false
  | .non => true
  | .bl _ => true
  | .int _ => true
  | .str _ => true
  | .scr _ => false
def clns : List T → Bool
  | [] => true
  | t :: ts => cln t && clns ts
end
theorem clns_all : ∀ xs : List T, clns xs = xs.all cln
  | [] => rfl
  | t :: ts => by rw [clns, clns_all ts, List.all_cons]
def isOwn : T → Bool
  | .lst o _ => o
  | .tup o _ => o
  | .dic o _ _ => o
  | .dit o _ _ => o
  | .lkd _ _ => true
  | _ => false
def isLkd : T → Bool
  | .lkd _ _ => true
  | _ => false
theorem isLkd_frz (t : T) : isLkd (frz t) = isLkd t := by cases t <;> rfl
mutual
theorem frz_shr : ∀ t : T, shr t = true → frz t = t
  | .lst o xs, h => by
    simp only [shr, Bool.and_eq_true, Bool.not_eq_true'] at h
    rw [frz, frzs_shr xs h.2, h.1]
  | .tup o xs, h => by
    simp only [shr, Bool.and_eq_true, Bool.not_eq_true'] at h
    rw [frz, frzs_shr xs h.2, h.1]
  | .dic o ks xs, h => by
    simp only [shr, Bool.and_eq_true, Bool.not_eq_true'] at h
    rw [frz, frzs_shr xs h.2, h.1]
  | .dit o ks xs, h => by
    simp only [shr, Bool.and_eq_true, Bool.not_eq_true'] at h
    rw [frz, frzs_shr xs h.2, h.1]
  | .lkd _ _, _ => rfl
  | .non, _ => rfl
  | .bl _, _ => rfl
  | .int _, _ => rfl
  | .str _, _ => rfl
  | .scr _, _ => rfl
theorem frzs_shr : ∀ xs : List T, shrs xs = true → frzs xs = xs
  | [], _ => rfl
  | t :: ts, h => by
    simp only [shrs, Bool.and_eq_true] at h
    rw [frzs, frz_shr t h.1, frzs_shr ts h.2]
end

abbrev Fb := Addr → Prop
abbrev okS (s : Str) : Prop := PyData.strOk s = true

/-- a list of the module's own -/
def KLst (K : PySem.W.Frag) (a : Addr) (xs : List V) : Prop :=
  ∃ (o : Obj) (its : Array Value) (n : Nat), K.lookup a = some o ∧ o.cls = .type "list" ∧ o.dict = none ∧ o.data = .seq its n ∧ its.size ≤ sizeLine ∧ Vals xs its.toList
/-- the script, that stays as it is -/
def ScrL (K : PySem.W.Frag) (H : Hp) (Z : Fb) (ns : List Int) (v : V) : Prop :=
  ∃ a, v = .ref a ∧ (((∃ o, H a = some (.frz o (.lst (ns.map V.int)))) ∧ ¬ Z a) ∨ KLst K a (ns.map V.int))

/-! ### what may be read -/
mutual
def RepS (K : PySem.W.Frag) (H : Hp) (Z : Fb) : T → V → Prop
  | .non, v => v = .non
  | .bl b, v => v = .bl b
  | .int i, v => v = .int i
  | .str s, v => v = .str s ∧ okS s
  | .scr ns, v => ScrL K H Z ns v
  | .lkd ks xs, v => ∃ a vs od, v = .ref a ∧ H a = some (.frz od (.dK (ks.zip vs))) ∧ ¬ Z a ∧ ks.length = vs.length ∧ RepSs K H Z xs vs
  | .lst _ xs, v => ∃ a vs, v = .ref a ∧ H a = some (.lst vs) ∧ ¬ Z a ∧ RepSs K H Z xs vs
  | .tup _ xs, v => ∃ a vs, v = .ref a ∧ H a = some (.tup vs) ∧ ¬ Z a ∧ RepSs K H Z xs vs
  | .dic _ ks xs, v => ∃ a vs, v = .ref a ∧ H a = some (.dK (ks.zip vs)) ∧ ¬ Z a ∧ ks.length = vs.length ∧ RepSs K H Z xs vs
  | .dit _ ks xs, v => ∃ a vs, v = .ref a ∧ H a = some (.dT (ks.zip vs)) ∧ ¬ Z a ∧ ks.length = vs.length ∧ RepSs K H Z xs vs
def RepSs (K : PySem.W.Frag) (H : Hp) (Z : Fb) : List T → List V → Prop
  | [], vs => vs = []
  | t :: ts, vs => ∃ v vr, vs = v :: vr ∧ isLkd t = false ∧ RepS K H Z t v ∧ RepSs K H Z ts vr
end

/-! ### what is held: A, the addresses that only it has -/
mutual
def RepO (K : PySem.W.Frag) (H : Hp) (Z : Fb) : T → V → List Addr → Prop
  | .non, v, A => v = .non ∧ A = []
  | .bl b, v, A => v = .bl b ∧ A = []
  | .int i, v, A => v = .int i ∧ A = []
  | .str s, v, A => (v = .str s ∧ okS s) ∧ A = []
  | .scr ns, v, A => ScrL K H Z ns v ∧ A = []
  | .lkd ks xs, v, A => ∃ a vs od B, v = .ref a ∧ A = a :: B ∧ H a = some (.frz od (.dK (ks.zip vs))) ∧ ks.length = vs.length ∧ RepOs K H Z xs vs B
  | .lst false xs, v, A => (∃ a vs, v = .ref a ∧ H a = some (.lst vs) ∧ ¬ Z a ∧ RepSs K H Z xs vs) ∧ A = [] ∧ shrs xs = true
  | .tup false xs, v, A => (∃ a vs, v = .ref a ∧ H a = some (.tup vs) ∧ ¬ Z a ∧ RepSs K H Z xs vs) ∧ A = [] ∧ shrs xs = true
  | .dic false ks xs, v, A => (∃ a vs, v = .ref a ∧ H a = some (.dK (ks.zip vs)) ∧ ¬ Z a ∧ ks.length = vs.length ∧ RepSs K H Z xs vs) ∧ A = [] ∧ shrs xs = true
  | .dit false ks xs, v, A => (∃ a vs, v = .ref a ∧ H a = some (.dT (ks.zip vs)) ∧ ¬ Z a ∧ ks.length = vs.length ∧ RepSs K H Z xs vs) ∧ A = [] ∧ shrs xs = true
  | .lst true xs, v, A => ∃ a vs B, v = .ref a ∧ A = a :: B ∧ H a = some (.lst vs) ∧ RepOs K H Z xs vs B
  | .tup true xs, v, A => ∃ a vs B, v = .ref a ∧ A = a :: B ∧ H a = some (.tup vs) ∧ RepOs K H Z xs vs B
  | .dic true ks xs, v, A => ∃ a vs B, v = .ref a ∧ A = a :: B ∧ H a = some (.dK (ks.zip vs)) ∧ ks.length = vs.length ∧ RepOs K H Z xs vs B
  | .dit true ks xs, v, A => ∃ a vs B, v = .ref a ∧ A = a :: B ∧ H a = some (.dT (ks.zip vs)) ∧ ks.length = vs.length ∧ RepOs K H Z xs vs B
def RepOs (K : PySem.W.Frag) (H : Hp) (Z : Fb) : List T → List V → List Addr → Prop
  | [], vs, A => vs = [] ∧ A = []
  | t :: ts, vs, A => ∃ v vr A1 A2, vs = v :: vr ∧ A = A1 ++ A2 ∧ isLkd t = false ∧ RepO K H Z t v A1 ∧ RepOs K H Z ts vr A2
end

section
variable {K : PySem.W.Frag} {H H' : Hp} {Z Z' : Fb}
/-- from one heap to a later one: what isn't in Z is kept, Z grows by what is new at most -/
structure Later (H H' : Hp) (Z Z' : Fb) : Prop where
  keep : ∀ a o, ¬ Z a → H a = some o → H' a = some o
  grow : ∀ a, Z' a → Z a ∨ H a = none
theorem Later.at (l : Later H H' Z Z') {a : Addr} {o : HO} (h : H a = some o) (n : ¬ Z a) : H' a = some o ∧ ¬ Z' a :=
  ⟨l.keep a o n h, fun z => (l.grow a z).elim n fun q => by rw [h] at q; cases q⟩
theorem ScrL.later (l : Later H H' Z Z') {ns : List Int} {v : V} : ScrL K H Z ns v → ScrL K H' Z' ns v
  | ⟨a, e, .inl ⟨⟨o, h⟩, n⟩⟩ => ⟨a, e, .inl ⟨⟨o, (l.at h n).1⟩, (l.at h n).2⟩⟩
  | ⟨a, e, .inr h⟩ => ⟨a, e, .inr h⟩
theorem ScrL.sq {ns : List Int} {v : V} : ScrL K H Z ns v → ∃ a, v = .ref a ∧ SqL K H a (ns.map V.int)
  | ⟨a, e, .inl ⟨⟨o, h⟩, _⟩⟩ => ⟨a, e, .inl (.inr ⟨o, h⟩)⟩
  | ⟨a, e, .inr h⟩ => ⟨a, e, .inr h⟩
mutual
theorem RepS.later (l : Later H H' Z Z') : ∀ (t : T) (v : V), RepS K H Z t v → RepS K H' Z' t v
  | .non, _, h => h
  | .bl _, _, h => h
  | .int _, _, h => h
  | .str _, _, h => h
  | .scr _, _, h => ScrL.later l h
  | .lkd ks xs, _, ⟨a, vs, od, e, h1, n, hl, h2⟩ => ⟨a, vs, od, e, (l.at h1 n).1, (l.at h1 n).2, hl, RepSs.later l xs vs h2⟩
  | .lst _ xs, _, ⟨a, vs, e, h1, n, h2⟩ => ⟨a, vs, e, (l.at h1 n).1, (l.at h1 n).2, RepSs.later l xs vs h2⟩
  | .tup _ xs, _, ⟨a, vs, e, h1, n, h2⟩ => ⟨a, vs, e, (l.at h1 n).1, (l.at h1 n).2, RepSs.later l xs vs h2⟩
  | .dic _ _ xs, _, ⟨a, vs, e, h1, n, hl, h2⟩ => ⟨a, vs, e, (l.at h1 n).1, (l.at h1 n).2, hl, RepSs.later l xs vs h2⟩
  | .dit _ _ xs, _, ⟨a, vs, e, h1, n, hl, h2⟩ => ⟨a, vs, e, (l.at h1 n).1, (l.at h1 n).2, hl, RepSs.later l xs vs h2⟩
theorem RepSs.later (l : Later H H' Z Z') : ∀ (ts : List T) (vs : List V), RepSs K H Z ts vs → RepSs K H' Z' ts vs
  | [], _, h => h
  | t :: ts, _, ⟨v, vr, e, hk, h1, h2⟩ => ⟨v, vr, e, hk, RepS.later l t v h1, RepSs.later l ts vr h2⟩
end
mutual
theorem RepO.later (l : Later H H' Z Z') : ∀ (t : T) (v : V) (A : List Addr), (∀ a ∈ A, ∀ o, H a = some o → H' a = some o) → RepO K H Z t v A → RepO K H' Z' t v A
  | .non, _, _, _, h => h
  | .bl _, _, _, _, h => h
  | .int _, _, _, _, h => h
  | .str _, _, _, _, h => h
  | .scr _, _, _, _, h => ⟨ScrL.later l h.1, h.2⟩
  | .lkd ks xs, _, _, k, ⟨a, vs, od, B, e, eA, h1, hl, h2⟩ => ⟨a, vs, od, B, e, eA, k a (by rw [eA]; exact List.mem_cons_self) _ h1, hl, RepOs.later l xs vs B (fun b hb => k b (by rw [eA]; exact List.mem_cons_of_mem _ hb)) h2⟩
  | .lst false xs, _, _, _, ⟨⟨a, vs, e, h1, n, h2⟩, eA⟩ => ⟨⟨a, vs, e, (l.at h1 n).1, (l.at h1 n).2, RepSs.later l xs vs h2⟩, eA⟩
  | .lst true xs, _, _, k, ⟨a, vs, B, e, eA, h1, h2⟩ => ⟨a, vs, B, e, eA, k a (by rw [eA]; exact List.mem_cons_self) _ h1, RepOs.later l xs vs B (fun b hb => k b (by rw [eA]; exact List.mem_cons_of_mem _ hb)) h2⟩
  | .tup false xs, _, _, _, ⟨⟨a, vs, e, h1, n, h2⟩, eA⟩ => ⟨⟨a, vs, e, (l.at h1 n).1, (l.at h1 n).2, RepSs.later l xs vs h2⟩, eA⟩
  | .tup true xs, _, _, k, ⟨a, vs, B, e, eA, h1, h2⟩ => ⟨a, vs, B, e, eA, k a (by rw [eA]; exact List.mem_cons_self) _ h1, RepOs.later l xs vs B (fun b hb => k b (by rw [eA]; exact List.mem_cons_of_mem _ hb)) h2⟩
  | .dic false _ xs, _, _, _, ⟨⟨a, vs, e, h1, n, hl, h2⟩, eA⟩ => ⟨⟨a, vs, e, (l.at h1 n).1, (l.at h1 n).2, hl, RepSs.later l xs vs h2⟩, eA⟩
  | .dic true _ xs, _, _, k, ⟨a, vs, B, e, eA, h1, hl, h2⟩ => ⟨a, vs, B, e, eA, k a (by rw [eA]; exact List.mem_cons_self) _ h1, hl, RepOs.later l xs vs B (fun b hb => k b (by rw [eA]; exact List.mem_cons_of_mem _ hb)) h2⟩
  | .dit false _ xs, _, _, _, ⟨⟨a, vs, e, h1, n, hl, h2⟩, eA⟩ => ⟨⟨a, vs, e, (l.at h1 n).1, (l.at h1 n).2, hl, RepSs.later l xs vs h2⟩, eA⟩
  | .dit true _ xs, _, _, k, ⟨a, vs, B, e, eA, h1, hl, h2⟩ => ⟨a, vs, B, e, eA, k a (by rw [eA]; exact List.mem_cons_self) _ h1, hl, RepOs.later l xs vs B (fun b hb => k b (by rw [eA]; exact List.mem_cons_of_mem _ hb)) h2⟩
theorem RepOs.later (l : Later H H' Z Z') : ∀ (ts : List T) (vs : List V) (A : List Addr), (∀ a ∈ A, ∀ o, H a = some o → H' a = some o) → RepOs K H Z ts vs A → RepOs K H' Z' ts vs A
  | [], _, _, _, h => h
  | t :: ts, _, _, k, ⟨v, vr, A1, A2, e, eA, hk, h1, h2⟩ => ⟨v, vr, A1, A2, e, eA, hk, RepO.later l t v A1 (fun b hb => k b (by rw [eA]; exact List.mem_append_left _ hb)) h1, RepOs.later l ts vr A2 (fun b hb => k b (by rw [eA]; exact List.mem_append_right _ hb)) h2⟩
end
theorem later_less (h : ∀ a, Z' a → Z a) : Later H H Z Z' := ⟨fun _ _ _ e => e, fun a z => .inl (h a z)⟩

mutual
theorem RepO.read (h : ∀ a, Z' a → Z a) : ∀ (t : T) (v : V) (A : List Addr), (∀ a ∈ A, ¬ Z' a) → RepO K H Z t v A → RepS K H Z' t v
  | .non, _, _, _, h => h.1
  | .bl _, _, _, _, h => h.1
  | .int _, _, _, _, h => h.1
  | .str _, _, _, _, h => h.1
  | .scr _, _, _, _, q => ScrL.later (later_less h) q.1
  | .lkd ks xs, _, _, k, ⟨a, vs, od, B, e, eA, h1, hl, h2⟩ => ⟨a, vs, od, e, h1, k a (by rw [eA]; exact List.mem_cons_self), hl, RepOs.read h xs vs B (fun b hb => k b (by rw [eA]; exact List.mem_cons_of_mem _ hb)) h2⟩
  | .lst false xs, v, _, _, q => RepS.later (later_less h) (.lst false xs) v q.1
  | .lst true xs, _, _, k, ⟨a, vs, B, e, eA, h1, h2⟩ => ⟨a, vs, e, h1, k a (by rw [eA]; exact List.mem_cons_self), RepOs.read h xs vs B (fun b hb => k b (by rw [eA]; exact List.mem_cons_of_mem _ hb)) h2⟩
  | .tup false xs, v, _, _, q => RepS.later (later_less h) (.tup false xs) v q.1
  | .tup true xs, _, _, k, ⟨a, vs, B, e, eA, h1, h2⟩ => ⟨a, vs, e, h1, k a (by rw [eA]; exact List.mem_cons_self), RepOs.read h xs vs B (fun b hb => k b (by rw [eA]; exact List.mem_cons_of_mem _ hb)) h2⟩
  | .dic false ks xs, v, _, _, q => RepS.later (later_less h) (.dic false ks xs) v q.1
  | .dic true _ xs, _, _, k, ⟨a, vs, B, e, eA, h1, hl, h2⟩ => ⟨a, vs, e, h1, k a (by rw [eA]; exact List.mem_cons_self), hl, RepOs.read h xs vs B (fun b hb => k b (by rw [eA]; exact List.mem_cons_of_mem _ hb)) h2⟩
  | .dit false ks xs, v, _, _, q => RepS.later (later_less h) (.dit false ks xs) v q.1
  | .dit true _ xs, _, _, k, ⟨a, vs, B, e, eA, h1, hl, h2⟩ => ⟨a, vs, e, h1, k a (by rw [eA]; exact List.mem_cons_self), hl, RepOs.read h xs vs B (fun b hb => k b (by rw [eA]; exact List.mem_cons_of_mem _ hb)) h2⟩
theorem RepOs.read (h : ∀ a, Z' a → Z a) : ∀ (ts : List T) (vs : List V) (A : List Addr), (∀ a ∈ A, ¬ Z' a) → RepOs K H Z ts vs A → RepSs K H Z' ts vs
  | [], _, _, _, h => h.1
  | t :: ts, _, _, k, ⟨v, vr, A1, A2, e, eA, hk, h1, h2⟩ => ⟨v, vr, e, hk, RepO.read h t v A1 (fun b hb => k b (by rw [eA]; exact List.mem_append_left _ hb)) h1, RepOs.read h ts vr A2 (fun b hb => k b (by rw [eA]; exact List.mem_append_right _ hb)) h2⟩
end
theorem nil_there {A : List Addr} (e : A = []) : ∀ a ∈ A, H a ≠ none := by
  rw [e]; intro a z; cases z
theorem cons_there {A B : List Addr} {a : Addr} {o : HO} (e : A = a :: B) (h : H a = some o) (hB : ∀ b ∈ B, H b ≠ none) : ∀ b ∈ A, H b ≠ none := by
  rw [e]; intro b hb
  rcases List.mem_cons.mp hb with rfl | hb
  · rw [h]; exact fun z => nomatch z
  · exact hB b hb
mutual
theorem RepO.there : ∀ (t : T) (v : V) (A : List Addr), RepO K H Z t v A → ∀ a ∈ A, H a ≠ none
  | .non, _, _, h => nil_there h.2
  | .bl _, _, _, h => nil_there h.2
  | .int _, _, _, h => nil_there h.2
  | .str _, _, _, h => nil_there h.2
  | .scr _, _, _, h => nil_there h.2
  | .lkd ks xs, _, _, ⟨a, vs, od, B, e, eA, h1, hl, h2⟩ => cons_there eA h1 (RepOs.there xs vs B h2)
  | .lst false _, _, _, h => nil_there h.2.1
  | .lst true xs, _, _, ⟨a, vs, B, e, eA, h1, h2⟩ => cons_there eA h1 (RepOs.there xs vs B h2)
  | .tup false _, _, _, h => nil_there h.2.1
  | .tup true xs, _, _, ⟨a, vs, B, e, eA, h1, h2⟩ => cons_there eA h1 (RepOs.there xs vs B h2)
  | .dic false _ _, _, _, h => nil_there h.2.1
  | .dic true _ xs, _, _, ⟨a, vs, B, e, eA, h1, hl, h2⟩ => cons_there eA h1 (RepOs.there xs vs B h2)
  | .dit false _ _, _, _, h => nil_there h.2.1
  | .dit true _ xs, _, _, ⟨a, vs, B, e, eA, h1, hl, h2⟩ => cons_there eA h1 (RepOs.there xs vs B h2)
theorem RepOs.there : ∀ (ts : List T) (vs : List V) (A : List Addr), RepOs K H Z ts vs A → ∀ a ∈ A, H a ≠ none
  | [], _, _, h => nil_there h.2
  | t :: ts, _, _, ⟨v, vr, A1, A2, e, eA, hk, h1, h2⟩ => by
    rw [eA]; intro b hb
    rcases List.mem_append.mp hb with hb | hb
    · exact RepO.there t v A1 h1 b hb
    · exact RepOs.there ts vr A2 h2 b hb
end
mutual
theorem RepS.frz : ∀ (t : T) (v : V), RepS K H Z t v → RepS K H Z (frz t) v
  | .non, _, h => h
  | .bl _, _, h => h
  | .int _, _, h => h
  | .str _, _, h => h
  | .scr _, _, h => h
  | .lkd _ _, _, h => h
  | .lst _ xs, _, ⟨a, vs, e, h1, n, h2⟩ => ⟨a, vs, e, h1, n, RepSs.frz xs vs h2⟩
  | .tup _ xs, _, ⟨a, vs, e, h1, n, h2⟩ => ⟨a, vs, e, h1, n, RepSs.frz xs vs h2⟩
  | .dic _ _ xs, _, ⟨a, vs, e, h1, n, hl, h2⟩ => ⟨a, vs, e, h1, n, hl, RepSs.frz xs vs h2⟩
  | .dit _ _ xs, _, ⟨a, vs, e, h1, n, hl, h2⟩ => ⟨a, vs, e, h1, n, hl, RepSs.frz xs vs h2⟩
theorem RepSs.frz : ∀ (ts : List T) (vs : List V), RepSs K H Z ts vs → RepSs K H Z (frzs ts) vs
  | [], _, h => h
  | t :: ts, _, ⟨v, vr, e, hk, h1, h2⟩ => ⟨v, vr, e, by rw [isLkd_frz]; exact hk, RepS.frz t v h1, RepSs.frz ts vr h2⟩
end
mutual
theorem RepS.shrF : ∀ (t : T) (v : V), RepS K H Z t v → isLkd t = false → shr (TV.frz t) = true
  | .non, _, h, _ => rfl
  | .bl _, _, h, _ => rfl
  | .int _, _, h, _ => rfl
  | .str _, _, h, _ => rfl
  | .scr _, _, h, _ => rfl
  | .lkd _ _, _, h, e => nomatch e
  | .lst _ xs, _, ⟨a, vs, e, h1, n, h2⟩, _ => by rw [TV.frz, shr, RepSs.shrF xs vs h2]; rfl
  | .tup _ xs, _, ⟨a, vs, e, h1, n, h2⟩, _ => by rw [TV.frz, shr, RepSs.shrF xs vs h2]; rfl
  | .dic _ _ xs, _, ⟨a, vs, e, h1, n, hl, h2⟩, _ => by rw [TV.frz, shr, RepSs.shrF xs vs h2]; rfl
  | .dit _ _ xs, _, ⟨a, vs, e, h1, n, hl, h2⟩, _ => by rw [TV.frz, shr, RepSs.shrF xs vs h2]; rfl
theorem RepSs.shrF : ∀ (ts : List T) (vs : List V), RepSs K H Z ts vs → shrs (frzs ts) = true
  | [], _, h => rfl
  | t :: ts, _, ⟨v, vr, e, hk, h1, h2⟩ => by rw [frzs, shrs, RepS.shrF t v h1 hk, RepSs.shrF ts vr h2]; rfl
end
/-- a shared one as a held one -/
theorem RepS.held0 {t : T} {v : V} (h : RepS K H Z t v) (hs : shr t = true) : RepO K H Z t v [] := by
  cases t with
  | lkd ks xs => cases hs
  | lst o xs => cases o with | true => cases hs | false => exact ⟨h, rfl, by simpa [shr] using hs⟩
  | tup o xs => cases o with | true => cases hs | false => exact ⟨h, rfl, by simpa [shr] using hs⟩
  | dic o ks xs => cases o with | true => cases hs | false => exact ⟨h, rfl, by simpa [shr] using hs⟩
  | dit o ks xs => cases o with | true => cases hs | false => exact ⟨h, rfl, by simpa [shr] using hs⟩
  | _ => exact ⟨h, rfl⟩
theorem RepS.held {t : T} {v : V} (h : RepS K H Z t v) (hk : isLkd t = false) : RepO K H Z (TV.frz t) v [] := RepS.held0 (RepS.frz t v h) (RepS.shrF t v h hk)
/-- what is not held has no addresses -/
theorem RepO.nil {t : T} {v : V} {A : List Addr} (h : RepO K H Z t v A) (e : isOwn t = false) : A = [] ∧ RepS K H Z t v ∧ shr t = true := by
  cases t with
  | lst o xs => cases o with | false => exact ⟨h.2.1, h.1, h.2.2⟩ | true => cases e
  | tup o xs => cases o with | false => exact ⟨h.2.1, h.1, h.2.2⟩ | true => cases e
  | dic o ks xs => cases o with | false => exact ⟨h.2.1, h.1, h.2.2⟩ | true => cases e
  | dit o ks xs => cases o with | false => exact ⟨h.2.1, h.1, h.2.2⟩ | true => cases e
  | lkd ks xs => cases e
  | _ => exact ⟨h.2, h.1, rfl⟩
theorem RepSs.held : ∀ {ts : List T} {vs : List V}, RepSs K H Z ts vs → shrs ts = true → RepOs K H Z ts vs []
  | [], _, h, _ => ⟨h, rfl⟩
  | t :: ts, _, ⟨v, vr, e, hk, h1, h2⟩, hs => by
    simp only [shrs, Bool.and_eq_true] at hs
    exact ⟨v, vr, [], [], e, rfl, hk, h1.held0 hs.1, RepSs.held h2 hs.2⟩
theorem RepSs.length : ∀ {ts : List T} {vs : List V}, RepSs K H Z ts vs → ts.length = vs.length
  | [], vs, h => by
    have e : vs = [] := h
    subst e
    rfl
  | t :: ts, _, ⟨v, vr, e, hk, h1, h2⟩ => by rw [e]; simp [RepSs.length h2]
theorem RepOs.length : ∀ {ts : List T} {vs : List V} {A : List Addr}, RepOs K H Z ts vs A → ts.length = vs.length
  | [], vs, _, h => by
    have e : vs = [] := h.1
    subst e
    rfl
  | t :: ts, _, _, ⟨v, vr, A1, A2, e, eA, hk, h1, h2⟩ => by rw [e]; simp [RepOs.length h2]
end
end TV

set_option Elab.async false
set_option linter.all false
set_option maxRecDepth 100000
set_option maxHeartbeats 4000000
/-! TV2: the slots' state, temporaries. -/
namespace TV
open PySem PySem.Spec PyProof.Rows L2

abbrev Zo (O : List Addr) (F : Fb) : Fb := fun a => a ∈ O ∨ F a
inductive RepL (K : PySem.W.Frag) (H : Hp) (Z : Fb) : Slots → Sg → List Addr → Prop
  | nil : RepL K H Z [] [] []
  | free {L σ O y} : RepL K H Z L σ O → RepL K H Z (none :: L) (y :: σ) O
  | held {L σ O t v A} : RepO K H Z t v A → RepL K H Z L σ O → RepL K H Z (some t :: L) (some v :: σ) (A ++ O)

section
variable {K : PySem.W.Frag} {H H' : Hp} {Z Z' F F' : Fb} {σ : Sg} {L : Slots} {O A : List Addr}
theorem RepL.length {L : Slots} {σ : Sg} {O : List Addr} (h : RepL K H Z L σ O) : L.length = σ.length := by
  induction h with
  | nil => rfl
  | free _ ih => simp [ih]
  | held _ _ ih => simp [ih]
theorem RepL.later (l : Later H H' Z Z') {L : Slots} {σ : Sg} {O : List Addr} (h : RepL K H Z L σ O) (k : ∀ a ∈ O, ∀ o, H a = some o → H' a = some o) : RepL K H' Z' L σ O := by
  induction h with
  | nil => exact .nil
  | free _ ih => exact .free (ih k)
  | held r _ ih => exact .held (r.later l _ _ _ fun a ha => k a (List.mem_append_left _ ha)) (ih fun a ha => k a (List.mem_append_right _ ha))
theorem RepL.there {L : Slots} {σ : Sg} {O : List Addr} (h : RepL K H Z L σ O) : ∀ a ∈ O, H a ≠ none := by
  induction h with
  | nil => intro a z; cases z
  | free _ ih => exact ih
  | held r _ ih => intro a z; rcases List.mem_append.mp z with z | z; exact r.there _ _ _ a z; exact ih a z
/-- slot i taken out -/
theorem RepL.take {L : Slots} {σ : Sg} {O : List Addr} (h : RepL K H Z L σ O) : ∀ {i : Nat} {t : T}, L[i]? = some (some t) → ∃ v A O', σ[i]? = some (some v) ∧ RepO K H Z t v A ∧ O.Perm (A ++ O') ∧ RepL K H Z (L.set i none) σ O' := by
  induction h with
  | nil => intro i t e; simp at e
  | @free L σ O y h ih =>
    intro i t e
    cases i with
    | zero => simp at e
    | succ i =>
      obtain ⟨v, A, O', h1, h2, h3, h4⟩ := ih (i := i) (t := t) (by simpa using e)
      exact ⟨v, A, O', by simpa using h1, h2, h3, .free h4⟩
  | @held L σ O t0 v0 A0 r h ih =>
    intro i t e
    cases i with
    | zero =>
      have e' : t0 = t := by simpa using e
      subst e'
      exact ⟨v0, A0, O, rfl, r, .refl _, .free h⟩
    | succ i =>
      obtain ⟨v, A, O', h1, h2, h3, h4⟩ := ih (i := i) (t := t) (by simpa using e)
      refine ⟨v, A, A0 ++ O', by simpa using h1, h2, ?_, .held r h4⟩
      refine (h3.append_left A0).trans ?_
      rw [← List.append_assoc, ← List.append_assoc]
      exact List.perm_append_comm.append_right O'
theorem RepL.drop {L : Slots} {σ : Sg} {O : List Addr} (h : RepL K H Z L σ O) (i : Nat) : ∃ A O', O.Perm (A ++ O') ∧ RepL K H Z (L.set i none) σ O' := by
  cases e : L[i]? with
  | none => exact ⟨[], O, .refl _, by rw [List.set_eq_of_length_le (List.getElem?_eq_none_iff.mp e)]; exact h⟩
  | some x =>
    cases x with
    | some t => obtain ⟨v, A, O', _, _, p, q⟩ := h.take e; exact ⟨A, O', p, q⟩
    | none =>
      refine ⟨[], O, .refl _, ?_⟩
      have : L.set i none = L := by
        apply List.ext_getElem?
        intro j
        by_cases hj : i = j
        · subst hj
          rw [List.getElem?_set_self (by have := List.getElem?_eq_some_iff.mp e; exact this.1), e]
        · rw [List.getElem?_set_ne hj]
      rw [this]; exact h
/-- the slot's value may be anything where none is told -/
theorem RepL.reset {L : Slots} {σ : Sg} {O : List Addr} (h : RepL K H Z L σ O) : ∀ {i : Nat} {y : Option V}, L[i]? = some none → RepL K H Z L (σ.set i y) O := by
  induction h with
  | nil => intro i y e; simp at e
  | @free L σ O y0 h ih =>
    intro i y e
    cases i with
    | zero => exact .free h
    | succ i => exact .free (ih (by simpa using e))
  | @held L σ O t0 v0 A0 r h ih =>
    intro i y e
    cases i with
    | zero => simp at e
    | succ i => exact .held r (ih (by simpa using e))
theorem RepL.put {L : Slots} {σ : Sg} {O : List Addr} (h : RepL K H Z L σ O) : ∀ {i : Nat} {t : T} {v : V} {A : List Addr}, L[i]? = some none → RepO K H Z t v A → ∃ O', O'.Perm (A ++ O) ∧ RepL K H Z (L.set i (some t)) (σ.set i (some v)) O' := by
  induction h with
  | nil => intro i t v A e; simp at e
  | @free L σ O y0 h ih =>
    intro i t v A e r
    cases i with
    | zero => exact ⟨A ++ O, .refl _, .held r h⟩
    | succ i =>
      obtain ⟨O', p, q⟩ := ih (i := i) (by simpa using e) r
      exact ⟨O', p, .free q⟩
  | @held L σ O t0 v0 A0 r0 h ih =>
    intro i t v A e r
    cases i with
    | zero => simp at e
    | succ i =>
      obtain ⟨O', p, q⟩ := ih (i := i) (by simpa using e) r
      refine ⟨A0 ++ O', ?_, .held r0 q⟩
      refine (p.append_left A0).trans ?_
      rw [← List.append_assoc, ← List.append_assoc]
      exact List.perm_append_comm.append_right O
theorem RepL.set_none {L : Slots} {σ : Sg} {O : List Addr} (h : RepL K H Z L σ O) {i : Nat} {y : Option V} (hi : i < L.length) (e : (L.set i none)[i]? = some none := by simp [*]) : ∃ A O', O.Perm (A ++ O') ∧ RepL K H Z (L.set i none) (σ.set i y) O' := by
  obtain ⟨A, O', p, q⟩ := h.drop i
  exact ⟨A, O', p, q.reset e⟩

/-- the slots hold L; O: what they have alone; F: what they may not touch -/
def StOk (K : PySem.W.Frag) (H : Hp) (F : Fb) (σ : Sg) (L : Slots) (O : List Addr) : Prop :=
  ∃ O0, O0.Perm O ∧ RepL K H (Zo O F) L σ O0 ∧ O.Nodup ∧ (∀ a ∈ O, ¬ F a) ∧ ∀ a, F a → H a ≠ none
theorem StOk.length (h : StOk K H F σ L O) : L.length = σ.length := by obtain ⟨_, _, h, _⟩ := h; exact h.length
theorem StOk.there (h : StOk K H F σ L O) : ∀ a ∈ O, H a ≠ none := by
  obtain ⟨O0, p, h, _⟩ := h
  exact fun a ha => h.there a (p.mem_iff.mpr ha)
theorem StOk.nodup (h : StOk K H F σ L O) : O.Nodup := by obtain ⟨_, _, _, n, _⟩ := h; exact n
theorem StOk.df (h : StOk K H F σ L O) : ∀ a ∈ O, ¬ F a := by obtain ⟨_, _, _, _, n, _⟩ := h; exact n
theorem StOk.fth (h : StOk K H F σ L O) : ∀ a, F a → H a ≠ none := by obtain ⟨_, _, _, _, _, n⟩ := h; exact n
theorem StOk.perm {O' : List Addr} (h : StOk K H F σ L O) (p : O.Perm O') : StOk K H F σ L O' := by
  obtain ⟨O0, p0, h, n, d, f⟩ := h
  refine ⟨O0, p0.trans p, h.later ⟨fun _ _ _ e => e, fun a z => .inl ?_⟩ fun _ _ _ e => e, (p.nodup_iff).mp n, fun a ha => d a (p.mem_iff.mpr ha), f⟩
  exact z.elim (fun z => .inl (p.mem_iff.mpr z)) .inr
/-- another wish about what may not be touched; the heap may have grown, and changed within F -/
theorem StOk.later (h : StOk K H F σ L O) (k : ∀ a o, ¬ F a → H a = some o → H' a = some o) (g : ∀ a, F' a → F a ∨ H a = none) (t : ∀ a, F' a → H' a ≠ none) : StOk K H' F' σ L O := by
  have th := h.there
  obtain ⟨O0, p0, h, n, d, f⟩ := h
  refine ⟨O0, p0, h.later ⟨fun a o z e => k a o (fun y => z (.inr y)) e, fun a z => ?_⟩ fun a ha o e => k a o (d a (p0.mem_iff.mp ha)) e, n, fun a ha z => ?_, t⟩
  · rcases z with z | z
    · exact .inl (.inl z)
    · exact (g a z).imp .inr id
  · rcases g a z with z | z
    · exact d a ha z
    · exact th a ha z
theorem StOk.less (h : StOk K H F σ L O) (g : ∀ a, F' a → F a) : StOk K H F' σ L O :=
  h.later (fun _ _ _ e => e) (fun a z => .inl (g a z)) fun a z => h.fth a (g a z)

/-- Z where O, A and F are taken -/
abbrev Zz (O A : List Addr) (F : Fb) : Fb := fun a => a ∈ O ∨ a ∈ A ∨ F a
abbrev Fa (A : List Addr) (F : Fb) : Fb := fun a => a ∈ A ∨ F a
theorem StOk.take (h : StOk K H F σ L O) {i : Nat} {t : T} (e : L[i]? = some (some t)) :
    ∃ v A O', σ[i]? = some (some v) ∧ O.Perm (A ++ O') ∧ RepO K H (Zz O' A F) t v A ∧ StOk K H (Fa A F) σ (L.set i none) O' ∧ A.Nodup ∧ ∀ a ∈ A, ¬ F a := by
  have th := h.there
  obtain ⟨O0, p0, h, n, d, f⟩ := h
  obtain ⟨v, A, O', h1, h2, h3, h4⟩ := h.take e
  have p : O.Perm (A ++ O') := p0.symm.trans h3
  have nn := (p.nodup_iff).mp n
  rw [List.nodup_append] at nn
  obtain ⟨n1, n2, n3⟩ := nn
  have w : Later H H (Zo O F) (Zz O' A F) := ⟨fun _ _ _ e => e, fun a z => .inl (by
    rcases z with z | z | z
    · exact .inl (p.mem_iff.mpr (List.mem_append_right _ z))
    · exact .inl (p.mem_iff.mpr (List.mem_append_left _ z))
    · exact .inr z)⟩
  refine ⟨v, A, O', h1, p, h2.later w _ _ _ fun _ _ _ e => e, ⟨O', .refl _, h4.later w fun _ _ _ e => e, n2, fun a ha z => ?_, fun a z => ?_⟩, n1, fun a ha => d a (p.mem_iff.mpr (List.mem_append_left _ ha))⟩
  · rcases z with z | z
    · exact n3 a z a ha rfl
    · exact d a (p.mem_iff.mpr (List.mem_append_right _ ha)) z
  · rcases z with z | z
    · exact th a (p.mem_iff.mpr (List.mem_append_left _ z))
    · exact f a z
theorem StOk.drop (h : StOk K H F σ L O) (i : Nat) : ∃ O', (∀ a ∈ O', a ∈ O) ∧ StOk K H F σ (L.set i none) O' := by
  obtain ⟨O0, p0, h, n, d, f⟩ := h
  obtain ⟨A, O', p, q⟩ := h.drop i
  have p2 : O.Perm (A ++ O') := p0.symm.trans p
  have sub : ∀ a ∈ O', a ∈ O := fun a ha => p2.mem_iff.mpr (List.mem_append_right _ ha)
  have nn := (p2.nodup_iff).mp n
  rw [List.nodup_append] at nn
  exact ⟨O', sub, O', .refl _, q.later ⟨fun _ _ _ e => e, fun a z => .inl (z.imp (sub a) id)⟩ fun _ _ _ e => e, nn.2.1, fun a ha => d a (sub a ha), f⟩
theorem StOk.reset (h : StOk K H F σ L O) {i : Nat} {y : Option V} (e : L[i]? = some none) : StOk K H F (σ.set i y) L O := by
  obtain ⟨O0, p0, h, n, d, f⟩ := h
  exact ⟨O0, p0, h.reset e, n, d, f⟩
/-- a temporary is put into a free slot -/
theorem StOk.put0 (h : StOk K H (Fa A F) σ L O) {i : Nat} {t : T} {v : V} (e : L[i]? = some none) (r : RepO K H (Zz O A F) t v A) (nd : A.Nodup) (df : ∀ a ∈ A, ¬ F a) :
    StOk K H F (σ.set i (some v)) (L.set i (some t)) (A ++ O) := by
  obtain ⟨O0, p0, h, n, d, f⟩ := h
  have w : Later H H (Zo O (Fa A F)) (Zo (A ++ O) F) := ⟨fun _ _ _ e => e, fun a z => .inl (by
    rcases z with z | z
    · rcases List.mem_append.mp z with z | z
      · exact .inr (.inl z)
      · exact .inl z
    · exact .inr (.inr z))⟩
  have w2 : Later H H (Zz O A F) (Zo (A ++ O) F) := ⟨fun _ _ _ e => e, fun a z => .inl (by
    rcases z with z | z
    · rcases List.mem_append.mp z with z | z
      · exact .inr (.inl z)
      · exact .inl z
    · exact .inr (.inr z))⟩
  obtain ⟨O', p, q⟩ := (h.later w fun _ _ _ e => e).put e (r.later w2 _ _ _ fun _ _ _ e => e)
  refine ⟨O', p.trans (p0.append_left A), q, ?_, fun a ha z => ?_, fun a z => f a (.inr z)⟩
  · rw [List.nodup_append]
    exact ⟨nd, n, fun a ha b hb e => by subst e; exact d a hb (.inl ha)⟩
  · rcases List.mem_append.mp ha with ha | ha
    · exact df a ha z
    · exact d a ha (.inr z)
theorem StOk.put (h : StOk K H (Fa A F) σ L O) {i : Nat} {t : T} {v : V} (hi : i < L.length) (r : RepO K H (Zz O A F) t v A) (nd : A.Nodup) (df : ∀ a ∈ A, ¬ F a) :
    ∃ O', (∀ a ∈ O', a ∈ A ∨ a ∈ O) ∧ StOk K H F (σ.set i (some v)) (L.set i (some t)) O' := by
  obtain ⟨O1, s1, h1⟩ := h.drop i
  have q := h1.put0 (i := i) (t := t) (v := v) (by simp [hi]) (r.later ⟨fun _ _ _ e => e, fun a z => .inl (z.imp (s1 a) id)⟩ _ _ _ fun _ _ _ e => e) nd df
  rw [List.set_set] at q
  exact ⟨A ++ O1, fun a ha => (List.mem_append.mp ha).imp id (s1 a), q⟩

/-! ### temporaries -/
structure Grow (H H' : Hp) (O O' : List Addr) : Prop where
  keep : ∀ a o, a ∉ O → H a = some o → H' a = some o
  new : ∀ a ∈ O', a ∈ O ∨ H a = none
  fz : ∀ a o u, H a = some (.frz o u) → H' a = some (.frz o u)
theorem Grow.refl (H : Hp) (O : List Addr) : Grow H H O O := ⟨fun _ _ _ e => e, fun _ h => .inl h, fun _ _ _ e => e⟩
theorem Grow.free {O O' : List Addr} (g : Grow H H' O O') {a : Addr} (h : H' a = none) : a ∈ O ∨ H a = none := by
  by_cases ha : a ∈ O
  · exact .inl ha
  · right
    cases e : H a with
    | none => rfl
    | some o => rw [g.keep a o ha e] at h; cases h
theorem Grow.trans {H1 H2 : Hp} {O O1 O2 : List Addr} (g : Grow H H1 O O1) (g' : Grow H1 H2 O1 O2) : Grow H H2 O O2 :=
  ⟨fun a o ha e => g'.keep a o (fun z => (g.new a z).elim ha fun q => by rw [q] at e; cases e) (g.keep a o ha e),
   fun a ha => (g'.new a ha).elim (g.new a) g.free, fun a o u e => g'.fz a o u (g.fz a o u e)⟩
theorem Grow.mono {O O' O2 : List Addr} (g : Grow H H' O O') (h : ∀ a ∈ O2, a ∈ O') : Grow H H' O O2 := ⟨g.keep, fun a ha => g.new a (h a ha), g.fz⟩

/-- from (H0, O0) one has come to H, the slots L with O, and temporaries with A -/
structure Mid (K : PySem.W.Frag) (H0 : Hp) (O0 : List Addr) (H : Hp) (F : Fb) (σ : Sg) (L : Slots) (O A : List Addr) : Prop where
  st : StOk K H (Fa A F) σ L O
  nd : A.Nodup
  df : ∀ a ∈ A, ¬ F a
  gr : Grow H0 H O0 (O ++ A)
theorem Mid.start (h : StOk K H F σ L O) : Mid K H O H F σ L O [] :=
  ⟨h.less fun a z => z.elim (fun q => by cases q) id, .nil, fun a z => (by cases z), (Grow.refl H O).mono fun a ha => by simpa using ha⟩
theorem Mid.done {H0 : Hp} {O0 : List Addr} (m : Mid K H0 O0 H F σ L O []) : StOk K H F σ L O := m.st.less fun a z => .inr z
/-- the temporaries dropped, in part -/
theorem Mid.drop {H0 : Hp} {O0 A' : List Addr} (m : Mid K H0 O0 H F σ L O A) (s : ∀ a ∈ A', a ∈ A) (nd : A'.Nodup) : Mid K H0 O0 H F σ L O A' :=
  ⟨m.st.less fun a z => z.imp (s a) id, nd, fun a ha => m.df a (s a ha), m.gr.mono fun a ha => by
    rcases List.mem_append.mp ha with ha | ha
    · exact List.mem_append_left _ ha
    · exact List.mem_append_right _ (s a ha)⟩
/-- one behind the other -/
theorem Mid.trans {H0 H1 : Hp} {O0 O1 A1 : List Addr} {L1 : Slots} (m : Mid K H0 O0 H1 F σ L1 O1 A1) (m' : Mid K H1 O1 H (Fa A1 F) σ L O A) : Mid K H0 O0 H F σ L O (A1 ++ A) := by
  refine ⟨m'.st.less fun a z => ?_, ?_, fun a ha => ?_, ?_⟩
  · rcases z with z | z
    · rcases List.mem_append.mp z with z | z
      · exact .inr (.inl z)
      · exact .inl z
    · exact .inr (.inr z)
  · rw [List.nodup_append]
    exact ⟨m.nd, m'.nd, fun a ha b hb e => by subst e; exact m'.df a hb (.inl ha)⟩
  · rcases List.mem_append.mp ha with ha | ha
    · exact m.df a ha
    · exact fun z => m'.df a ha (.inr z)
  · refine ⟨fun a o ha e => m'.gr.keep a o (fun z => ?_) (m.gr.keep a o ha e), fun a ha => ?_, fun a o u e => m'.gr.fz a o u (m.gr.fz a o u e)⟩
    · exact (m.gr.new a (List.mem_append_left _ z)).elim ha fun q => by rw [q] at e; cases e
    · have : a ∈ O1 ++ A1 ∨ a ∈ O ++ A := by
        rcases List.mem_append.mp ha with ha | ha
        · exact .inr (List.mem_append_left _ ha)
        · rcases List.mem_append.mp ha with ha | ha
          · exact .inl (List.mem_append_right _ ha)
          · exact .inr (List.mem_append_right _ ha)
      rcases this with z | z
      · exact m.gr.new a z
      · rcases m'.gr.new a z with z | z
        · exact m.gr.new a (List.mem_append_left _ z)
        · exact m.gr.free z
/-- what a temporary bears stays through what comes behind it -/
theorem Mid.later {H1 : Hp} {O1 A1 : List Addr} {L1 : Slots} (m' : Mid K H1 O1 H (Fa A1 F) σ L O A) (m : StOk K H1 (Fa A1 F) σ L1 O1) : Later H1 H (Zz O1 A1 F) (Zz O (A1 ++ A) F) :=
  ⟨fun a o z e => m'.gr.keep a o (fun q => z (.inl q)) e, fun a z => by
    rcases z with z | z | z
    · exact (m'.gr.new a (List.mem_append_left _ z)).imp .inl id
    · rcases List.mem_append.mp z with z | z
      · exact .inl (.inr (.inl z))
      · exact (m'.gr.new a (List.mem_append_right _ z)).imp .inl id
    · exact .inl (.inr (.inr z))⟩
theorem Mid.kept {H1 : Hp} {O1 A1 : List Addr} {L1 : Slots} (m' : Mid K H1 O1 H (Fa A1 F) σ L O A) (m : StOk K H1 (Fa A1 F) σ L1 O1) : ∀ a ∈ A1, ∀ o, H1 a = some o → H a = some o :=
  fun a ha o e => m'.gr.keep a o (fun z => m.df a z (.inl ha)) e
/-- a new object: A1 goes into it (those of A that it takes), or is dropped -/
theorem Mid.alloc {H0 : Hp} {O0 : List Addr} (m : Mid K H0 O0 H F σ L O A) {p : Addr} {o : HO} {B : List Addr} (hp : H p = none) (s : ∀ a ∈ B, a ∈ A) (nd : B.Nodup) : Mid K H0 O0 (upd H p o) F σ L O (p :: B) := by
  have th := m.st.there
  have thF := m.st.fth
  have hpB : p ∉ B := fun z => thF p (.inl (s p z)) hp
  have k : ∀ a o', H a = some o' → upd H p o a = some o' := fun a o' e => by rw [upd_ne (ne_of_none e hp)]; exact e
  refine ⟨m.st.later (fun a o' _ e => k a o' e) (fun a z => ?_) fun a z => ?_, List.nodup_cons.mpr ⟨hpB, nd⟩, fun a ha => ?_, ⟨fun a o' ha e => k a o' (m.gr.keep a o' ha e), fun a ha => ?_, fun a o' u e => k a _ (m.gr.fz a o' u e)⟩⟩
  · rcases z with z | z
    · rcases List.mem_cons.mp z with rfl | z
      · exact .inr hp
      · exact .inl (.inl (s a z))
    · exact .inl (.inr z)
  · rcases z with z | z
    · rcases List.mem_cons.mp z with rfl | z
      · rw [upd_same]; exact fun e => nomatch e
      · cases e : H a with
        | none => exact absurd e (thF a (.inl (s a z)))
        | some u => rw [k a u e]; exact fun e => nomatch e
    · cases e : H a with
      | none => exact absurd e (thF a (.inr z))
      | some u => rw [k a u e]; exact fun e => nomatch e
  · rcases List.mem_cons.mp ha with rfl | ha
    · exact fun z => thF a (.inr z) hp
    · exact m.df a (s a ha)
  · rcases List.mem_append.mp ha with ha | ha
    · exact m.gr.new a (List.mem_append_left _ ha)
    · rcases List.mem_cons.mp ha with rfl | ha
      · exact m.gr.free hp
      · exact m.gr.new a (List.mem_append_right _ (s a ha))
theorem later_alloc {p : Addr} {o : HO} (hp : H p = none) (h : ∀ a, Z' a → Z a ∨ a = p) : Later H (upd H p o) Z Z' :=
  ⟨fun a o' _ e => by rw [upd_ne (ne_of_none e hp)]; exact e, fun a z => (h a z).imp id fun e => by rw [e]; exact hp⟩
end
end TV

set_option Elab.async false
set_option linter.all false
set_option maxRecDepth 100000
set_option maxHeartbeats 4000000
/-! TVS: set(texts), and sorted of it. -/
namespace TV
open PySem PySem.Spec PyProof.Rows L2
def tx (e : Int × Value) : Str := match e.2 with
  | .str k _ => k
  | _ => Str.empty
def TxE (w : World) (e : Int × Value) : Prop := ∃ k tk, e.2 = Value.str k tk ∧ e.1 = hashStr w k
/-- a set of texts: M holds its members -/
structure TxSet (w : World) (h : Heap) (a : Addr) (M : List Str) (o : Obj) (es : Array (Int × Value)) (ep : Nat) (t : SetTable) : Prop where
  ob : h.get? a = some o
  ex : o.ExactSet
  dat : o.data = .set es ep t
  good : ∀ e ∈ es.toList, TxE w e
  nd : (es.toList.map tx).Nodup
  mem : ∀ k, k ∈ es.toList.map tx ↔ k ∈ M
  few : es.size ≤ M.length
  fit : t.fits es.size = true
  ris : Ris t.place.toList
  led : w.params.followText "set-order" = true ∨ t.led = true
abbrev TxSetE (w : World) (h : Heap) (a : Addr) (M : List Str) : Prop := ∃ o es ep t, TxSet w h a M o es ep t
section
variable {P : Program} {w : World} {h h' : Heap} {a : Addr} {M : List Str} {o : Obj} {es : Array (Int × Value)} {ep : Nat} {t : SetTable}
theorem TxSet.elems (R : TxSet w h a M o es ep t) : ElemsOf (strKind P w) es.toList := fun e m => by
  obtain ⟨k, tk, e1, e2⟩ := R.good e m
  refine ⟨⟨k, ?_, e2⟩, ?_⟩ <;> rw [e1]
  · exact strKind_is P w k tk
  · rfl
theorem tx_is {e : Int × Value} (g : TxE w e) (k : Str) : (strKind P w).is k e.2 = decide (tx e = k) := by
  obtain ⟨k0, tk, e1, _⟩ := g
  unfold tx
  rw [e1]
  cases q : (strKind P w).is k (Value.str k0 tk) with
  | true =>
    have : k0 = k := (strKind P w).inj _ _ _ (strKind_is P w k0 tk) q
    simp [this]
  | false =>
    have : k0 ≠ k := fun z => by subst z; rw [strKind_is] at q; cases q
    simp [this]
theorem TxSet.at (R : TxSet w h a M o es ep t) (k : ∀ o, h.get? a = some o → h'.get? a = some o) : TxSet w h' a M o es ep t :=
  ⟨k o R.ob, R.ex, R.dat, R.good, R.nd, R.mem, R.few, R.fit, R.ris, R.led⟩
end
section
variable {P : Program} {w : World} {A : Around} {E : Value → Shared → Prop} {s : Shared} {a : Addr} {M : List Str} {o : Obj} {es : Array (Int × Value)} {ep : Nat} {t : SetTable}
/-- the note that the table gave way -/
theorem gv_ok (b : Bool) {s₁ : Shared} {Q : Unit → Shared → Prop} (q : Q () s₁) : wpAny (model P w) A (match b with | true => rule "set.scan.the-table-gave-way" | false => pure ()) Q E s₁ := by
  cases b
  · exact wpAny_pure q
  · exact wpAny_rule q
theorem put_at {hp : Heap} {es2 : Array (Int × Value)} {t2 : SetTable} (ho : hp.get? a = some o) (hd : o.data = .set es ep t) : (hp.update a (Obj.putSet es2 t2)).get? a = some { o with data := .set es2 (ep + 1) t2 } := by
  rw [Heap.get?_update_self (Obj.putSet es2 t2) ho (by rw [putSet_of es2 t2 hd]; rfl), putSet_of es2 t2 hd]
theorem tset_tail {φ : Bool → Sem Unit} (hφ : ∀ (b : Bool) (s₁ : Shared) (Q : Unit → Shared → Prop), Q () s₁ → wpAny (model P w) A (φ b) Q E s₁) (ho : s.heap.get? a = some o) (hx : o.ExactSet) (hd : o.data = .set es ep t)
    {es1 : Array (Int × Value)} {t1 : SetTable} {M1 : List Str} (g1 : ∀ e ∈ es1.toList, TxE w e) (n1 : (es1.toList.map tx).Nodup) (m1 : ∀ k, k ∈ es1.toList.map tx ↔ k ∈ M1) (c1 : es1.size ≤ M1.length) (hM : M1.length ≤ 4000)
    (f1 : t1.fits es1.size = true) (r1 : Ris t1.place.toList) (l1 : w.params.followText "set-order" = true ∨ t1.led = true) {wd : Bool} {Q : Option Bool → Shared → Prop}
    (hQ : ∀ h', Heap.SameBut a s.heap h' → TxSetE w h' a M1 → Q (some true) { s with heap := h' }) :
    wpAny (model P w) A (storeSet a es1 t1 >>= fun _ => if (!wd && t1.tooFull) = true then φ (relayAll t1 es1 (SetTable.grown es1.size)).2.2 >>= fun _ =>
      storeSet a (relayAll t1 es1 (SetTable.grown es1.size)).1 (relayAll t1 es1 (SetTable.grown es1.size)).2.1 >>= fun _ => pure (some true) else pure (some true)) Q E s := by
  have sz1 : es1.size ≤ sizeLine := by rw [sizeLine_eq]; omega
  have sb := Heap.SameBut.update s.heap a (Obj.putSet es1 t1)
  refine wpAny_bind (wpAny_storeSet_of ho hd ?_ sz1)
  have ho1 := put_at (es2 := es1) (t2 := t1) ho hd
  by_cases hf : (!wd && t1.tooFull) = true
  · rw [if_pos hf]
    have pm := relayAll_perm t1 es1 (SetTable.grown es1.size)
    have f2 := relayAll_fits t1 es1 (SetTable.grown es1.size)
    have r2 := relayAll_ris t1 es1 (SetTable.grown es1.size)
    have l2 := relayAll_led t1 es1 (SetTable.grown es1.size)
    revert pm f2 r2 l2
    generalize relayAll t1 es1 (SetTable.grown es1.size) = Z
    intro pm f2 r2 l2
    have len : Z.1.size = es1.size := by rw [← Array.length_toList, pm.length_eq, Array.length_toList]
    refine wpAny_bind (hφ _ _ _ (wpAny_bind (wpAny_storeSet_of ho1 rfl ?_ (by rw [len]; exact sz1))))
    refine wpAny_pure (hQ _ (sb.trans (Heap.SameBut.update _ a _)) ⟨_, Z.1, _, Z.2.1, put_at ho1 rfl, hx, rfl, fun e he => g1 e (pm.mem_iff.mp he), (pm.map tx).nodup_iff.mpr n1, fun k => ?_, by rw [len]; exact c1, f2, r2, ?_⟩)
    · rw [(pm.map tx).mem_iff]; exact m1 k
    · rw [l2]; exact l1
  · rw [if_neg hf]
    exact wpAny_pure (hQ _ sb ⟨_, es1, _, t1, ho1, hx, rfl, g1, n1, m1, c1, f1, r1, l1⟩)
/-- one text put in -/
theorem tset_add {k : Str} {tk : Tok} {Q : Bool → Shared → Prop} (R : TxSet w s.heap a M o es ep t) (room : M.length < 4000)
    (hQ : ∀ b h', Heap.SameBut a s.heap h' → TxSetE w h' a (k :: M) → Q b { s with heap := h' }) : wpAny (model P w) A (setAddHashed a (.str k tk) (hashStr w k)) Q E s := by
  have hs : es.size < scanBound := by have := R.few; unfold scanBound; omega
  have sc : (Value.str k tk).scannable = true := rfl
  have is1 : (strKind P w).is k (.str k tk) = true := strKind_is P w k tk
  have el : ElemsOf (strKind P w) es.toList := R.elems
  unfold setAddHashed setAddHashedIn
  refine wpAny_holding (wpAny_bind (wpAny_setState_of R.ob R.dat R.fit ?_))
  dsimp only
  rw [byScan_of sc hs el, if_pos rfl]
  unfold setAddByScan
  refine wpAny_bind (wpAny_bind (wpAny_rule (wpAny_bind (wpAny_setScan_of (knd := strKind P w) is1 R.ob R.dat R.fit el ?_))))
  cases q : es.toList.findIdx? (fun e => (strKind P w).is k e.2) with
  | some j =>
    obtain ⟨hj, pj, _⟩ := List.findIdx?_eq_some_iff_getElem.mp q
    have hm : k ∈ es.toList.map tx := by
      rw [tx_is (R.good _ (List.getElem_mem hj)), decide_eq_true_eq] at pj
      exact List.mem_map.mpr ⟨_, List.getElem_mem hj, pj⟩
    refine wpAny_pure (wpAny_pure (hQ _ s.heap (Heap.SameBut.refl a s.heap) ⟨o, es, ep, t, R.ob, R.ex, R.dat, R.good, R.nd, fun x => ?_, by rw [List.length_cons]; exact Nat.le_succ_of_le R.few, R.fit, R.ris, R.led⟩))
    rw [R.mem, List.mem_cons]
    exact ⟨.inr, fun z => z.elim (fun z => z ▸ (R.mem k).mp hm) id⟩
  | none =>
    have hn : k ∉ es.toList.map tx := fun z => by
      obtain ⟨e, he, q2⟩ := List.mem_map.mp z
      have c := List.findIdx?_eq_none_iff.mp q e he
      rw [tx_is (R.good e he), q2] at c
      simp at c
    have pm := layNew_perm t es (hashStr w k) (.str k tk)
    have f1 := layNew_fits t es (hashStr w k) (.str k tk)
    have r1 := layNew_ris t es (hashStr w k) (.str k tk) R.ris
    have l1 := layNew_led t es (hashStr w k) (.str k tk)
    dsimp only
    generalize layNew t es (hashStr w k) (.str k tk) = Z at pm f1 r1 l1 ⊢
    obtain ⟨es1, t1, wd, gv⟩ := Z
    dsimp only at pm f1 r1 l1 ⊢
    rw [Array.toList_push] at pm
    have pc : es1.toList.Perm ((hashStr w k, Value.str k tk) :: es.toList) := pm.trans (List.perm_append_singleton _ _)
    have pk : (es1.toList.map tx).Perm (k :: es.toList.map tx) := pc.map tx
    have len : es1.size = es.size + 1 := by rw [← Array.length_toList, pc.length_eq, List.length_cons, Array.length_toList]
    have g1 : ∀ e ∈ es1.toList, TxE w e := fun e he => (List.mem_cons.mp (pc.mem_iff.mp he)).elim (fun z => by rw [z]; exact ⟨k, tk, rfl, rfl⟩) (R.good e)
    have n1 : (es1.toList.map tx).Nodup := pk.nodup_iff.mpr (List.nodup_cons.mpr ⟨hn, R.nd⟩)
    have m1 : ∀ x, x ∈ es1.toList.map tx ↔ x ∈ k :: M := fun x => by rw [pk.mem_iff, List.mem_cons, List.mem_cons, R.mem]
    have c1 : es1.size ≤ (k :: M).length := by rw [len, List.length_cons]; exact Nat.succ_le_succ R.few
    have hM : (k :: M).length ≤ 4000 := room
    have led : w.params.followText "set-order" = true ∨ t1.led = true := by rw [l1]; exact R.led
    have fin : ∀ h', Heap.SameBut a s.heap h' → TxSetE w h' a (k :: M) → Q true { s with heap := h' } := fun h' sb r => hQ _ h' sb r
    refine wpAny_bind (gv_ok _ ?_)
    by_cases hp : t1.plain = true
    · rw [if_pos hp, hashByValue_scannable 8 sc]
      refine wpAny_bind (wpAny_pure ?_)
      cases plainKind (Value.str k tk) with
      | true =>
        simp only [↓reduceIte]
        refine tset_tail ?_ R.ob R.ex R.dat g1 n1 m1 c1 hM f1 r1 led ?_
        · intro b s₁ Q' q; cases b <;> first | exact wpAny_pure q | exact wpAny_rule q
        · intro h' sb r; exact wpAny_pure (fin h' sb r)
      | false =>
        simp only [Bool.false_eq_true, ↓reduceIte]
        refine tset_tail (t1 := { t1 with plain := false }) ?_ R.ob R.ex R.dat g1 n1 m1 c1 hM (SetTable.fits_plain_off f1) r1 led ?_
        · intro b s₁ Q' q; cases b <;> first | exact wpAny_pure q | exact wpAny_rule q
        · intro h' sb r; exact wpAny_pure (fin h' sb r)
    · rw [if_neg hp]
      refine wpAny_bind (wpAny_pure ?_)
      simp only [↓reduceIte]
      refine tset_tail ?_ R.ob R.ex R.dat g1 n1 m1 c1 hM f1 r1 led ?_
      · intro b s₁ Q' q; cases b <;> first | exact wpAny_pure q | exact wpAny_rule q
      · intro h' sb r; exact wpAny_pure (fin h' sb r)
end
section
variable {P : Program} {w : World} {A : Around} {E : Value → Shared → Prop} {s : Shared}
/-- as it is made -/
abbrev set0 (w : World) : Obj := { cls := .type "set", dict := none, data := .set #[] 0 (.fresh 0 0 (!w.params.followText "set-order")) }
theorem tset_new {h : Heap} {a : Addr} (e : h.get? a = some (set0 w)) : TxSetE w h a [] := by
  refine ⟨_, #[], 0, _, e, ⟨rfl, rfl, rfl⟩, rfl, fun e he => by simp at he, by simp, fun k => by simp, Nat.zero_le _, rfl, List.Pairwise.nil, ?_⟩
  show _ ∨ (!w.params.followText "set-order") = true
  cases w.params.followText "set-order"
  · exact .inr rfl
  · exact .inl rfl
/-- the loop of set.update -/
theorem tset_loop {I : Addr} {fp wr : List Addr} {G : Array GenState → Array GenState → Prop} {n : Nat} {Pv : Nat → Value → Prop} {St : Nat → Shared → Prop} {R : Result → Shared → Prop}
    (W : WalksS P w A.in1 I fp wr G n Pv St) (D : Addr) (hD : D ∉ fp) (xs : List Str) (hn : n = xs.length) (few : xs.length < 4000) (hv : ∀ i v, Pv i v → ∃ t, v = .str (xs.getD i Str.empty) t) :
    ∀ (k i : Nat) (s : Shared), i + k = n → St i s → TxSetE w s.heap D (xs.take i).reverse →
      (∀ s', Moved (D :: wr) G s s' → TxSetE w s'.heap D xs.reverse → R (.ok (.ret .none)) s') → codeAny (model P w) A (.builtin "set.update.loop" ⟨[.ref D, .ref I], []⟩) R s
  | 0, i, s, hk, st, T, q => by
    have e : i = n := by omega
    subst e
    refine codeAny_builtin F.entry_set_update_loop ?_
    rw [Around.under_plainId F.plain_set_update_loop _]
    show wpAny _ A.in1 (pyNext (.ref I) >>= _) _ _ s
    refine wpAny_bind (W.done s _ _ st fun s1 mv => wpAny_pure (q s1 (mv.mono fun b hb => List.mem_cons_of_mem _ hb) ?_))
    obtain ⟨o, es, ep, t, T⟩ := T
    rw [hn, List.take_length] at T
    exact ⟨o, es, ep, t, T.at fun o e => mv.heap D o (fun z => hD (W.sub _ z)) e⟩
  | k + 1, i, s, hk, st, T, q => by
    have lt : i < n := by omega
    refine codeAny_builtin F.entry_set_update_loop ?_
    rw [Around.under_plainId F.plain_set_update_loop _]
    show wpAny _ A.in1 (pyNext (.ref I) >>= _) _ _ s
    refine wpAny_bind (W.item i s _ _ lt st fun v s1 pv st1 mv => ?_)
    obtain ⟨tk, rfl⟩ := hv i v pv
    obtain ⟨o, es, ep, t, T⟩ := T
    have T1 := T.at (h' := s1.heap) fun o e => mv.heap D o (fun z => hD (W.sub _ z)) e
    have nx : (xs.take (i + 1)).reverse = xs.getD i Str.empty :: (xs.take i).reverse := by
      rw [List.take_succ, List.reverse_append, List.getD_eq_getElem?_getD, List.getElem?_eq_getElem (by omega)]; rfl
    refine wpAny_bind (wpAny_holding (wpAny_holding (wpAny_bind ((strKind P w).pyHash (strKind_is P w _ tk) ?_))))
    refine tset_add (s := { s1 with toks := s1.toks + 1 }) T1 (by rw [List.length_reverse, List.length_take]; omega) fun b h' sb T2 => ?_
    rw [← nx] at T2
    refine wpAny_pure ⟨plainId_quiet F.plain_set_update_loop _, tset_loop W D hD xs hn few hv k (i + 1) _ (by omega) (W.frame _ s1 h' _ st1 (Nat.le_succ _) fun b hb o e => ?_) T2 fun s2 mv2 T3 => q s2 ?_ T3⟩
    · rw [sb.2 b fun z => hD (z ▸ hb)]; exact e
    · refine Moved.trans W.gtrans ((mv.mono fun b hb => List.mem_cons_of_mem _ hb).then_heap (Nat.le_succ _) fun b o hb e => ?_) mv2
      rw [sb.2 b fun z => hb (z ▸ List.mem_cons_self)]; exact e
/-- set(xs) of a list of texts -/
theorem call_tset {l : Addr} {its : Array Value} {xs : List Str} {Q : Value → Shared → Prop} (hh : A.handled = none) (hl : s.heap.IsList l its) (hi : StrsAre its.toList xs) (few : xs.length < 4000)
    (q : ∀ (h' : Heap) (tk : Nat), TxSetE w h' s.heap.objs.size xs.reverse → (∀ b o, s.heap.get? b = some o → h'.get? b = some o) → Q (.ref s.heap.objs.size) { s with heap := h', toks := tk }) :
    wpAny (model P w) A (call (.type "set") [.ref l]) Q E s := by
  obtain ⟨c, tl, _⟩ := F.called_set.mro
  have _ := F.called_set.made
  have _ := F.called_set.sub
  refine wpAny_call (codeAny_of_tree ?_)
  show wpAny _ _ (callAny (.type "set") _) _ _ _
  refine wpAny_pure ⟨Code.quiet_builtin _ (by decide +kernel), codeAny_builtin F.entry_type_call ?_⟩
  rw [Around.under_plain (weight_type_call_type "set" [.ref l] []) rfl]
  have _ := F.called_set.notType
  have _ := F.called_set.canCreate
  have _ := F.typeCall_set_1 (.ref l)
  repeat (any_goals (first | assumption | wp_step))
  refine codeAny_mono (code_set_led1 (.ref l) (E := E) (Q₁ := fun v s1 => v = .ref s.heap.objs.size ∧ s1 = { s with heap := s.heap.push (set0 w) }) ⟨rfl, rfl⟩) fun r s1 hr => ?_
  rcases r with e | fl
  · exact hr
  cases fl with
  | ret v =>
    obtain ⟨rfl, rfl⟩ := hr
    have at0 : (s.heap.push (set0 w)).get? s.heap.objs.size = some (set0 w) := Heap.get?_push_size _ rfl
    have ty : Shared.TypeIs { s with heap := s.heap.push (set0 w) } (.ref s.heap.objs.size) "set" := ⟨_, at0, rfl⟩
    have _ := F.called_set.init.lookup
    have _ := F.called_set.init.bind (.ref s.heap.objs.size)
    repeat (any_goals (first | assumption | wp_step))
    refine codeAny_mono (codeAny_call_builtin (R := wants (fun r s2 => r = .none ∧ ∃ h' tk, s2 = { s with heap := h', toks := tk } ∧ TxSetE w h' s.heap.objs.size xs.reverse ∧ ∀ b o, s.heap.get? b = some o → h'.get? b = some o) E)
      F.called_set.init.plain F.entry_set_init (check_set_init_1 ty ?_)) fun r2 s2 hr2 => ?_
    · obtain ⟨⟨cl, dd, da, sl⟩, gl, h1, nl, h2⟩ := hl
      simp only at h1 h2
      subst h1 h2
      have gl1 := Heap.get?_push_of_some (set0 w) gl
      have _ := F.sub_list_set
      have _ := F.sub_list_frozenset
      have _ : (Value.type "list" == Value.type "dict") = false := by decide
      have isl : (s.heap.push (set0 w)).IsList l its := ⟨_, gl1, rfl, nl, rfl⟩
      unfold Builtin.«set.__init__» noKeywords Builtin.Frozenset.updateFrom
      generalize hg : pyIter = it
      wp_walk
      subst hg
      refine wpAny_pyIter_list isl (wpAny_bind (wpAny_runValue ?_))
      have lt : l < s.heap.objs.size := Heap.lt_size gl
      have hh3 : A.in1.in1.in1.handled = none := by simp [hh]
      have ne1 : l ≠ (s.heap.push (set0 w)).objs.size := by rw [Heap.size_push]; exact Nat.ne_of_lt (Nat.lt_succ_of_lt lt)
      have out : s.heap.objs.size ∉ [(s.heap.push (set0 w)).objs.size, l] := by
        rw [Heap.size_push]; intro z
        rcases List.mem_cons.mp z with z | z
        · exact Nat.ne_of_lt (Nat.lt_succ_self _) z
        · exact Nat.ne_of_gt lt (List.mem_singleton.mp z)
      have sz : its.size = xs.length := by rw [← StrsAre.len_eq hi, Array.length_toList]
      refine tset_loop ((Walks.list hh3 _ l ne1 its).toS) _ out xs sz few (fun i v e => SS.strs_at hi i v (by rw [Array.getElem?_toList]; exact e)) its.size 0 _ (Nat.zero_add _)
        ⟨⟨_, Heap.get?_push_size _ rfl, rfl, rfl⟩, isl.push _⟩ (tset_new (Heap.get?_push_of_some _ at0)) fun s' mv T => ?_
      obtain ⟨hp, gn, dr, tk, os⟩ := s'
      have e1 : gn = s.gens := mv.gens
      have e2 : dr = s.drawn := mv.drawn
      have e3 : os = s.os := mv.os
      subst e1 e2 e3
      refine wpAny_pure (wpAny_pure ⟨rfl, hp, tk, rfl, T, fun b o e => mv.heap b o (fun z => ?_) (Heap.get?_push_of_some _ (Heap.get?_push_of_some _ e))⟩)
      have lb := Heap.lt_size e
      rcases List.mem_cons.mp z with z | z
      · exact Nat.ne_of_lt lb z
      · have z := List.mem_singleton.mp z
        rw [Heap.size_push] at z; exact Nat.ne_of_lt (Nat.lt_succ_of_lt lb) z
    · rcases r2 with e | fl2
      · exact hr2
      cases fl2 with
      | ret v =>
        obtain ⟨rfl, h', tk, rfl, T, k⟩ := hr2
        repeat (any_goals (first | assumption | wp_step))
        exact q h' tk T k
      | _ => exact hr2.elim
  | _ => exact hr.elim
theorem strs_of_tx : ∀ (vs : List Value), (∀ v ∈ vs, ∃ k tk, v = Value.str k tk) → StrsAre vs (vs.map fun v => tx (0, v))
  | [], _ => .nil
  | v :: vs, h => by
    obtain ⟨k, tk, rfl⟩ := h v List.mem_cons_self
    exact .cons k tk (strs_of_tx vs fun u hu => h u (List.mem_cons_of_mem _ hu))
/-- sorted of it -/
theorem sorted_tset {a : Addr} {M : List Str} {o : Obj} {es : Array (Int × Value)} {ep : Nat} {t : SetTable} {Q : Value → Shared → Prop} (R : TxSet w s.heap a M o es ep t) (hh : A.handled = none) (few : M.length < 64)
    (q : ∀ s' p (out : Array Value) (c : Nat) (ys : List Str), (∀ b o, s.heap.get? b = some o → s'.heap.get? b = some o) → s'.gens = s.gens → s'.os = s.os → s.heap.objs.size ≤ p →
      s'.heap.get? p = some (seqObj "list" out c) → StrsAre out.toList ys → sortedS ys = true → ys.Nodup → ys.length < 64 → (∀ k, k ∈ ys ↔ k ∈ M) → Q (.ref p) s') :
    wpAny (model P w) A (call (.builtin "sorted") [.ref a]) Q E s := by
  have f64 : es.size < 64 := Nat.lt_of_le_of_lt R.few few
  refine Calls.call_function_entry kind_sorted plain_sorted entry_sorted (args_sorted1 _) ?_
  unfold Builtin.«sorted»
  refine wpAny_bind (m := checkCount "sorted" 1 1 _) (wpAny_pure (wpAny_bind (collect_set (A := A.in1) hh ⟨o, R.ob, R.ex.1, R.dat⟩ R.fit (by unfold scanBound; omega) R.ris R.led fun s1 vs k1 z1 g1 o1 pm => ?_)))
  have lv : vs.length < 64 := by rw [pm.length_eq, List.length_map, Array.length_toList]; exact f64
  have all : ∀ v ∈ vs, ∃ k tk, v = Value.str k tk := fun v hv => by
    obtain ⟨e, he, rfl⟩ := List.mem_map.mp (pm.mem_iff.mp hv)
    obtain ⟨k, tk, e1, _⟩ := R.good e he
    exact ⟨k, tk, e1⟩
  have pk : (vs.map fun v => tx (0, v)).Perm (es.toList.map tx) := by
    have := pm.map fun v => tx (0, v)
    rw [List.map_map] at this
    exact this
  have sv := strs_of_tx vs all
  refine wpAny_bind (wpAny_newList ?_ (by rw [sizeLine_eq]; omega))
  have at1 : (s1.heap.push (seqObj "list" vs.toArray 0)).get? s1.heap.objs.size = some (seqObj "list" vs.toArray 0) := Heap.get?_push_size _ rfl
  refine wpAny_bind (wpAny_holding (wpAny_call_entry slot_list_sort ⟨_, at1, rfl⟩ entry_list_sort
    (list_sort_treeK strKind_oneLt at1 sv.keysOf (fun _ _ _ e => keyKind_strs (by rw [← e]; exact sv)) lv fun st' p1 p2 => ⟨_, rfl, ?_⟩) (args_list_sort _)))
  obtain ⟨ys, y1, y2, y3⟩ := sorted_out_str sv p1 p2
  obtain ⟨c, hc⟩ := sortedHeap_at (vs := vs) (out := (arrOf st').map (·.2)) at1
  have py := y2.trans pk
  refine wpAny_pure ⟨_, rfl, q _ s1.heap.objs.size _ c ys (fun b u e => ?_) g1 o1 z1 hc y1 y3 (py.nodup_iff.mpr R.nd) (by rw [y2.length_eq, List.length_map]; exact lv) fun k => by rw [py.mem_iff, R.mem]⟩
  have e1 := k1 b u e
  have l1 := Heap.lt_size e1
  show (sortedHeap (s1.heap.push (seqObj "list" vs.toArray 0)) s1.heap.objs.size vs ((arrOf st').map (·.2))).get? b = some u
  rw [sortedHeap_old (Nat.ne_of_lt l1) (by rw [size_push']; exact Nat.lt_succ_of_lt l1)]
  exact Heap.get?_push_of_some _ e1
end
section
variable {X : Cx}
/-- the set of texts at a -/
def TxSetO (w : World) (a : Addr) (M : List Str) : HO := .ext fun h => TxSetE w h a M
theorem tsetO_new {P : Program} {w : World} {H : Hp} {h : Heap} {a : Addr} {M : List Str} (R : TxSetE w h a M) : ObjOk P w H h a (TxSetO w a M) := by
  have ⟨o, es, ep, t, r⟩ := R
  refine ⟨R, ⟨o, r.ob⟩, fun h1 h2 p k => ?_⟩
  have ⟨o', es', ep', t', r'⟩ := (p : TxSetE w h1 a M)
  exact ⟨o', es', ep', t', r'.at k⟩
/-- set(xs), a list of texts -/
def rTxSet (K : PySem.W.Frag) (w : World) : List V → Hp → VK → Prop := fun vs H Q => ∃ (l : Addr) (xs : List Str), vs = [V.ref l] ∧ SqL K H l (xs.map V.str) ∧ xs.length < 4000 ∧ ∀ a, H a = none → Q (.ref a) (upd H a (TxSetO w a xs.reverse))
theorem cr_tset (hc : X.calm = true) : CallR X (.type "set") (rTxSet X.K X.w) := by
  intro pins s σ H vs us Q I r h
  obtain ⟨l, xs, rfl, hl, few, q⟩ := h
  rw [Vals.ref1 r]
  obtain ⟨its, rv, pl, _⟩ := I.list hl
  have hn : H s.heap.objs.size = none := I.hok.fresh (Nat.le_refl _)
  refine call_tset (P := X.prog) (w := X.w) (I.ok.hd hc) pl.isList (by simpa using rv.strs) few fun h' tk T k => ?_
  exact ⟨.ref s.heap.objs.size, upd H s.heap.objs.size (TxSetO X.w s.heap.objs.size xs.reverse), I.laid (t' := tk) k (Nat.le_refl _) (tsetO_new T), rfl, q _ hn⟩
/-- sorted of it -/
def rSortedTS (w : World) : List V → Hp → VK → Prop := fun vs H Q => ∃ (a : Addr) (M : List Str), vs = [V.ref a] ∧ H a = some (TxSetO w a M) ∧ M.length < 64 ∧
  ∀ (ys : List Str) (p : Addr), sortedS ys = true → ys.Nodup → (∀ k, k ∈ ys ↔ k ∈ M) → H p = none → Q (.ref p) (upd H p (.lst (ys.map V.str)))
theorem cr_sortedTS (hc : X.calm = true) : CallR X (.builtin "sorted") (rSortedTS X.w) := by
  intro pins s σ H vs us Q I r h
  obtain ⟨a, M, rfl, ha, few, q⟩ := h
  have ⟨o, es, ep, t, R⟩ := ((I.hok a _ ha).1 : TxSetE X.w s.heap a M)
  rw [Vals.ref1 r]
  refine sorted_tset R (I.ok.hd hc) few fun s' p out c ys k g os hp hg hy so nd ln mem => ?_
  have hlen : (ys.map V.str).length ≤ sizeLine := by rw [List.length_map, sizeLine_eq]; omega
  have hn : H p = none := I.hok.fresh hp
  have J : Inv X pins σ (upd H p (.lst (ys.map V.str))) { s with heap := s'.heap, gens := s'.gens, drawn := s'.drawn, toks := s'.toks } :=
    I.call (ch := []) (Un.laid k hp hn) (I.hok.laid k hp ⟨hlen, out.toList, c, vals_of_strs hy, hg⟩) (by rw [g]; exact I.bare) (fun _ z => nomatch z)
  have e : s' = { s with heap := s'.heap, gens := s'.gens, drawn := s'.drawn, toks := s'.toks } := by
    cases s'; cases s; cases os; rfl
  rw [e]
  exact ⟨.ref p, _, J, rfl, q ys p so nd mem hn⟩
end
end TV

set_option Elab.async false
set_option linter.all false
set_option maxRecDepth 100000
set_option maxHeartbeats 4000000
/-! TVD: sorted of nested data. -/
namespace TV
open PySem PySem.Spec PyProof.Rows L2
abbrev leD (p q : V × PyData) : Bool := PySem.W.dataLe false (fun r : V × PyData => r.2) p q
theorem vals_each : ∀ {ps : List (V × PyData)} {us : List Value}, Vals (ps.map (·.1)) us → PySem.W.EachIs (fun u (p : V × PyData) => RelV p.1 u) us ps
  | [], _, .nil => .nil
  | p :: ps, _, .cons r t => .cons r (vals_each t)
theorem each_vals : ∀ {ps : List (V × PyData)} {us : List Value}, PySem.W.EachIs (fun u (p : V × PyData) => RelV p.1 u) us ps → Vals (ps.map (·.1)) us
  | [], _, .nil => .nil
  | p :: ps, _, .cons r t => .cons r (each_vals t)
section
variable {X : Cx}
/-- sorted(xs): nested data, of one kind -/
def rSortedD (K : PySem.W.Frag) : List V → Hp → VK → Prop := fun vs H Q => ∃ (a : Addr) (ps : List (V × PyData)), vs = [V.ref a] ∧ SqL K H a (ps.map (·.1)) ∧ (∀ p ∈ ps, Dp K H p.1 p.2) ∧ PySem.W.AllAlike (ps.map (·.2)) ∧ PySem.W.Sortable (ps.map (·.2)) ∧ (∀ p ∈ ps, p.2.depth ≤ 60) ∧
  ∀ p, H p = none → Q (.ref p) (upd H p (.lst ((ps.mergeSort leD).map (·.1))))
theorem cr_sortedD (hu : X.A.units + 64 < cLine) : CallR X (.builtin "sorted") (rSortedD X.K) := by
  intro pins s σ H vs us Q I r h
  obtain ⟨a, ps, rfl, hl, hd, hal, hk, hdep, q⟩ := h
  rw [Vals.ref1 r]
  obtain ⟨its, rv, pl, hz⟩ := I.list hl
  have ln : its.length = ps.length := by rw [← rv.length, List.length_map]
  have e := vals_each rv
  have er : PySem.W.EachIs (fun v (p : V × PyData) => ∃ as, Reads s.heap v p.2 as) its ps := by
    have := PySem.W.each_mem e
    exact this.mono fun u p ⟨r, hp⟩ => Dp.reads I _ _ _ (hd p hp) r
  refine PySem.W.sorted_data (enc := fun p : V × PyData => p.2) (vs := its) pl.isList e er hal hk (by simpa using hz) (fun b hb => by have := hdep b hb; omega) fun out hlen ho => ?_
  have hn : H (s.heap.objs.size + 1) = none := I.hok.fresh (Nat.le_succ _)
  have hv := each_vals ho
  have hlen2 : ((ps.mergeSort leD).map (·.1)).length ≤ sizeLine := by rw [List.length_map, List.length_mergeSort]; simpa using hz
  obtain ⟨c, hc⟩ := PyProof.Rows.sortedAll_at s.heap its out.toArray
  exact ⟨.ref _, upd H (s.heap.objs.size + 1) (.lst ((ps.mergeSort leD).map (·.1))), I.laid (t' := s.toks) (fun _ _ => PyProof.Rows.sortedAll_old) (Nat.le_succ _) ⟨hlen2, out, c, hv, hc⟩, rfl, q _ hn⟩
end
end TV

set_option Elab.async false
set_option linter.all false
set_option maxRecDepth 100000
set_option maxHeartbeats 4000000
/-! TV3: the small language and what it does over tree values. -/
namespace TV
open PySem PySem.Spec PyProof.Rows L2

inductive Op
  | bin (o : Operator) | cmp (o : CmpOp) | neg | inv
  | len | abs | int | str | isi (n : String) | max | min | sum | all | any
  | idx | slc (lo hi : Bool) | rev | list | tuple | sorted | sortset | lrng | lenset | get | index | count

inductive Tg | one (i : Nat) | many (is : List Nat)
inductive Mt | append | extend | insert | reverse | clear | pop | remove | sdapp

/-- what is walked: a list, a tuple, a text, a dict's keys -/
inductive Sk | L | T | S | K
mutual
inductive Ex
  | var (i : Nat)
  | cst (c : T)
  | pth (i : Nat) (ks : List Int)
  | op (o : Op) (es : Exs)
  | lst (es : Exs) | tup (es : Exs)
  | dic (ks vs : Exs) | dit0
  | call (f : String) (es : Exs)
  | and (a b : Ex) | or (a b : Ex) | not (a : Ex)
  | ite (c a b : Ex)
  | chain (o1 o2 : CmpOp) (a b c : Ex)
  | comp (elt : Ex) (tg : Tg) (it : Itr) (cond : Exs)
  | srtk (e : Ex) (f : String)
  | pop (i : Nat) (ks : List Int) (es : Exs)
  | lend (f : String) (ds : List (Bool × Nat))
inductive Exs
  | nil | cons (e : Ex) (es : Exs)
inductive Itr
  | seq (k : Sk) (fz : Bool) (e : Ex) | rng (es : Exs) | enm (fz : Bool) (e : Ex) | zip (es : Exs) | rev (e : Ex) | itm (e : Ex)
end
mutual
inductive Sm
  | set (i : Nat) (e : Ex)
  | setm (is : List Nat) (e : Ex)
  | par (is : List Nat) (es : Exs)
  | aug (i : Nat) (o : Operator) (e : Ex)
  | sub (i : Nat) (ks : List Int) (k : Ex) (e : Ex)
  | mut (i : Nat) (ks : List Int) (m : Mt) (es : Exs)
  | exp (e : Ex)
  | ret (e : Ex) | retn
  | iff (c : Ex) (a b : Sms)
  | whl (c : Ex) (b : Sms)
  | for_ (tg : Tg) (it : Itr) (b : Sms)
  | form (en : Option Nat) (j i : Nat) (b : Sms)
  | brk | cnt | pass
  | rais (c : String)
inductive Sms
  | nil | cons (s : Sm) (ss : Sms)
end

inductive Opd | v (t : T) | s (i : Nat) (ks : List Int)
inductive Out (α : Type) | stuck | err (c : String) (L : Slots) | ok (a : α) (L : Slots)
def Out.bind {α β : Type} (x : Out α) (k : α → Slots → Out β) : Out β :=
  match x with
  | .stuck => .stuck
  | .err c L => .err c L
  | .ok a L => k a L
theorem Out.bind_ok {α β : Type} (a : α) (L : Slots) (k : α → Slots → Out β) : (Out.ok a L).bind k = k a L := rfl
theorem Out.bind_err {α β : Type} (c : String) (L : Slots) (k : α → Slots → Out β) : (Out.err c L).bind k = .err c L := rfl
theorem Out.bind_stuck {α β : Type} (k : α → Slots → Out β) : (Out.stuck : Out α).bind k = .stuck := rfl
def Out.of {α : Type} : Option (α × Slots) → Out α
  | none => .stuck
  | some (a, L) => .ok a L
inductive FOut | stuck | err (c : String) | ok (r : T) (outs : List T)
abbrev Funs := String → List T → FOut
inductive Fl | nx | rt (t : T) | bk | ct

/-! ### reading -/
def LINE : Nat := sizeLine
def pathT : T → List Int → Option T
  | t, [] => some t
  | .lst _ xs, k :: ks => (atI xs k).bind fun x => pathT x ks
  | .tup _ xs, k :: ks => (atI xs k).bind fun x => pathT x ks
  | _, _ :: _ => none
def slot (L : Slots) (i : Nat) : Option T := (L[i]?).bind id
def rd (L : Slots) : Opd → Option T
  | .v t => some t
  | .s i ks => (slot L i).bind fun t => pathT t ks
def rds (L : Slots) : List Opd → Option (List T)
  | [] => some []
  | p :: ps => (rd L p).bind fun t => (rds L ps).bind fun ts => some (t :: ts)

def intsOf : List T → Option (List Int)
  | [] => some []
  | .int i :: ts => (intsOf ts).map (i :: ·)
  | _ :: _ => none
def blsOf : List T → Option (List Bool)
  | [] => some []
  | .bl b :: ts => (blsOf ts).map (b :: ·)
  | _ :: _ => none
def strsOf : List T → Option (List Str)
  | [] => some []
  | .str b :: ts => (strsOf ts).map (b :: ·)
  | _ :: _ => none

/-! no dict in it: how deep it is nested -/
mutual
def dep : T → Nat
  | .lst _ xs => deps xs + 1
  | .tup _ xs => deps xs + 1
  | .dic _ _ _ => 1000
  | .dit _ _ _ => 1000
  | .lkd _ _ => 1000
  | .scr _ => 1000
  | _ => 0
def deps : List T → Nat
  | [] => 0
  | t :: ts => Nat.max (dep t) (deps ts)
end
/-! values equal, as Python has it -/
mutual
def eqT : T → T → Bool
  | .non, u => match u with | .non => true | _ => false
  | .bl a, u => match u with | .bl b => a == b | .int j => (if a then 1 else 0) == j | _ => false
  | .int i, u => match u with | .bl b => i == (if b then 1 else 0) | .int j => i == j | _ => false
  | .str x, u => match u with | .str y => x == y | _ => false
  | .lst _ xs, u => match u with | .lst _ ys => eqTs xs ys | _ => false
  | .tup _ xs, u => match u with | .tup _ ys => eqTs xs ys | _ => false
  | _, _ => false
def eqTs : List T → List T → Bool
  | [], ys => match ys with | [] => true | _ :: _ => false
  | x :: xs, ys => match ys with | [] => false | y :: ys => eqT x y && eqTs xs ys
end
def eqS (a b : T) : Option Bool := if dep a ≤ 60 ∧ dep b ≤ 60 then some (eqT a b) else none
def scl : T → Bool
  | .non => true | .bl _ => true | .int _ => true | .str _ => true | _ => false
def keyOf : T → Option Key
  | .int i => some (.inl i)
  | .str s => some (.inr s)
  | _ => none
def keysOf : List T → Option (List Key)
  | [] => some []
  | t :: ts => (keyOf t).bind fun k => (keysOf ts).bind fun ks => some (k :: ks)
/-- the value at a key -/
def dget {κ : Type} [DecidableEq κ] (k : κ) : List κ → List T → Option T
  | a :: ks, x :: xs => if a = k then some x else dget k ks xs
  | _, _ => none
/-- in its place, or at the end -/
def dput {κ : Type} [DecidableEq κ] (k : κ) (y : T) : List κ → List T → List κ × List T
  | a :: ks, x :: xs => if a = k then (a :: ks, y :: xs) else let r := dput k y ks xs; (a :: r.1, x :: r.2)
  | _, _ => ([k], [y])
def inS (a c : T) : Option Bool :=
  match c with
  | .lst _ xs => if dep a ≤ 60 ∧ deps xs ≤ 59 then some (xs.any fun z => eqT z a) else none
  | .tup _ xs => if scl a ∧ xs.all scl then some (xs.any fun z => eqT z a) else none
  | .str z => match a with | .str x => if x.length = 1 then some (decide (x.cps.getD 0 0 ∈ z.cps.toList)) else none | _ => none
  | .dic _ ks xs => (keyOf a).map fun k => (dget k ks xs).isSome
  | .lkd ks xs => (keyOf a).map fun k => (dget k ks xs).isSome
  | _ => none
def isNon : T → Bool
  | .non => true
  | _ => false
def strLt (a b : Str) : Bool := decide (a.cps.toList < b.cps.toList)
def cmpS (o : CmpOp) (a b : T) : Option T :=
  match o with
  | .Eq => (eqS a b).map .bl
  | .NotEq => (eqS a b).map fun r => .bl !r
  | .In => (inS a b).map .bl
  | .NotIn => (inS a b).map fun r => .bl !r
  | .Is => if isNon b then some (.bl (isNon a)) else none
  | .IsNot => if isNon b then some (.bl !(isNon a)) else none
  | .Lt => match a, b with | .int i, .int j => some (.bl (decide (i < j))) | .str i, .str j => some (.bl (strLt i j)) | _, _ => none
  | .LtE => match a, b with | .int i, .int j => some (.bl (decide (i ≤ j))) | .str i, .str j => some (.bl !(strLt j i)) | _, _ => none
  | .Gt => match a, b with | .int i, .int j => some (.bl (decide (j < i))) | .str i, .str j => some (.bl (strLt j i)) | _, _ => none
  | .GtE => match a, b with | .int i, .int j => some (.bl (decide (j ≤ i))) | .str i, .str j => some (.bl !(strLt i j)) | _, _ => none
def bits (i : Int) : Nat := Builtin.Int.intBits i
def binS (o : Operator) (a b : T) : Option T :=
  match a, b with
  | .int i, .int j =>
    match o with
    | .Add => some (.int (i + j))
    | .Sub => some (.int (i - j))
    | .Mult => if bits i + bits j ≤ 134217728 then some (.int (i * j)) else none
    | .FloorDiv => if 0 < j ∧ j.natAbs.log2 < 9000 then some (.int (i / j)) else none
    | .Mod => if 0 < j then some (.int (i % j)) else none
    | .Pow => if 0 ≤ j ∧ j ≤ 1000000 ∧ i.natAbs < 18446744073709551616 then some (.int (i ^ j.toNat)) else none
    | .LShift => if 0 ≤ j ∧ (bits i : Int) + j ≤ 134217728 then some (.int (i * 2 ^ j.toNat)) else none
    | .RShift => if 0 ≤ j then some (.int (i / 2 ^ j.toNat)) else none
    | .BitAnd => some (.int (Builtin.bitAnd i j))
    | .BitOr => some (.int (Builtin.bitOr i j))
    | .BitXor => some (.int (Builtin.bitXor i j))
    | _ => none
  | .str x, .str y => match o with
    | .Add => if x.length + y.length ≤ LINE then some (.str (x ++ y)) else none
    | _ => none
  | .str x, .int k => match o with
    | .Mult => if 0 ≤ k ∧ k ≤ 1000 ∧ x.length ≤ 1000 then some (.str ⟨((List.replicate k.toNat x.cps.toList).flatten).toArray⟩) else none
    | _ => none
  | _, _ => none
def tyOf : T → Option String
  | .non => some "NoneType" | .bl _ => some "bool" | .int _ => some "int" | .str _ => some "str" | .lst _ _ => some "list" | .tup _ _ => some "tuple"
  | .dic _ _ _ => some "dict" | .dit _ _ _ => some "dict" | _ => none
def isiS (n : String) (a : T) : Option T :=
  if n = "str" ∨ n = "list" ∨ n = "tuple" ∨ n = "bool" ∨ n = "dict" then (tyOf a).map fun m => .bl (decide (m = n))
  else if n = "int" then (tyOf a).map fun m => .bl (decide (m = "int" ∨ m = "bool")) else none
def lenS : T → Option T
  | .str s => if s.length ≤ LINE then some (.int s.length) else none
  | .lst _ xs => some (.int xs.length)
  | .tup _ xs => some (.int xs.length)
  | .scr ns => some (.int ns.length)
  | .dic _ ks _ => some (.int ks.length)
  | _ => none
/-- what gives a number, a truth, a text -/
def sop (o : Op) (ts : List T) : Option T :=
  match o, ts with
  | .bin o, [a, b] => binS o a b
  | .cmp o, [a, b] => cmpS o a b
  | .neg, [.int i] => some (.int (-i))
  | .inv, [.int i] => some (.int (Builtin.bitNot i))
  | .len, [a] => lenS a
  | .abs, [.int i] => some (.int (if i < 0 then -i else i))
  | .int, [.int i] => some (.int i)
  | .int, [.bl b] => some (.int (if b then 1 else 0))
  | .str, [.int i] => if i.natAbs.log2 < 1920 then some (.str (toString i)) else none
  | .isi n, [a] => isiS n a
  | .max, [.int i, .int j] => some (.int (if j > i then j else i))
  | .min, [.int i, .int j] => some (.int (if j < i then j else i))
  | .sum, [.lst _ xs] => (intsOf xs).map fun ns => .int ns.sum
  | .all, [.lst _ xs] => (blsOf xs).map fun bs => .bl (bs.all id)
  | .any, [.lst _ xs] => (blsOf xs).map fun bs => .bl (bs.any id)
  | _, _ => none

/-! ### what takes items -/
def kidL (p : Opd) (L : Slots) : Option (List T × Slots) :=
  match p with
  | .v (.lst _ xs) => some (xs, L)
  | .s i [] => match slot L i with
    | some (.lst true xs) => some (frzs xs, L.set i (some (.lst true (frzs xs))))
    | some (.lst false xs) => some (xs, L)
    | _ => none
  | .s i ks => match rd L (.s i ks) with
    | some (.lst false xs) => some (xs, L)
    | _ => none
  | _ => none
def kidT (p : Opd) (L : Slots) : Option (List T × Slots) :=
  match p with
  | .v (.tup _ xs) => some (xs, L)
  | .s i [] => match slot L i with
    | some (.tup true xs) => some (frzs xs, L.set i (some (.tup true (frzs xs))))
    | some (.tup false xs) => some (xs, L)
    | _ => none
  | .s i ks => match rd L (.s i ks) with
    | some (.tup false xs) => some (xs, L)
    | _ => none
  | _ => none
def signAt (s : Str) (j : Int) : Option T := if s.length ≤ LINE then (atI s.cps.toList j).map fun c => .str ⟨#[c]⟩ else none
/-- x[j]; of a held thing the item is no longer held -/
def itemAt (p : Opd) (x : T) (L : Slots) (u : T) : Option (T × Slots) :=
  match p with
  | .v _ => some (x, L)
  | .s i ks => if isOwn x then (if ks = [] then some (frz x, L.set i (some u)) else none) else some (x, L)
def idxL (p : Opd) (xs : List T) (j : Int) (L : Slots) : Option (T × Slots) :=
  (ixN xs.length j).bind fun n => (xs[n]?).bind fun x => itemAt p x L (.lst true (xs.set n (frz x)))
def idxT (p : Opd) (xs : List T) (j : Int) (L : Slots) : Option (T × Slots) :=
  (ixN xs.length j).bind fun n => (xs[n]?).bind fun x => itemAt p x L (.tup true (xs.set n (frz x)))
def idxD (p : Opd) (ks : List Key) (xs : List T) (k : T) (L : Slots) : Option (T × Slots) :=
  (keyOf k).bind fun k => (dget k ks xs).bind fun x =>
    match p with
    | .v _ => some (x, L)
    | .s _ _ => if isOwn x then none else some (x, L)
def getD (ks : List Key) (xs : List T) (k d : T) (r : Opd) (L : Slots) : Option (T × Slots) :=
  (keyOf k).bind fun k =>
    match dget k ks xs with
    | some x => if isOwn x then none else some (x, L)
    | none => match r with
      | .v t => some (t, L)
      | .s _ _ => if isOwn d then none else some (d, L)
def cutT (xs : List T) (lo hi : Option Int) : List T := (xs.drop (HT.sIx xs.length 0 lo)).take (HT.sIx xs.length xs.length hi - HT.sIx xs.length 0 lo)
def slcS (s : Str) (lo hi : Option Int) (L : Slots) : Option (T × Slots) := if s.length ≤ LINE then some (.str (cutS s lo hi), L) else none
def slcL (p : Opd) (lo hi : Option Int) (L : Slots) : Option (T × Slots) := (kidL p L).map fun r => (.lst true (cutT r.1 lo hi), r.2)
def strSort (xs : List Str) : List Str := xs.mergeSort fun a b => !(strLt b a)
/-- the texts of a list, unlike, in order -/
def uniqS : List Str → List Str
  | [] => []
  | x :: xs => if x ∈ uniqS xs then uniqS xs else x :: uniqS xs
theorem uniqS_mem {k : Str} : ∀ {xs : List Str}, k ∈ uniqS xs ↔ k ∈ xs
  | [] => Iff.rfl
  | x :: xs => by
    unfold uniqS
    split
    · rename_i h
      rw [uniqS_mem, List.mem_cons]
      exact ⟨.inr, fun z => z.elim (fun e => e ▸ uniqS_mem.mp h) id⟩
    · rw [List.mem_cons, List.mem_cons, uniqS_mem]
theorem uniqS_nodup : ∀ {xs : List Str}, (uniqS xs).Nodup
  | [] => .nil
  | x :: xs => by
    unfold uniqS
    split
    · exact uniqS_nodup
    · rename_i h; exact List.nodup_cons.mpr ⟨h, uniqS_nodup⟩
def strSet (xs : List Str) : List Str := strSort (uniqS xs)
def intSort (xs : List Int) : List Int := xs.mergeSort fun a b => decide (a ≤ b)
mutual
def toD : T → PyData
  | .bl b => .bool b
  | .int i => .int i
  | .str s => .str s
  | .lst _ xs => .list (toDs xs)
  | .tup _ xs => .tuple (toDs xs)
  | _ => .none
def toDs : List T → List PyData
  | [] => []
  | t :: ts => toD t :: toDs ts
end
def tupD : PyData → Bool
  | .tuple (_ :: _) => true
  | _ => false
def oneD : PyData → Bool
  | .none => false
  | .tuple _ => false
  | _ => true
/-- nested data of one kind, as Python can sort it -/
def srtD (xs : List T) : Bool := ((toDs xs).all tupD || (toDs xs).all oneD) && ((toDs xs).all fun a => (toDs xs).all fun b => PySem.W.alike a b) && decide (deps xs ≤ 60)
def leT (a b : T) : Bool := PySem.W.dataLe false toD a b
/-- texts (fewer than 64) or numbers, in order -/
def sortT0 (xs : List T) : Option (List T) :=
  match strsOf xs with
  | some ss => if ss.length < 64 then some ((strSort ss).map .str) else none
  | none => (intsOf xs).map fun ns => (intSort ns).map .int
/-- or nested data -/
def sortT (xs : List T) : Option (List T) :=
  match sortT0 xs with
  | some zs => some zs
  | none => if srtD xs then some (xs.mergeSort leT) else none
def sortL (p : Opd) (L : Slots) : Option (T × Slots) := (kidL p L).bind fun r => (sortT r.1).map fun xs => (.lst true xs, r.2)
def sortSetL (p : Opd) (L : Slots) : Option (T × Slots) := (kidL p L).bind fun r => (strsOf r.1).bind fun ss => if ss.length < 64 then some (.lst true ((strSet ss).map .str), r.2) else none
/-- a .. b - 1 -/
def rgT (a b : Int) : List T := (List.range (b - a).toNat).map fun i => .int (a + (i : Nat))
def rgRun (a b : Int) (L : Slots) : Option (T × Slots) := if -(2 ^ 62) ≤ a ∧ a < 2 ^ 62 ∧ -(2 ^ 62) ≤ b ∧ b < 2 ^ 62 ∧ (b - a).toNat ≤ 2 ^ 24 then some (.lst true (rgT a b), L) else none
def catRun (p q : Opd) (L : Slots) : Option (T × Slots) :=
  (kidL p L).bind fun a => (kidL q a.2).bind fun b => if a.1.length + b.1.length ≤ LINE then some (.lst true (a.1 ++ b.1), b.2) else none
def catTRun (p q : Opd) (L : Slots) : Option (T × Slots) :=
  (kidT p L).bind fun a => (kidT q a.2).bind fun b => if (a.1.length + b.1.length ≤ LINE ∧ a.1 ≠ [] ∧ b.1 ≠ []) then some (.tup true (a.1 ++ b.1), b.2) else none
/-- by what the operands are -/
def opK (o : Op) (ts : List T) (ps : List Opd) (L : Slots) : Option (T × Slots) :=
  match o, ts, ps with
  | .idx, [.str s, .int j], _ => (signAt s j).map fun c => (c, L)
  | .idx, [.scr ns, .int j], _ => (atI ns j).map fun n => (.int n, L)
  | .idx, [.lst _ xs, .int j], [p, _] => idxL p xs j L
  | .idx, [.tup _ xs, .int j], [p, _] => idxT p xs j L
  | .idx, [.dic _ ks xs, k], [p, _] => idxD p ks xs k L
  | .idx, [.lkd ks xs, k], [p, _] => idxD p ks xs k L
  | .get, [.dic _ ks xs, k, d], [_, _, r] => getD ks xs k d r L
  | .bin .Add, [.lst _ _, .lst _ _], [p, q] => catRun p q L
  | .bin .Add, [.tup _ _, .tup _ _], [p, q] => catTRun p q L
  | .slc false true, [.str s, .int h], _ => slcS s none (some h) L
  | .slc true false, [.str s, .int l], _ => slcS s (some l) none L
  | .slc true true, [.str s, .int l, .int h], _ => slcS s (some l) (some h) L
  | .slc false true, [.lst _ _, .int h], [p, _] => slcL p none (some h) L
  | .slc true false, [.lst _ _, .int l], [p, _] => slcL p (some l) none L
  | .slc true true, [.lst _ _, .int l, .int h], [p, _, _] => slcL p (some l) (some h) L
  | .list, [.lst _ _], [p] => (kidL p L).map fun r => (.lst true r.1, r.2)
  | .list, [.tup _ _], [p] => (kidT p L).map fun r => (.lst true r.1, r.2)
  | .tuple, [.lst _ _], [p] => (kidL p L).map fun r => (.tup true r.1, r.2)
  | .sorted, [.lst _ _], [p] => sortL p L
  | .sortset, [.lst _ _], [p] => sortSetL p L
  | .lrng, [.int b], _ => rgRun 0 b L
  | .lrng, [.int a, .int b], _ => rgRun a b L
  | o, ts, _ => (sop o ts).map fun t => (t, L)
def opRun (o : Op) (ps : List Opd) (L : Slots) : Option (T × Slots) := (rds L ps).bind fun ts => opK o ts ps L
end TV

set_option Elab.async false
set_option linter.all false
set_option maxRecDepth 100000
set_option maxHeartbeats 4000000
/-! TV4: expressions and statements run. -/
namespace TV
open PySem PySem.Spec PyProof.Rows L2

/-! ### joints -/
/-- by a truth -/
def onB {β : Type} (t : T) (a b : Out β) : Out β :=
  match t with
  | .bl true => a
  | .bl false => b
  | _ => .stuck
def onO {α β : Type} (x : Option α) (k : α → Out β) : Out β :=
  match x with
  | some a => k a
  | none => .stuck
/-- an error is no way out of it -/
def noErr {α β : Type} (x : Out α) (k : α → Slots → Out β) : Out β :=
  match x with
  | .ok a L => k a L
  | _ => .stuck
def onF (f : Fl) (k : Out Fl) (L : Slots) : Out Fl :=
  match f with
  | .nx => k
  | f => .ok f L
def loopF (f : Fl) (k : Out Fl) (L : Slots) : Out Fl :=
  match f with
  | .nx => k
  | .ct => k
  | .bk => .ok .nx L
  | .rt r => .ok (.rt r) L
def cB {β : Type} (c : Bool) (a b : Out β) : Out β := if c then a else b
/-- nothing locked is handed on -/
def nlkO (r : T × Slots) : Out T := if isLkd r.1 then .stuck else .ok r.1 r.2
/-! ### which slots are stored -/
def mT (i : Nat) : Tg → Bool
  | .one j => i == j
  | .many js => js.contains i
mutual
def aS (i : Nat) : Sm → Bool
  | .set j _ => i == j
  | .setm js _ => js.contains i
  | .par js _ => js.contains i
  | .aug j _ _ => i == j
  | .iff _ a b => aSs i a || aSs i b
  | .whl _ b => aSs i b
  | .for_ tg _ b => mT i tg || aSs i b
  | .form en j k b => en == some i || i == j || i == k || aSs i b
  | _ => false
def aSs (i : Nat) : Sms → Bool
  | .nil => false
  | .cons s ss => aS i s || aSs i ss
end
/-- operands that change nothing -/
def simp1 : Ex → Bool
  | .var _ => true | .cst _ => true | .pth _ _ => true | _ => false
def simpEs : Exs → Bool
  | .nil => true
  | .cons e es => simp1 e && simpEs es

/-! ### calls -/
def wipeL (L : Slots) : List Nat → Slots
  | [] => L
  | j :: js => (wipeL L js).set j none
def mutsOf : List Bool → List Opd → Option (List Nat)
  | true :: ms, .s i [] :: ps => (mutsOf ms ps).map (i :: ·)
  | true :: _, _ => none
  | false :: ms, _ :: ps => mutsOf ms ps
  | _, _ => some []
/-- the slots of what is only lent -/
def lent : List Bool → List Opd → List Nat
  | true :: ms, _ :: ps => lent ms ps
  | false :: ms, .s i _ :: ps => i :: lent ms ps
  | false :: ms, .v _ :: ps => lent ms ps
  | [], .s i _ :: ps => i :: lent [] ps
  | [], .v _ :: ps => lent [] ps
  | _, [] => []
def frzO : List Bool → List Opd → Slots → Option Slots
  | true :: ms, _ :: ps, L => frzO ms ps L
  | _ :: ms, .v _ :: ps, L => frzO ms ps L
  | [], .v _ :: ps, L => frzO [] ps L
  | _ :: ms, .s i ks :: ps, L => match slot L i with
    | some t => if ks = [] then (if isLkd t then none else frzO ms ps (L.set i (some (frz t)))) else if shr t then frzO ms ps L else none
    | none => none
  | [], .s i ks :: ps, L => match slot L i with
    | some t => if ks = [] then (if isLkd t then none else frzO [] ps (L.set i (some (frz t)))) else if shr t then frzO [] ps L else none
    | none => none
  | _, [], L => some L
def setOuts : List Nat → List T → Slots → Option Slots
  | [], [], L => some L
  | i :: is, t :: ts, L => setOuts is ts (L.set i (some t))
  | _, _, _ => none
def noDup : List Nat → Bool
  | [] => true
  | i :: is => !is.contains i && noDup is
/-- behind a call -/
def callBack (ms : List Bool) (ps : List Opd) (is : List Nat) (L : Slots) (r : FOut) : Out T :=
  match r with
  | .stuck => .stuck
  | .err c => .err c (wipeL L is)
  | .ok r outs => if isLkd r then .stuck else
    if cln r && clns outs then onO (setOuts is outs L) fun L1 => .ok r L1
    else onO (frzO ms ps L) fun L0 => onO (setOuts is outs L0) fun L1 => .ok r L1
def callRun (Φ : Funs) (sg : String → List Bool) (f : String) (ps : List Opd) (L : Slots) : Out T :=
  onO (rds L ps) fun ts => onO (mutsOf (sg f) ps) fun is =>
    if noDup is && is.all (fun i => !(lent (sg f) ps).contains i) then callBack (sg f) ps is L (Φ f ts) else .stuck

/-! ### loops -/
def entT : Tg → T → Slots → Option Slots
  | .one j, t, L => some (L.set j (some t))
  | .many js, .tup _ xs, L => if xs.length = js.length then some ((js.zip xs).foldl (fun L p => L.set p.1 (some p.2)) L) else none
  | .many js, .lst _ xs, L => if xs.length = js.length then some ((js.zip xs).foldl (fun L p => L.set p.1 (some p.2)) L) else none
  | .many _, _, _ => none
def tgs : Tg → List Nat
  | .one j => [j]
  | .many js => js
def backL (L0 L : Slots) : List Nat → Slots
  | [] => L
  | j :: js => (backL L0 L js).set j ((L0[j]?).bind id)
def compRun (ent : T → Slots → Option Slots) (cond : Slots → Out Bool) (elt : Slots → Out T) : List T → Slots → Out (List T)
  | [], L => .ok [] L
  | t :: ts, L => onO (ent t L) fun L1 => noErr (cond L1) fun b L2 =>
    cB b (noErr (elt L2) fun y L3 => noErr (compRun ent cond elt ts L3) fun ys L4 => .ok (y :: ys) L4) (compRun ent cond elt ts L2)
def forRun (ent : T → Slots → Option Slots) (body : Slots → Out Fl) : List T → Slots → Out Fl
  | [], L => .ok .nx L
  | t :: ts, L => onO (ent t L) fun L1 => (body L1).bind fun f L2 => loopF f (forRun ent body ts L2) L2
def whlRun (c : Slots → Out Bool) (body : Slots → Out Fl) : Nat → Slots → Out Fl
  | 0, _ => .stuck
  | n + 1, L => (c L).bind fun b L1 => cB b ((body L1).bind fun f L2 => loopF f (whlRun c body n L2) L2) (.ok .nx L1)
def formRun (ent : Nat → T → Slots → Slots) (j : Nat) (body : Slots → Out Fl) : Nat → List T → Slots → Out (Fl × List T)
  | _, [], L => .ok (.nx, []) L
  | n, t :: ts, L => (body (ent n t L)).bind fun f L2 => onO (slot L2 j) fun y => match f with
    | .nx => (formRun ent j body (n + 1) ts (L2.set j none)).bind fun r L3 => .ok (r.1, y :: r.2) L3
    | .ct => (formRun ent j body (n + 1) ts (L2.set j none)).bind fun r L3 => .ok (r.1, y :: r.2) L3
    | .bk => .ok (.nx, y :: ts) (L2.set j none)
    | .rt r => .ok (.rt r, []) L2
def keyT : Key → T
  | .inl i => .int i
  | .inr s => .str s
def signs (s : Str) : List T := s.cps.toList.map fun c => .str ⟨#[c]⟩
/-- what is walked: the items, the slots meanwhile, what goes back into which slot; fz: what is held is no longer held, in place of out meanwhile -/
def itFrzS (fz : Bool) (i : Nat) (ks : List Int) (L : Slots) (t : Option T) : Option (List T × Slots × Option (Nat × T)) :=
  match t with
  | some (.lst false xs) => some (xs, L, none)
  | some (.lst true xs) => if ks = [] then (if fz then some (frzs xs, L.set i (some (.lst false (frzs xs))), none) else some (frzs xs, L.set i none, some (i, .lst true (frzs xs)))) else none
  | _ => none
def itFrz (fz : Bool) (p : Opd) (L : Slots) : Option (List T × Slots × Option (Nat × T)) :=
  match p with
  | .v (.lst _ xs) => some (frzs xs, L, none)
  | .s i ks => itFrzS fz i ks L (rd L (.s i ks))
  | _ => none
def itTplS (fz : Bool) (i : Nat) (ks : List Int) (L : Slots) (t : Option T) : Option (List T × Slots × Option (Nat × T)) :=
  match t with
  | some (.tup false xs) => some (xs, L, none)
  | some (.tup true xs) => if ks = [] then (if fz then some (frzs xs, L.set i (some (.tup false (frzs xs))), none) else some (frzs xs, L.set i none, some (i, .tup true (frzs xs)))) else none
  | _ => none
def itTpl (fz : Bool) (p : Opd) (L : Slots) : Option (List T × Slots × Option (Nat × T)) :=
  match p with
  | .v (.tup _ xs) => some (frzs xs, L, none)
  | .s i ks => itTplS fz i ks L (rd L (.s i ks))
  | _ => none
def itStr (p : Opd) (L : Slots) : Option (List T × Slots × Option (Nat × T)) :=
  match rd L p with
  | some (.str s) => some (signs s, L, none)
  | _ => none
def keysOk (ks : List Key) : Bool := ks.all fun k => match k with
  | .inl _ => true
  | .inr s => PyData.strOk s
def itKeyS (i : Nat) (ks : List Int) (L : Slots) (t : Option T) : Option (List T × Slots × Option (Nat × T)) :=
  match t with
  | some (.dic true keys xs) => if ks = [] ∧ keysOk keys = true then some (keys.map keyT, L.set i (some (.lkd keys (frzs xs))), some (i, .dic true keys (frzs xs))) else none
  | _ => none
def itKey (p : Opd) (L : Slots) : Option (List T × Slots × Option (Nat × T)) :=
  match p with
  | .s i ks => itKeyS i ks L (rd L (.s i ks))
  | _ => none
def itSeq (k : Sk) (fz : Bool) (p : Opd) (L : Slots) : Option (List T × Slots × Option (Nat × T)) :=
  match k with
  | .L => itFrz fz p L
  | .T => itTpl fz p L
  | .S => itStr p L
  | .K => itKey p L
/-- what was out or locked goes back; where the slot was stored meanwhile: nothing is said -/
def isDic : T → Bool
  | .dic _ _ _ => true
  | .dit _ _ _ => true
  | _ => false
def backS (r : Option (Nat × T)) (L : Slots) : Option Slots :=
  match r with
  | none => some L
  | some (i, t) => match slot L i with
    | none => if isDic t then none else some (L.set i (some t))
    | some (.lkd _ _) => if isDic t then some (L.set i (some t)) else none
    | _ => none
def rngT (a : Int) (n : Nat) : List T := (List.range n).map fun (k : Nat) => .int (a + (k : Int))
def enmT : Int → List T → List T
  | _, [] => []
  | n, x :: xs => .tup false [.int n, x] :: enmT (n + 1) xs
def zipT : List T → List T → List T
  | x :: xs, y :: ys => .tup false [x, y] :: zipT xs ys
  | _, _ => []
def big (i : Int) : Bool := decide (-(2 ^ 62) ≤ i ∧ i < 2 ^ 62)
/-- the same slot -/
def isDup : Opd → Opd → Bool
  | .s i _, .s j _ => i == j
  | _, _ => false
def zipRun (ps : List Opd) (L : Slots) : Option (List T × Slots) :=
  match ps with
  | [p, q] => (itFrz true p L).bind fun r => (itFrz true q r.2.1).bind fun r' => if isDup p q then none else some (zipT r.1 r'.1, r'.2.1)
  | _ => none
def rngRun (ts : List T) : Option (List T) :=
  match ts with
  | [.int n] => if n ≤ LINE ∧ big n then some (rngT 0 n.toNat) else none
  | [.int a, .int b] => if b - a ≤ LINE ∧ big a ∧ big b then some (rngT a (b - a).toNat) else none
  | _ => none

/-- an operand: a name is looked at late -/
def evo (e : Ex) (b : Bool) (r : Slots → Out T) (L : Slots) : Out Opd :=
  match e with
  | .var i => onO (slot L i) fun _ => .ok (.s i []) L
  | .pth i ks => if b then onO (rd L (.s i ks)) fun _ => .ok (.s i ks) L else (r L).bind fun t L1 => .ok (.v t) L1
  | _ => (r L).bind fun t L1 => .ok (.v t) L1
def varRun (i : Nat) (L : Slots) : Out T := onO (slot L i) fun t => if isLkd t then .stuck else .ok (frz t) (L.set i (some (frz t)))
def pthRun (i : Nat) (ks : List Int) (L : Slots) : Out T := onO (rd L (.s i ks)) fun u => if shr u then .ok u L else .stuck
def dspRun (c : List T → T) (ts : List T) (L : Slots) : Out T := if ts.length ≤ LINE then .ok (c ts) L else .stuck
def popT (xs : List T) (args : List T) : Option (T × List T) :=
  match args with
  | [] => xs.getLast?.map fun x => (x, xs.dropLast)
  | [.int j] => (ixN xs.length j).bind fun n => (xs[n]?).map fun x => (x, xs.eraseIdx n)
  | _ => none
def popRun (i : Nat) (L : Slots) (ts : List T) : Out T :=
  match slot L i with
  | some (.lst true xs) => onO (popT xs ts) fun r => .ok r.1 (L.set i (some (.lst true r.2)))
  | _ => .stuck
/-! names, or displays of one name, lent to a call that changes nothing -/
def lendA : List (Bool × Nat) → Slots → Option (List T)
  | [], _ => some []
  | (b, i) :: ds, L => (slot L i).bind fun t => if isLkd t then none else (lendA ds L).map ((if b then T.lst false [frz t] else frz t) :: ·)
def lendBack (L : Slots) (r : FOut) : Out T :=
  match r with
  | .ok r [] => if !isLkd r && cln r then .ok r L else .stuck
  | _ => .stuck
def lendRun (Φ : Funs) (sg : String → List Bool) (f : String) (ds : List (Bool × Nat)) (L : Slots) : Out T :=
  if (sg f).any id then .stuck else onO (lendA ds L) fun ts => lendBack L (Φ f ts)
section
variable (Φ : Funs) (sg : String → List Bool)
mutual
def ev : Ex → Slots → Out T
  | .var i, L => varRun i L
  | .cst c, L => .ok c L
  | .pth i ks, L => pthRun i ks L
  | .op o es, L => (evq es L).bind fun ps L1 => onO (opRun o ps L1) nlkO
  | .lst es, L => (evs es L).bind fun ts L1 => dspRun (.lst true) ts L1
  | .tup es, L => (evs es L).bind fun ts L1 => dspRun (.tup true) ts L1
  | .dic ks vs, L => (evs ks L).bind fun ts L1 => (evs vs L1).bind fun us L2 => onO (keysOf ts) fun ks => .ok (.dic true ks us) L2
  | .dit0, L => .ok (.dit true [] []) L
  | .call f es, L => (evq es L).bind fun ps L1 => callRun Φ sg f ps L1
  | .and a b, L => (ev a L).bind fun t L1 => onB t (ev b L1) (.ok (.bl false) L1)
  | .or a b, L => (ev a L).bind fun t L1 => onB t (.ok (.bl true) L1) (ev b L1)
  | .not a, L => (ev a L).bind fun t L1 => onB t (.ok (.bl false) L1) (.ok (.bl true) L1)
  | .ite c a b, L => (ev c L).bind fun t L1 => onB t (ev a L1) (ev b L1)
  | .chain o1 o2 a b c, L => (ev a L).bind fun x L1 => (ev b L1).bind fun y L2 => onO (cmpS o1 x y) fun r =>
    onB r ((ev c L2).bind fun z L3 => onO (cmpS o2 y z) fun r => .ok r L3) (.ok (.bl false) L2)
  | .comp elt tg it cond, L => (evi it L).bind fun r L1 => if LINE < r.1.length then .stuck else
    noErr (compRun (entT tg) (evt cond) (ev elt) r.1 (wipeL L1 (tgs tg))) fun ys L2 => onO (backS r.2 (backL L1 L2 (tgs tg))) fun L3 => .ok (.lst true ys) L3
  | .srtk _ _, _ => .stuck
  | .pop i _ es, L => (evq es L).bind fun ps L1 => onO (rds L1 ps) fun ts => popRun i L1 ts
  | .lend f ds, L => lendRun Φ sg f ds L
def evs : Exs → Slots → Out (List T)
  | .nil, L => .ok [] L
  | .cons e es, L => (ev e L).bind fun t L1 => (evs es L1).bind fun ts L2 => .ok (t :: ts) L2
def evq : Exs → Slots → Out (List Opd)
  | .nil, L => .ok [] L
  | .cons e es, L => (evo e (simpEs es) (ev e) L).bind fun p L1 => (evq es L1).bind fun ps L2 => .ok (p :: ps) L2
def evt : Exs → Slots → Out Bool
  | .nil, L => .ok true L
  | .cons e es, L => (ev e L).bind fun t L1 => onB t (evt es L1) (.ok false L1)
def evi : Itr → Slots → Out (List T × Option (Nat × T))
  | .seq k fz e, L => (evo e true (ev e) L).bind fun p L1 => onO (itSeq k fz p L1) fun r => .ok (r.1, r.2.2) r.2.1
  | .rng es, L => (evq es L).bind fun ps L1 => onO ((rds L1 ps).bind rngRun) fun xs => .ok (xs, none) L1
  | .enm fz e, L => (evo e true (ev e) L).bind fun p L1 => onO (itFrz fz p L1) fun r => .ok (enmT 0 r.1, r.2.2) r.2.1
  | .zip es, L => (evq es L).bind fun ps L1 => onO (zipRun ps L1) fun r => .ok (r.1, none) r.2
  | .rev e, L => (evo e true (ev e) L).bind fun p L1 => onO (itFrz true p L1) fun r => .ok (r.1.reverse, none) r.2.1
  | .itm _, _ => .stuck
end
/-- as ev, but a name is handed on as it is held -/
def mvV (i : Nat) (L : Slots) : Out T := onO (slot L i) fun t => if isLkd t then .stuck else if shr t then .ok t L else .ok t (L.set i none)
def mv (e : Ex) (L : Slots) : Out T :=
  match e with
  | .var i => mvV i L
  | e => ev Φ sg e L
def mvs : Exs → Slots → Out (List T)
  | .nil, L => .ok [] L
  | .cons e es, L => (mv Φ sg e L).bind fun t L1 => (mvs es L1).bind fun ts L2 => .ok (t :: ts) L2
def mvr (e : Ex) (L : Slots) : Out T :=
  match e with
  | .tup es => (mvs Φ sg es L).bind fun ts L1 => dspRun (.tup true) ts L1
  | .lst es => (mvs Φ sg es L).bind fun ts L1 => dspRun (.lst true) ts L1
  | e => mv Φ sg e L
def evb (e : Ex) (L : Slots) : Out Bool := (ev Φ sg e L).bind fun t L1 => onB t (.ok true L1) (.ok false L1)
end
/-- what a held list becomes by a deed -/
def mutT (m : Mt) (t : T) (args : List T) : Option T :=
  match m, t, args with
  | .append, .lst true xs, [x] => if xs.length < LINE then some (.lst true (xs ++ [x])) else none
  | .extend, .lst true xs, [.lst _ ys] => if xs.length + ys.length ≤ LINE then some (.lst true (xs ++ ys)) else none
  | .insert, .lst true xs, [.int i, x] => if xs.length < LINE ∧ 0 ≤ i ∧ i < 9223372036854775808 then some (.lst true (xs.take i.toNat ++ [x] ++ xs.drop i.toNat)) else none
  | .reverse, .lst true xs, [] => some (.lst true xs.reverse)
  | .clear, .lst true _, [] => some (.lst true [])
  | _, _, _ => none
/-- a held thing within a held thing, changed -/
def updT (f : T → Option T) : List Int → T → Option T
  | [], t => f t
  | k :: ks, .lst true xs => (ixN xs.length k).bind fun n => (xs[n]?).bind fun x => (updT f ks x).map fun y => .lst true (xs.set n y)
  | k :: ks, .tup true xs => (ixN xs.length k).bind fun n => (xs[n]?).bind fun x => (updT f ks x).map fun y => .tup true (xs.set n y)
  | _, _ => none
def subT (k v : T) (t : T) : Option T :=
  match t with
  | .lst true xs => match k with
    | .int j => (ixN xs.length j).map fun n => .lst true (xs.set n v)
    | _ => none
  | .dic true ks xs => (keyOf k).bind fun k => if ks.length < LINE ∧ ks.Nodup then some (.dic true (dput k v ks xs).1 (dput k v ks xs).2) else none
  | _ => none
def setO (i : Nat) (t : Option T) (L : Slots) : Out Fl := onO t fun t => .ok .nx (L.set i (some t))
def augRun (i : Nat) (o : Operator) (x : Option T) (r : Slots → Out T) (L : Slots) : Out Fl :=
  match x with
  | some (.int x) => (r L).bind fun t L1 => setO i (binS o (.int x) t) L1
  | _ => .stuck
def onL (t : Option T) (k : Out Fl) : Out Fl :=
  match t with
  | some (.lst _ _) => k
  | _ => .stuck
/-- what goes back is stored by nothing meanwhile -/
def backOk (r : Option (Nat × T)) (tg : Tg) (b : Sms) : Bool :=
  match r with
  | none => true
  | some (i, _) => !mT i tg && !aSs i b
/-- behind a loop -/
def endF (r : Option (Nat × T)) (f : Fl) (L : Slots) : Out Fl :=
  match f with
  | .nx => onO (backS r L) fun L => .ok .nx L
  | f => .ok f L
def formOpen (i : Nat) (L : Slots) (t : Option T) (k : List T → Slots → Out Fl) : Out Fl :=
  match t with
  | some (.lst true xs) => k xs (L.set i none)
  | _ => .stuck
def entF (en : Option Nat) (j : Nat) (n : Nat) (t : T) (L : Slots) : Slots :=
  match en with
  | none => L.set j (some t)
  | some k => (L.set k (some (.int n))).set j (some t)
section
variable (Φ : Funs) (sg : String → List Bool) (N : Nat)
mutual
def exec : Sm → Slots → Out Fl
  | .set i e, L => (ev Φ sg e L).bind fun t L1 => .ok .nx (L1.set i (some t))
  | .setm js e, L => (ev Φ sg e L).bind fun t L1 => onO (entT (.many js) t L1) fun L2 => .ok .nx L2
  | .par js es, L => (evs Φ sg es L).bind fun ts L1 => onO (entT (.many js) (.tup true ts) L1) fun L2 => .ok .nx L2
  | .aug i o e, L => augRun i o (slot L i) (ev Φ sg e) L
  | .sub i ks k e, L => (ev Φ sg e L).bind fun v L1 => onO (slot L1 i) fun _ => if ks = [] ∨ simp1 k then (ev Φ sg k L1).bind fun kt L2 => setO i ((slot L2 i).bind (updT (subT kt v) ks)) L2 else .stuck
  | .mut i ks m es, L => if ks = [] then onL (slot L i) ((evs Φ sg es L).bind fun ts L1 => setO i ((slot L1 i).bind fun t => mutT m t ts) L1)
    else onO (slot L i) fun t0 => (evs Φ sg es (L.set i none)).bind fun ts L1 => setO i (updT (fun t => mutT m t ts) ks t0) L1
  | .exp e, L => (ev Φ sg e L).bind fun _ L1 => .ok .nx L1
  | .ret e, L => (mvr Φ sg e L).bind fun t L1 => .ok (.rt t) L1
  | .retn, L => .ok (.rt .non) L
  | .iff c a b, L => (evb Φ sg c L).bind fun t L1 => cB t (execs a L1) (execs b L1)
  | .whl c b, L => whlRun (evb Φ sg c) (execs b) N L
  | .for_ tg it b, L => (evi Φ sg it L).bind fun r L1 => if backOk r.2 tg b then
    (forRun (entT tg) (execs b) r.1 L1).bind fun f L2 => endF r.2 f L2 else .stuck
  | .form en j i b, L => if i = j ∨ aSs j b then .stuck else formOpen i L (slot L i) fun xs L1 =>
    (formRun (entF en j) j (execs b) 0 xs L1).bind fun r L2 => endF (some (i, .lst true r.2)) r.1 L2
  | .brk, L => .ok .bk L
  | .cnt, L => .ok .ct L
  | .pass, L => .ok .nx L
  | .rais c, L => .err c L
def execs : Sms → Slots → Out Fl
  | .nil, L => .ok .nx L
  | .cons s ss, L => (exec s L).bind fun f L1 => onF f (execs ss L1) L1
end
/-- a def of the text: its parameters, its slots, which parameters it changes -/
structure Fn where
  params : Nat
  slots : Nat
  muts : List Bool
  body : Sms
/-- a parameter that is changed is not stored anew -/
def parOk : List Bool → Nat → Sms → Bool
  | [], _, _ => true
  | true :: ms, i, b => !aSs i b && parOk ms (i + 1) b
  | false :: ms, i, b => parOk ms (i + 1) b
def argS : List Bool → List T → Option (List T)
  | true :: ms, t :: ts => if isOwn t && !isLkd t then (argS ms ts).map (t :: ·) else none
  | false :: ms, t :: ts => if isLkd t then none else (argS ms ts).map (frz t :: ·)
  | [], t :: ts => if isLkd t then none else (argS [] ts).map (frz t :: ·)
  | _, [] => some []
def outS : List Bool → Slots → Option (List T)
  | true :: ms, some t :: L => if isOwn t && !isLkd t then (outS ms L).map (t :: ·) else none
  | true :: _, _ => none
  | false :: ms, _ :: L => outS ms L
  | _, _ => some []
def finS (ms : List Bool) (r : T) (L : Slots) : FOut :=
  match outS ms L with
  | some outs => .ok r outs
  | none => .stuck
def finF (ms : List Bool) (x : Out Fl) : FOut :=
  match x with
  | .ok (.rt r) L => finS ms r L
  | .ok .nx L => finS ms .non L
  | .err c _ => .err c
  | _ => .stuck
def evFn (fn : Fn) (ts : List T) : FOut :=
  if ts.length = fn.params ∧ parOk fn.muts 0 fn.body then
    match argS fn.muts ts with
    | none => .stuck
    | some us => finF fn.muts (execs Φ sg N fn.body (us.map some ++ List.replicate (fn.slots - fn.params) none))
  else .stuck
end
abbrev Tbl := List (String × Fn)
def sgOf (tb : Tbl) (f : String) : List Bool := match tb.lookup f with
  | some fn => fn.muts
  | none => []
def run (tb : Tbl) (N : Nat) : Nat → Funs
  | 0, _, _ => .stuck
  | d + 1, f, ts => match tb.lookup f with
    | some fn => evFn (run tb N d) (sgOf tb) N fn ts
    | none => .stuck
end TV

set_option Elab.async false
set_option linter.all false
set_option maxRecDepth 100000
set_option maxHeartbeats 4000000
/-! TV5: equations by which runs are reckoned. -/
namespace TV
open PySem PySem.Spec PyProof.Rows L2
section
variable {α β : Type} {Φ : Funs} {sg : String → List Bool} {N : Nat} {x₀ : Option T} {L : Slots}
theorem onO_some (a : α) (k : α → Out β) : onO (some a) k = k a := rfl
theorem onO_none (k : α → Out β) : onO none k = .stuck := rfl
theorem noErr_ok (a : α) (L : Slots) (k : α → Slots → Out β) : noErr (.ok a L) k = k a L := rfl
theorem onB_bl (c : Bool) (a b : Out β) : onB (.bl c) a b = cB c a b := by cases c <;> rfl
theorem cB_t (a b : Out β) : cB true a b = a := rfl
theorem cB_f (a b : Out β) : cB false a b = b := rfl
theorem onF_nx (k : Out Fl) : onF .nx k L = k := rfl
theorem onF_rt (k : Out Fl) (t : T) : onF (.rt t) k L = .ok (.rt t) L := rfl
theorem onF_bk (k : Out Fl) : onF .bk k L = .ok .bk L := rfl
theorem onF_ct (k : Out Fl) : onF .ct k L = .ok .ct L := rfl
theorem loopF_nx (k : Out Fl) : loopF .nx k L = k := rfl
theorem loopF_ct (k : Out Fl) : loopF .ct k L = k := rfl
theorem loopF_bk (k : Out Fl) : loopF .bk k L = .ok .nx L := rfl
theorem loopF_rt (k : Out Fl) (t : T) : loopF (.rt t) k L = .ok (.rt t) L := rfl
theorem slot_0 (x : Option T) (L : Slots) : slot (x :: L) 0 = x := rfl
theorem slot_s (x : Option T) (L : Slots) (n : Nat) : slot (x :: L) (n + 1) = slot L n := by simp [slot]
theorem obind_some (a : α) (k : α → Option β) : (some a).bind k = k a := rfl
theorem obind_none (k : α → Option β) : (none : Option α).bind k = none := rfl
theorem omap_some (a : α) (k : α → β) : (some a).map k = some (k a) := rfl
theorem omap_none (k : α → β) : (none : Option α).map k = none := rfl
theorem rd_v (t : T) : rd L (.v t) = some t := rfl
theorem rd_s (i : Nat) : rd L (.s i []) = slot L i := by
  show (slot L i).bind (fun t => pathT t []) = slot L i
  cases slot L i <;> rfl
theorem rd_p (i : Nat) (k : Int) (ks : List Int) : rd L (.s i (k :: ks)) = (slot L i).bind fun t => pathT t (k :: ks) := rfl
theorem pathT_nil (t : T) : pathT t [] = some t := by cases t <;> rfl
theorem pathT_lst (o : Bool) (xs : List T) (k : Int) (ks : List Int) : pathT (.lst o xs) (k :: ks) = (atI xs k).bind fun x => pathT x ks := rfl
theorem pathT_tup (o : Bool) (xs : List T) (k : Int) (ks : List Int) : pathT (.tup o xs) (k :: ks) = (atI xs k).bind fun x => pathT x ks := rfl
theorem rds_nil : rds L [] = some [] := rfl
theorem rds_cons (p : Opd) (ps : List Opd) : rds L (p :: ps) = (rd L p).bind fun t => (rds L ps).bind fun ts => some (t :: ts) := rfl
theorem ixN_lit (n k : Nat) : ixN n (OfNat.ofNat k) = if (OfNat.ofNat k : Int) < n then some k else none := by
  show (if (0 : Int) ≤ (k : Int) then (if (k : Int) < (n : Int) then some (k : Int).toNat else none) else _) = _
  rw [if_pos (Int.natCast_nonneg k)]; rfl
theorem atI_nat (xs : List α) (k : Nat) : atI xs (k : Int) = xs[k]? := by
  unfold atI ixN
  rw [if_pos (Int.natCast_nonneg k)]
  by_cases h : (k : Int) < (xs.length : Int)
  · rw [if_pos h]; rfl
  · rw [if_neg h]
    exact (List.getElem?_eq_none (by omega)).symm
theorem atI_0 (x : α) (xs : List α) : atI (x :: xs) 0 = some x := atI_nat (x :: xs) 0
theorem atI_1 (x y : α) (xs : List α) : atI (x :: y :: xs) 1 = some y := atI_nat (x :: y :: xs) 1
theorem atI_2 (x y z : α) (xs : List α) : atI (x :: y :: z :: xs) 2 = some z := atI_nat (x :: y :: z :: xs) 2
theorem LINE_eq : LINE = 16777216 := by decide
-- expressions
theorem ev_var (i : Nat) : ev Φ sg (.var i) (x₀ :: L) = varRun i (x₀ :: L) := rfl
theorem ev_cst (c : T) : ev Φ sg (.cst c) (x₀ :: L) = .ok c (x₀ :: L) := rfl
theorem ev_pth (i : Nat) (ks : List Int) : ev Φ sg (.pth i ks) (x₀ :: L) = pthRun i ks (x₀ :: L) := rfl
theorem ev_op (o : Op) (es : Exs) : ev Φ sg (.op o es) (x₀ :: L) = (evq Φ sg es (x₀ :: L)).bind fun ps L1 => onO (opRun o ps L1) nlkO := rfl
theorem nlkO_eq (t : T) : nlkO (t, L) = if isLkd t then .stuck else .ok t L := rfl
theorem ev_lst (es : Exs) : ev Φ sg (.lst es) (x₀ :: L) = (evs Φ sg es (x₀ :: L)).bind fun ts L1 => dspRun (.lst true) ts L1 := rfl
theorem ev_tup (es : Exs) : ev Φ sg (.tup es) (x₀ :: L) = (evs Φ sg es (x₀ :: L)).bind fun ts L1 => dspRun (.tup true) ts L1 := rfl
theorem ev_dic (ks vs : Exs) : ev Φ sg (.dic ks vs) (x₀ :: L) = (evs Φ sg ks (x₀ :: L)).bind fun ts L1 => (evs Φ sg vs L1).bind fun us L2 => onO (keysOf ts) fun ks => .ok (.dic true ks us) L2 := rfl
theorem ev_dit0 : ev Φ sg .dit0 (x₀ :: L) = .ok (.dit true [] []) (x₀ :: L) := rfl
theorem ev_call (f : String) (es : Exs) : ev Φ sg (.call f es) (x₀ :: L) = (evq Φ sg es (x₀ :: L)).bind fun ps L1 => callRun Φ sg f ps L1 := rfl
theorem ev_and (a b : Ex) : ev Φ sg (.and a b) (x₀ :: L) = (ev Φ sg a (x₀ :: L)).bind fun t L1 => onB t (ev Φ sg b L1) (.ok (.bl false) L1) := rfl
theorem ev_or (a b : Ex) : ev Φ sg (.or a b) (x₀ :: L) = (ev Φ sg a (x₀ :: L)).bind fun t L1 => onB t (.ok (.bl true) L1) (ev Φ sg b L1) := rfl
theorem ev_not (a : Ex) : ev Φ sg (.not a) (x₀ :: L) = (ev Φ sg a (x₀ :: L)).bind fun t L1 => onB t (.ok (.bl false) L1) (.ok (.bl true) L1) := rfl
theorem ev_ite (c a b : Ex) : ev Φ sg (.ite c a b) (x₀ :: L) = (ev Φ sg c (x₀ :: L)).bind fun t L1 => onB t (ev Φ sg a L1) (ev Φ sg b L1) := rfl
theorem ev_chain (o1 o2 : CmpOp) (a b c : Ex) : ev Φ sg (.chain o1 o2 a b c) (x₀ :: L) = (ev Φ sg a (x₀ :: L)).bind fun x L1 => (ev Φ sg b L1).bind fun y L2 => onO (cmpS o1 x y) fun r =>
    onB r ((ev Φ sg c L2).bind fun z L3 => onO (cmpS o2 y z) fun r => .ok r L3) (.ok (.bl false) L2) := rfl
theorem ev_comp (elt : Ex) (tg : Tg) (it : Itr) (cond : Exs) : ev Φ sg (.comp elt tg it cond) (x₀ :: L) = (evi Φ sg it (x₀ :: L)).bind fun r L1 => if LINE < r.1.length then .stuck else
    noErr (compRun (entT tg) (evt Φ sg cond) (ev Φ sg elt) r.1 (wipeL L1 (tgs tg))) fun ys L2 => onO (backS r.2 (backL L1 L2 (tgs tg))) fun L3 => .ok (.lst true ys) L3 := rfl
theorem ev_pop (i : Nat) (ks : List Int) (es : Exs) : ev Φ sg (.pop i ks es) (x₀ :: L) = (evq Φ sg es (x₀ :: L)).bind fun ps L1 => onO (rds L1 ps) fun ts => popRun i L1 ts := rfl
theorem ev_lend (f : String) (ds : List (Bool × Nat)) : ev Φ sg (.lend f ds) (x₀ :: L) = lendRun Φ sg f ds (x₀ :: L) := rfl
theorem evs_nil : evs Φ sg .nil (x₀ :: L) = .ok [] (x₀ :: L) := rfl
theorem evs_cons (e : Ex) (es : Exs) : evs Φ sg (.cons e es) (x₀ :: L) = (ev Φ sg e (x₀ :: L)).bind fun t L1 => (evs Φ sg es L1).bind fun ts L2 => .ok (t :: ts) L2 := rfl
theorem evq_nil : evq Φ sg .nil (x₀ :: L) = .ok [] (x₀ :: L) := rfl
theorem evq_var (i : Nat) (es : Exs) : evq Φ sg (.cons (.var i) es) (x₀ :: L) = onO (slot (x₀ :: L) i) fun _ => (evq Φ sg es (x₀ :: L)).bind fun ps L2 => .ok (.s i [] :: ps) L2 := by
  show (onO (slot (x₀ :: L) i) _).bind _ = _
  cases slot (x₀ :: L) i <;> rfl
theorem evq_pth (i : Nat) (ks : List Int) (es : Exs) : evq Φ sg (.cons (.pth i ks) es) (x₀ :: L) = if simpEs es then (onO (rd (x₀ :: L) (.s i ks)) fun _ => (evq Φ sg es (x₀ :: L)).bind fun ps L2 => .ok (.s i ks :: ps) L2)
    else (pthRun i ks (x₀ :: L)).bind fun t L1 => (evq Φ sg es L1).bind fun ps L2 => .ok (.v t :: ps) L2 := by
  show (evo (.pth i ks) (simpEs es) (ev Φ sg (.pth i ks)) (x₀ :: L)).bind _ = _
  unfold evo
  cases simpEs es
  · show ((pthRun i ks (x₀ :: L)).bind _).bind _ = _
    cases pthRun i ks (x₀ :: L) <;> rfl
  · show (onO _ _).bind _ = onO _ _
    cases rd (x₀ :: L) (.s i ks) <;> rfl
/-- an operand that is no name -/
theorem evq_cons (e : Ex) (es : Exs) (h : ∀ i, e ≠ .var i) (h2 : ∀ i ks, e ≠ .pth i ks) : evq Φ sg (.cons e es) (x₀ :: L) = (ev Φ sg e (x₀ :: L)).bind fun t L1 => (evq Φ sg es L1).bind fun ps L2 => .ok (.v t :: ps) L2 := by
  show (evo e (simpEs es) (ev Φ sg e) (x₀ :: L)).bind _ = _
  unfold evo
  split
  · exact absurd rfl (h _)
  · exact absurd rfl (h2 _ _)
  · cases ev Φ sg e (x₀ :: L) <;> rfl
theorem evo_var (i : Nat) (b : Bool) (r : Slots → Out T) : evo (.var i) b r (x₀ :: L) = onO (slot (x₀ :: L) i) fun _ => .ok (.s i []) (x₀ :: L) := rfl
theorem evo_pthT (i : Nat) (ks : List Int) (r : Slots → Out T) : evo (.pth i ks) true r (x₀ :: L) = onO (rd (x₀ :: L) (.s i ks)) fun _ => .ok (.s i ks) (x₀ :: L) := rfl
theorem evo_pthF (i : Nat) (ks : List Int) (r : Slots → Out T) : evo (.pth i ks) false r (x₀ :: L) = (r (x₀ :: L)).bind fun t L1 => .ok (.v t) L1 := rfl
theorem evo_else (e : Ex) (b : Bool) (r : Slots → Out T) (h : ∀ i, e ≠ .var i) (h2 : ∀ i ks, e ≠ .pth i ks) : evo e b r (x₀ :: L) = (r (x₀ :: L)).bind fun t L1 => .ok (.v t) L1 := by
  unfold evo
  split
  · exact absurd rfl (h _)
  · exact absurd rfl (h2 _ _)
  · rfl
theorem evt_nil : evt Φ sg .nil (x₀ :: L) = .ok true (x₀ :: L) := rfl
theorem evt_one (e : Ex) : evt Φ sg (.cons e .nil) (x₀ :: L) = (ev Φ sg e (x₀ :: L)).bind fun t L1 => onB t (.ok true L1) (.ok false L1) := rfl
theorem evi_seq (k : Sk) (fz : Bool) (e : Ex) : evi Φ sg (.seq k fz e) (x₀ :: L) = (evo e true (ev Φ sg e) (x₀ :: L)).bind fun p L1 => onO (itSeq k fz p L1) fun r => .ok (r.1, r.2.2) r.2.1 := rfl
theorem evi_rng (es : Exs) : evi Φ sg (.rng es) (x₀ :: L) = (evq Φ sg es (x₀ :: L)).bind fun ps L1 => onO ((rds L1 ps).bind rngRun) fun xs => .ok (xs, none) L1 := rfl
theorem evi_enm (fz : Bool) (e : Ex) : evi Φ sg (.enm fz e) (x₀ :: L) = (evo e true (ev Φ sg e) (x₀ :: L)).bind fun p L1 => onO (itFrz fz p L1) fun r => .ok (enmT 0 r.1, r.2.2) r.2.1 := rfl
theorem evi_zip (es : Exs) : evi Φ sg (.zip es) (x₀ :: L) = (evq Φ sg es (x₀ :: L)).bind fun ps L1 => onO (zipRun ps L1) fun r => .ok (r.1, none) r.2 := rfl
theorem evi_rev (e : Ex) : evi Φ sg (.rev e) (x₀ :: L) = (evo e true (ev Φ sg e) (x₀ :: L)).bind fun p L1 => onO (itFrz true p L1) fun r => .ok (r.1.reverse, none) r.2.1 := rfl
theorem mvr_var (i : Nat) : mvr Φ sg (.var i) (x₀ :: L) = mvV i (x₀ :: L) := rfl
theorem mvr_tup (es : Exs) : mvr Φ sg (.tup es) (x₀ :: L) = (mvs Φ sg es (x₀ :: L)).bind fun ts L1 => dspRun (.tup true) ts L1 := rfl
theorem mvr_lst (es : Exs) : mvr Φ sg (.lst es) (x₀ :: L) = (mvs Φ sg es (x₀ :: L)).bind fun ts L1 => dspRun (.lst true) ts L1 := rfl
theorem mvr_else (e : Ex) (h : ∀ i, e ≠ .var i) (h2 : ∀ es, e ≠ .tup es) (h3 : ∀ es, e ≠ .lst es) : mvr Φ sg e (x₀ :: L) = ev Φ sg e (x₀ :: L) := by
  unfold mvr mv
  split
  · exact absurd rfl (h2 _)
  · exact absurd rfl (h3 _)
  · split
    · exact absurd rfl (h _)
    · rfl
theorem mvs_nil : mvs Φ sg .nil (x₀ :: L) = .ok [] (x₀ :: L) := rfl
theorem mvs_cons (e : Ex) (es : Exs) : mvs Φ sg (.cons e es) (x₀ :: L) = (mv Φ sg e (x₀ :: L)).bind fun t L1 => (mvs Φ sg es L1).bind fun ts L2 => .ok (t :: ts) L2 := rfl
theorem mv_var (i : Nat) : mv Φ sg (.var i) (x₀ :: L) = mvV i (x₀ :: L) := rfl
theorem mv_else (e : Ex) (h : ∀ i, e ≠ .var i) : mv Φ sg e (x₀ :: L) = ev Φ sg e (x₀ :: L) := by
  unfold mv
  split
  · exact absurd rfl (h _)
  · rfl
theorem evb_eq (e : Ex) : evb Φ sg e (x₀ :: L) = (ev Φ sg e (x₀ :: L)).bind fun t L1 => onB t (.ok true L1) (.ok false L1) := rfl
-- statements
theorem exec_set (i : Nat) (e : Ex) : exec Φ sg N (.set i e) (x₀ :: L) = (ev Φ sg e (x₀ :: L)).bind fun t L1 => .ok .nx (L1.set i (some t)) := rfl
theorem exec_setm (js : List Nat) (e : Ex) : exec Φ sg N (.setm js e) (x₀ :: L) = (ev Φ sg e (x₀ :: L)).bind fun t L1 => onO (entT (.many js) t L1) fun L2 => .ok .nx L2 := rfl
theorem exec_par (js : List Nat) (es : Exs) : exec Φ sg N (.par js es) (x₀ :: L) = (evs Φ sg es (x₀ :: L)).bind fun ts L1 => onO (entT (.many js) (.tup true ts) L1) fun L2 => .ok .nx L2 := rfl
theorem exec_aug (i : Nat) (o : Operator) (e : Ex) : exec Φ sg N (.aug i o e) (x₀ :: L) = augRun i o (slot (x₀ :: L) i) (ev Φ sg e) (x₀ :: L) := rfl
theorem augRun_int (i : Nat) (o : Operator) (x : Int) (r : Slots → Out T) : augRun i o (some (.int x)) r (x₀ :: L) = (r (x₀ :: L)).bind fun t L1 => setO i (binS o (.int x) t) L1 := rfl
theorem exec_sub (i : Nat) (ks : List Int) (k e : Ex) : exec Φ sg N (.sub i ks k e) (x₀ :: L) = (ev Φ sg e (x₀ :: L)).bind fun v L1 => onO (slot L1 i) fun _ => if ks = [] ∨ simp1 k then (ev Φ sg k L1).bind fun kt L2 => setO i ((slot L2 i).bind (updT (subT kt v) ks)) L2 else .stuck := rfl
theorem exec_mut (i : Nat) (m : Mt) (es : Exs) : exec Φ sg N (.mut i [] m es) (x₀ :: L) = onL (slot (x₀ :: L) i) ((evs Φ sg es (x₀ :: L)).bind fun ts L1 => setO i ((slot L1 i).bind fun t => mutT m t ts) L1) := rfl
theorem onL_l (o : Bool) (xs : List T) (k : Out Fl) : onL (some (.lst o xs)) k = k := rfl
theorem exec_exp (e : Ex) : exec Φ sg N (.exp e) (x₀ :: L) = (ev Φ sg e (x₀ :: L)).bind fun _ L1 => .ok .nx L1 := rfl
theorem exec_ret (e : Ex) : exec Φ sg N (.ret e) (x₀ :: L) = (mvr Φ sg e (x₀ :: L)).bind fun t L1 => .ok (.rt t) L1 := rfl
theorem exec_retn : exec Φ sg N .retn (x₀ :: L) = .ok (.rt .non) (x₀ :: L) := rfl
theorem exec_iff (c : Ex) (a b : Sms) : exec Φ sg N (.iff c a b) (x₀ :: L) = (evb Φ sg c (x₀ :: L)).bind fun t L1 => cB t (execs Φ sg N a L1) (execs Φ sg N b L1) := rfl
theorem exec_whl (c : Ex) (b : Sms) : exec Φ sg N (.whl c b) (x₀ :: L) = whlRun (evb Φ sg c) (execs Φ sg N b) N (x₀ :: L) := rfl
theorem exec_for (tg : Tg) (it : Itr) (b : Sms) : exec Φ sg N (.for_ tg it b) (x₀ :: L) = (evi Φ sg it (x₀ :: L)).bind fun r L1 => if backOk r.2 tg b then
    (forRun (entT tg) (execs Φ sg N b) r.1 L1).bind fun f L2 => endF r.2 f L2 else .stuck := rfl
theorem exec_form (en : Option Nat) (j i : Nat) (b : Sms) (h : i ≠ j) (h2 : aSs j b = false) : exec Φ sg N (.form en j i b) (x₀ :: L) = formOpen i (x₀ :: L) (slot (x₀ :: L) i) fun xs L1 =>
    (formRun (entF en j) j (execs Φ sg N b) 0 xs L1).bind fun r L2 => endF (some (i, .lst true r.2)) r.1 L2 := by
  show (if i = j ∨ aSs j b then _ else _) = _
  rw [if_neg (by rw [h2]; simp [h])]
theorem formOpen_t (i : Nat) (xs : List T) (k : List T → Slots → Out Fl) : formOpen i L (some (.lst true xs)) k = k xs (L.set i none) := rfl
theorem endF_nx (r : Option (Nat × T)) : endF r .nx L = onO (backS r L) fun L => .ok .nx L := rfl
theorem endF_rt (r : Option (Nat × T)) (t : T) : endF r (.rt t) L = .ok (.rt t) L := rfl
theorem backS_n : backS none L = some L := rfl
def backSS (i : Nat) (t : T) (x : Option T) (L : Slots) : Option Slots :=
  match x with
  | none => if isDic t then none else some (L.set i (some t))
  | some (.lkd _ _) => if isDic t then some (L.set i (some t)) else none
  | _ => none
theorem backS_s (i : Nat) (t : T) : backS (some (i, t)) L = backSS i t (slot L i) L := rfl
theorem backSS_n (i : Nat) (t : T) : backSS i t none L = if isDic t then none else some (L.set i (some t)) := rfl
theorem backSS_k (i : Nat) (t : T) (ks : List Key) (xs : List T) : backSS i t (some (.lkd ks xs)) L = if isDic t then some (L.set i (some t)) else none := rfl
theorem exec_brk : exec Φ sg N .brk (x₀ :: L) = .ok .bk (x₀ :: L) := rfl
theorem exec_cnt : exec Φ sg N .cnt (x₀ :: L) = .ok .ct (x₀ :: L) := rfl
theorem exec_pass : exec Φ sg N .pass (x₀ :: L) = .ok .nx (x₀ :: L) := rfl
theorem exec_rais (c : String) : exec Φ sg N (.rais c) (x₀ :: L) = .err c (x₀ :: L) := rfl
theorem execs_nil : execs Φ sg N .nil (x₀ :: L) = .ok .nx (x₀ :: L) := rfl
theorem execs_cons (s : Sm) (ss : Sms) : execs Φ sg N (.cons s ss) (x₀ :: L) = (exec Φ sg N s (x₀ :: L)).bind fun f L1 => onF f (execs Φ sg N ss L1) L1 := rfl
-- operations
theorem opRun_eq (o : Op) (ps : List Opd) : opRun o ps L = (rds L ps).bind fun ts => opK o ts ps L := rfl
theorem opK_bin_int (o : Operator) (i j : Int) (ps : List Opd) : opK (.bin o) [.int i, .int j] ps L = (binS o (.int i) (.int j)).map fun t => (t, L) := by cases o <;> rfl
theorem opK_bin_str (o : Operator) (i j : Str) (ps : List Opd) : opK (.bin o) [.str i, .str j] ps L = (binS o (.str i) (.str j)).map fun t => (t, L) := by cases o <;> rfl
theorem opK_bin_si (o : Operator) (i : Str) (j : Int) (ps : List Opd) : opK (.bin o) [.str i, .int j] ps L = (binS o (.str i) (.int j)).map fun t => (t, L) := by cases o <;> rfl
theorem opK_cat (a b : Bool) (xs ys : List T) (p q : Opd) : opK (.bin .Add) [.lst a xs, .lst b ys] [p, q] L = catRun p q L := rfl
theorem opK_cmp (o : CmpOp) (a b : T) (ps : List Opd) : opK (.cmp o) [a, b] ps L = (cmpS o a b).map fun t => (t, L) := by cases o <;> rfl
theorem opK_neg (ts : List T) (ps : List Opd) : opK .neg ts ps L = (sop .neg ts).map fun t => (t, L) := rfl
theorem opK_inv (ts : List T) (ps : List Opd) : opK .inv ts ps L = (sop .inv ts).map fun t => (t, L) := rfl
theorem opK_len (ts : List T) (ps : List Opd) : opK .len ts ps L = (sop .len ts).map fun t => (t, L) := rfl
theorem opK_abs (ts : List T) (ps : List Opd) : opK .abs ts ps L = (sop .abs ts).map fun t => (t, L) := rfl
theorem opK_int (ts : List T) (ps : List Opd) : opK .int ts ps L = (sop .int ts).map fun t => (t, L) := rfl
theorem opK_str (ts : List T) (ps : List Opd) : opK .str ts ps L = (sop .str ts).map fun t => (t, L) := rfl
theorem opK_isi (n : String) (ts : List T) (ps : List Opd) : opK (.isi n) ts ps L = (sop (.isi n) ts).map fun t => (t, L) := rfl
theorem opK_max (ts : List T) (ps : List Opd) : opK .max ts ps L = (sop .max ts).map fun t => (t, L) := rfl
theorem opK_min (ts : List T) (ps : List Opd) : opK .min ts ps L = (sop .min ts).map fun t => (t, L) := rfl
theorem opK_sum (ts : List T) (ps : List Opd) : opK .sum ts ps L = (sop .sum ts).map fun t => (t, L) := rfl
theorem opK_all (ts : List T) (ps : List Opd) : opK .all ts ps L = (sop .all ts).map fun t => (t, L) := rfl
theorem opK_any (ts : List T) (ps : List Opd) : opK .any ts ps L = (sop .any ts).map fun t => (t, L) := rfl
theorem opK_idx_str (s : Str) (j : Int) (ps : List Opd) : opK .idx [.str s, .int j] ps L = (signAt s j).map fun c => (c, L) := rfl
theorem opK_idx_scr (ns : List Int) (j : Int) (ps : List Opd) : opK .idx [.scr ns, .int j] ps L = (atI ns j).map fun n => (.int n, L) := rfl
theorem opK_idx_lst (o : Bool) (xs : List T) (j : Int) (p q : Opd) : opK .idx [.lst o xs, .int j] [p, q] L = idxL p xs j L := rfl
theorem opK_idx_tup (o : Bool) (xs : List T) (j : Int) (p q : Opd) : opK .idx [.tup o xs, .int j] [p, q] L = idxT p xs j L := rfl
theorem opK_idx_dic (o : Bool) (ks : List Key) (xs : List T) (k : T) (p q : Opd) : opK .idx [.dic o ks xs, k] [p, q] L = idxD p ks xs k L := by cases k <;> rfl
theorem opK_idx_lkd (ks : List Key) (xs : List T) (k : T) (p q : Opd) : opK .idx [.lkd ks xs, k] [p, q] L = idxD p ks xs k L := by cases k <;> rfl
theorem opK_get (o : Bool) (ks : List Key) (xs : List T) (k d : T) (p q r : Opd) : opK .get [.dic o ks xs, k, d] [p, q, r] L = getD ks xs k d r L := rfl
theorem opK_slc_s01 (s : Str) (h : Int) (ps : List Opd) : opK (.slc false true) [.str s, .int h] ps L = slcS s none (some h) L := rfl
theorem opK_slc_s10 (s : Str) (h : Int) (ps : List Opd) : opK (.slc true false) [.str s, .int h] ps L = slcS s (some h) none L := rfl
theorem opK_slc_s11 (s : Str) (l h : Int) (ps : List Opd) : opK (.slc true true) [.str s, .int l, .int h] ps L = slcS s (some l) (some h) L := rfl
theorem opK_slc_l01 (o : Bool) (xs : List T) (h : Int) (p q : Opd) : opK (.slc false true) [.lst o xs, .int h] [p, q] L = slcL p none (some h) L := rfl
theorem opK_slc_l10 (o : Bool) (xs : List T) (h : Int) (p q : Opd) : opK (.slc true false) [.lst o xs, .int h] [p, q] L = slcL p (some h) none L := rfl
theorem opK_slc_l11 (o : Bool) (xs : List T) (l h : Int) (p q r : Opd) : opK (.slc true true) [.lst o xs, .int l, .int h] [p, q, r] L = slcL p (some l) (some h) L := rfl
theorem opK_list (o : Bool) (xs : List T) (p : Opd) : opK .list [.lst o xs] [p] L = (kidL p L).map fun r => (.lst true r.1, r.2) := rfl
theorem kidL_v (o : Bool) (xs : List T) : kidL (.v (.lst o xs)) L = some (xs, L) := rfl
def kidLs (i : Nat) (L : Slots) (t : Option T) : Option (List T × Slots) :=
  match t with
  | some (.lst true xs) => some (frzs xs, L.set i (some (.lst true (frzs xs))))
  | some (.lst false xs) => some (xs, L)
  | _ => none
theorem kidL_s (i : Nat) : kidL (.s i []) L = kidLs i L (slot L i) := rfl
theorem kidLs_t (i : Nat) (xs : List T) : kidLs i L (some (.lst true xs)) = some (frzs xs, L.set i (some (.lst true (frzs xs)))) := rfl
theorem kidLs_f (i : Nat) (xs : List T) : kidLs i L (some (.lst false xs)) = some (xs, L) := rfl
-- many, shared, unshared
theorem frz_lst (o : Bool) (xs : List T) : frz (.lst o xs) = .lst false (frzs xs) := by rw [frz]
theorem frz_tup (o : Bool) (xs : List T) : frz (.tup o xs) = .tup false (frzs xs) := by rw [frz]
theorem frz_dic (o : Bool) (ks : List Key) (xs : List T) : frz (.dic o ks xs) = .dic false ks (frzs xs) := by rw [frz]
theorem frz_int (i : Int) : frz (.int i) = .int i := by rw [frz]
theorem frz_str (i : Str) : frz (.str i) = .str i := by rw [frz]
theorem frz_bl (i : Bool) : frz (.bl i) = .bl i := by rw [frz]
theorem frz_non : frz .non = .non := by rw [frz]
theorem frz_scr (ns : List Int) : frz (.scr ns) = .scr ns := by rw [frz]
theorem frzs_nil : frzs [] = [] := rfl
theorem frzs_cons (t : T) (ts : List T) : frzs (t :: ts) = frz t :: frzs ts := by rw [frzs]
theorem frzs_int (ns : List Int) : frzs (ns.map T.int) = ns.map T.int := by
  rw [frzs_map, List.map_map]; exact congrArg (fun f => ns.map f) (funext fun x => frz_int x)
theorem frzs_str (ns : List Str) : frzs (ns.map T.str) = ns.map T.str := by
  rw [frzs_map, List.map_map]; exact congrArg (fun f => ns.map f) (funext fun x => frz_str x)
theorem frzs_bl (ns : List Bool) : frzs (ns.map T.bl) = ns.map T.bl := by
  rw [frzs_map, List.map_map]; exact congrArg (fun f => ns.map f) (funext fun x => frz_bl x)
theorem shrs_int (ns : List Int) : shrs (ns.map T.int) = true := by
  rw [shrs_all, List.all_map]; simp [shr]
theorem shrs_str (ns : List Str) : shrs (ns.map T.str) = true := by
  rw [shrs_all, List.all_map]; simp [shr]
theorem clns_int (ns : List Int) : clns (ns.map T.int) = true := by
  rw [clns_all, List.all_map]; simp [cln]
theorem clns_str (ns : List Str) : clns (ns.map T.str) = true := by
  rw [clns_all, List.all_map]; simp [cln]
-- what is walked
theorem itSeq_L (fz : Bool) (p : Opd) : itSeq .L fz p L = itFrz fz p L := rfl
theorem itSeq_T (fz : Bool) (p : Opd) : itSeq .T fz p L = itTpl fz p L := rfl
theorem itSeq_S (fz : Bool) (p : Opd) : itSeq .S fz p L = itStr p L := rfl
theorem itSeq_K (fz : Bool) (p : Opd) : itSeq .K fz p L = itKey p L := rfl
theorem itTpl_v (fz : Bool) (o : Bool) (xs : List T) : itTpl fz (.v (.tup o xs)) L = some (frzs xs, L, none) := rfl
theorem itTpl_s (fz : Bool) (i : Nat) (ks : List Int) : itTpl fz (.s i ks) L = itTplS fz i ks L (rd L (.s i ks)) := rfl
theorem itTpl_f (fz : Bool) (i : Nat) (ks : List Int) (xs : List T) : itTplS fz i ks L (some (.tup false xs)) = some (xs, L, none) := rfl
theorem itTpl_tF (i : Nat) (xs : List T) : itTplS true i [] L (some (.tup true xs)) = some (frzs xs, L.set i (some (.tup false (frzs xs))), none) := rfl
theorem itTpl_tT (i : Nat) (xs : List T) : itTplS false i [] L (some (.tup true xs)) = some (frzs xs, L.set i none, some (i, .tup true (frzs xs))) := rfl
theorem itStr_v (s : Str) : itStr (.v (.str s)) L = some (signs s, L, none) := rfl
theorem itStr_s (i : Nat) (s : Str) (h : slot L i = some (.str s)) : itStr (.s i []) L = some (signs s, L, none) := by
  unfold itStr; rw [rd_s, h]
theorem itKey_s (i : Nat) (ks : List Int) : itKey (.s i ks) L = itKeyS i ks L (rd L (.s i ks)) := rfl
theorem itKey_t (i : Nat) (ks : List Key) (xs : List T) (h : keysOk ks = true) : itKeyS i [] L (some (.dic true ks xs)) = some (ks.map keyT, L.set i (some (.lkd ks (frzs xs))), some (i, .dic true ks (frzs xs))) := if_pos ⟨rfl, h⟩
theorem itFrz_v (fz : Bool) (o : Bool) (xs : List T) : itFrz fz (.v (.lst o xs)) L = some (frzs xs, L, none) := rfl
theorem itFrz_s (fz : Bool) (i : Nat) (ks : List Int) : itFrz fz (.s i ks) L = itFrzS fz i ks L (rd L (.s i ks)) := rfl
theorem itFrz_f (fz : Bool) (i : Nat) (ks : List Int) (xs : List T) : itFrzS fz i ks L (some (.lst false xs)) = some (xs, L, none) := rfl
theorem itFrz_tF (i : Nat) (xs : List T) : itFrzS true i [] L (some (.lst true xs)) = some (frzs xs, L.set i (some (.lst false (frzs xs))), none) := rfl
theorem itFrz_tT (i : Nat) (xs : List T) : itFrzS false i [] L (some (.lst true xs)) = some (frzs xs, L.set i none, some (i, .lst true (frzs xs))) := rfl
-- the whole
theorem evFn_eq (fn : Fn) (ts : List T) (us : List T) (h : ts.length = fn.params) (h0 : parOk fn.muts 0 fn.body = true) (h2 : argS fn.muts ts = some us) : evFn Φ sg N fn ts = finF fn.muts (execs Φ sg N fn.body (us.map some ++ List.replicate (fn.slots - fn.params) none)) := by
  unfold evFn
  rw [if_pos ⟨h, h0⟩, h2]
theorem finF_rt (ms : List Bool) (r : T) : finF ms (.ok (.rt r) L) = finS ms r L := rfl
theorem finF_nx (ms : List Bool) : finF ms (.ok .nx L) = finS ms .non L := rfl
theorem finS_nil (r : T) : finS [] r L = .ok r [] := rfl
end
/-! loops -/
theorem compRun_map {α : Type} {ent : T → Slots → Option Slots} {cond : Slots → Out Bool} {elt : Slots → Out T} (g : α → T) (enc : α → T) (I : Slots → Prop) (P : α → Prop)
   (h : ∀ a L, P a → I L → ∃ L1 L2 L3, ent (enc a) L = some L1 ∧ cond L1 = .ok true L2 ∧ elt L2 = .ok (g a) L3 ∧ I L3) : ∀ (as : List α) (L : Slots), (∀ a ∈ as, P a) → I L → ∃ L', compRun ent cond elt (as.map enc) L = .ok (as.map g) L' ∧ I L'
  | [], L, _, i => ⟨L, rfl, i⟩
  | a :: as, L, hp, i => by
    obtain ⟨L1, L2, L3, e1, e2, e3, i3⟩ := h a L (hp a List.mem_cons_self) i
    obtain ⟨L', e4, i4⟩ := compRun_map g enc I P h as L3 (fun b hb => hp b (List.mem_cons_of_mem _ hb)) i3
    refine ⟨L', ?_, i4⟩
    simp only [List.map_cons, compRun, e1, onO_some, e2, noErr_ok, cB_t, e3, e4]
theorem compRun_filter {α : Type} {ent : T → Slots → Option Slots} {cond : Slots → Out Bool} {elt : Slots → Out T} (p : α → Bool) (g : α → T) (enc : α → T) (I : Slots → Prop) (P : α → Prop)
   (h : ∀ a L, P a → I L → ∃ L1 L2, ent (enc a) L = some L1 ∧ cond L1 = .ok (p a) L2 ∧ (p a = false → I L2) ∧ (p a = true → ∃ L3, elt L2 = .ok (g a) L3 ∧ I L3)) : ∀ (as : List α) (L : Slots), (∀ a ∈ as, P a) → I L → ∃ L', compRun ent cond elt (as.map enc) L = .ok ((as.filter p).map g) L' ∧ I L'
  | [], L, _, i => ⟨L, rfl, i⟩
  | a :: as, L, hp, i => by
    obtain ⟨L1, L2, e1, e2, e3, e4⟩ := h a L (hp a List.mem_cons_self) i
    cases hq : p a with
    | false =>
      obtain ⟨L', e5, i5⟩ := compRun_filter p g enc I P h as L2 (fun b hb => hp b (List.mem_cons_of_mem _ hb)) (e3 hq)
      refine ⟨L', ?_, i5⟩
      simp only [List.map_cons, compRun, e1, onO_some, e2, noErr_ok, hq, cB_f, e5, List.filter_cons, Bool.false_eq_true, if_false]
    | true =>
      obtain ⟨L3, e6, i6⟩ := e4 hq
      obtain ⟨L', e5, i5⟩ := compRun_filter p g enc I P h as L3 (fun b hb => hp b (List.mem_cons_of_mem _ hb)) i6
      refine ⟨L', ?_, i5⟩
      simp only [List.map_cons, compRun, e1, onO_some, e2, noErr_ok, hq, cB_t, e6, e5, List.filter_cons, if_true]
theorem forRun_fold {α β : Type} {ent : T → Slots → Option Slots} {body : Slots → Out Fl} (st : β → Slots → Prop) (f : β → α → β) (enc : α → T) (P : α → Prop)
   (h : ∀ b a L, P a → st b L → ∃ L1 L2, ent (enc a) L = some L1 ∧ body L1 = .ok .nx L2 ∧ st (f b a) L2) : ∀ (as : List α) (b : β) (L : Slots), (∀ a ∈ as, P a) → st b L → ∃ L', forRun ent body (as.map enc) L = .ok .nx L' ∧ st (as.foldl f b) L'
  | [], b, L, _, i => ⟨L, rfl, i⟩
  | a :: as, b, L, hp, i => by
    obtain ⟨L1, L2, e1, e2, i2⟩ := h b a L (hp a List.mem_cons_self) i
    obtain ⟨L', e4, i4⟩ := forRun_fold st f enc P h as _ L2 (fun b hb => hp b (List.mem_cons_of_mem _ hb)) i2
    refine ⟨L', ?_, i4⟩
    simp only [List.map_cons, forRun, e1, onO_some, e2, Out.bind_ok, loopF_nx, e4]
end TV

set_option Elab.async false
set_option linter.all false
set_option maxRecDepth 100000
set_option maxHeartbeats 4000000
/-! TV6: what the evaluator's word promises, as readings of the hand layer. -/
namespace TV
open PySem PySem.Spec PyProof.Rows L2

/-- from v0 along places -/
def PathV (H : Hp) : V → List Int → V → Prop
  | v0, [], v => v = v0
  | v0, k :: ks, v => ∃ a vs v1, v0 = .ref a ∧ (H a = some (.lst vs) ∨ H a = some (.tup vs)) ∧ atI vs k = some v1 ∧ PathV H v1 ks v
def RepQ (K : PySem.W.Frag) (H : Hp) (Z : Fb) (σ : Sg) : Opd → V → List Addr → Prop
  | .v t, v, A => RepO K H Z t v A
  | .s i ks, v, A => A = [] ∧ ∃ v0, σ[i]? = some (some v0) ∧ PathV H v0 ks v
def RepQs (K : PySem.W.Frag) (H : Hp) (Z : Fb) (σ : Sg) : List Opd → List V → List Addr → Prop
  | [], vs, A => vs = [] ∧ A = []
  | p :: ps, vs, A => ∃ v vr A1 A2, vs = v :: vr ∧ A = A1 ++ A2 ∧ RepQ K H Z σ p v A1 ∧ RepQs K H Z σ ps vr A2

section
variable {K : PySem.W.Frag} {mg : Str → Option Value} {W : WX} {σ : Sg} {F : Fb} {O : List Addr} {H : Hp} {α β : Type}
def errP (K : PySem.W.Frag) (mg : Str → Option Value) (W : WX) (σ : Sg) (F : Fb) (O : List Addr) (H : Hp) (c : String) (L' : Slots) : Prop :=
  ∀ H' O' C, mg (Str.ofString c) = some (.ref C) → Mid K H O H' F σ L' O' [] → W (.ref C) none σ H'
/-- S holds wherever x may have led -/
def Aft (K : PySem.W.Frag) (mg : Str → Option Value) (W : WX) (σ : Sg) (F : Fb) (O : List Addr) (H : Hp) (x : Out α) (S : α → Slots → Hp → List Addr → List Addr → Prop) : Prop :=
  match x with
  | .stuck => False
  | .err c L' => errP K mg W σ F O H c L'
  | .ok a L' => ∀ H' O' A, Mid K H O H' F σ L' O' A → S a L' H' O' A
theorem Aft.mono {x : Out α} {S S' : α → Slots → Hp → List Addr → List Addr → Prop} (h : Aft K mg W σ F O H x S)
    (k : ∀ a L' H' O' A, x = .ok a L' → Mid K H O H' F σ L' O' A → S a L' H' O' A → S' a L' H' O' A) : Aft K mg W σ F O H x S' := by
  cases x with
  | stuck => exact h
  | err c L' => exact h
  | ok a L' => exact fun H' O' A m => k a L' H' O' A rfl m (h H' O' A m)
theorem errP.bind {H1 : Hp} {O1 A1 : List Addr} {L1 L' : Slots} {c : String} (m : Mid K H O H1 F σ L1 O1 A1) (h : errP K mg W σ F O H c L') : errP K mg W σ (Fa A1 F) O1 H1 c L' :=
  fun H' O' C e m' => h H' O' C e ((m.trans m').drop (A' := []) (fun a z => by cases z) .nil)
theorem Aft.bind {x : Out α} {k : α → Slots → Out β} {S : β → Slots → Hp → List Addr → List Addr → Prop} (h : Aft K mg W σ F O H (x.bind k) S) :
    Aft K mg W σ F O H x fun a L1 H1 O1 A1 => Aft K mg W σ (Fa A1 F) O1 H1 (k a L1) fun b L' H' O' A' => S b L' H' O' (A1 ++ A') := by
  cases x with
  | stuck => exact h
  | err c L' => exact h
  | ok a L1 =>
    intro H1 O1 A1 m
    have h : Aft K mg W σ F O H (k a L1) S := h
    cases e : k a L1 with
    | stuck => rw [e] at h; exact h
    | err c L' => rw [e] at h; exact errP.bind m h
    | ok b L' => rw [e] at h; exact fun H' O' A' m' => h H' O' (A1 ++ A') (m.trans m')
theorem Aft.onO {x : Option α} {k : α → Out β} {S : β → Slots → Hp → List Addr → List Addr → Prop} (h : Aft K mg W σ F O H (onO x k) S) : ∃ a, x = some a ∧ Aft K mg W σ F O H (k a) S := by
  cases x with
  | none => exact h.elim
  | some a => exact ⟨a, rfl, h⟩

/-- an expression's reading by the evaluator's word -/
def tD (K : PySem.W.Frag) (mg : Str → Option Value) (W : WX) (e : Slots → Out T) : TE := fun σ H Q =>
  ∃ F L O, StOk K H F σ L O ∧ Aft K mg W σ F O H (e L) fun t L' H' O' A => ∀ v, isLkd t = false → RepO K H' (Zz O' A F) t v A → Q v H'
def tQ (K : PySem.W.Frag) (mg : Str → Option Value) (W : WX) (e : Slots → Out Opd) : TE := fun σ H Q =>
  ∃ F L O, StOk K H F σ L O ∧ Aft K mg W σ F O H (e L) fun p L' H' O' A => ∀ v, RepQ K H' (Zz O' A F) σ p v A → Q v H'
def tQs (K : PySem.W.Frag) (mg : Str → Option Value) (W : WX) (e : Slots → Out (List Opd)) : TA := fun σ H Q =>
  ∃ F L O, StOk K H F σ L O ∧ Aft K mg W σ F O H (e L) fun ps L' H' O' A => ∀ vs, RepQs K H' (Zz O' A F) σ ps vs A → Q vs H'
def tVs (K : PySem.W.Frag) (mg : Str → Option Value) (W : WX) (e : Slots → Out (List T)) : TA := fun σ H Q =>
  ∃ F L O, StOk K H F σ L O ∧ Aft K mg W σ F O H (e L) fun ts L' H' O' A => ∀ vs, RepOs K H' (Zz O' A F) ts vs A → Q vs H'
def tT (K : PySem.W.Frag) (mg : Str → Option Value) (W : WX) (e : Slots → Out Bool) : TT := fun σ H Q =>
  ∃ F L O, StOk K H F σ L O ∧ Aft K mg W σ F O H (e L) fun b L' H' O' A => Q b H'

theorem RepO_read {Z : Fb} {t : T} {v : V} {A : List Addr} (h : RepO K H Z t v A) : RepS K H (fun _ => False) t v := h.read (fun _ z => z.elim) t v A fun _ _ z => z
theorem RepS_read {Z : Fb} {t : T} {v : V} (h : RepS K H Z t v) : RepS K H (fun _ => False) t v := RepS.later (later_less fun _ z => z.elim) t v h
theorem StOk.slotv {L : Slots} (st : StOk K H F σ L O) {i : Nat} {t : T} (e : slot L i = some t) : ∃ v, σ[i]? = some (some v) ∧ RepS K H (fun _ => False) t v := by
  have e' : L[i]? = some (some t) := by
    unfold slot at e
    cases q : L[i]? with
    | none => rw [q] at e; cases e
    | some x => rw [q] at e; have e2 : x = some t := e; rw [e2]
  obtain ⟨v, A, O', h1, _, h2, _⟩ := st.take e'
  exact ⟨v, h1, RepO_read h2⟩
theorem slot_get {L : Slots} {i : Nat} {t : T} (e : slot L i = some t) : L[i]? = some (some t) := by
  unfold slot at e
  cases q : L[i]? with
  | none => rw [q] at e; cases e
  | some x => rw [q] at e; have e2 : x = some t := e; rw [e2]
theorem RepSs.get : ∀ {ts : List T} {vs : List V} {Z : Fb} {n : Nat} {t : T}, RepSs K H Z ts vs → ts[n]? = some t → ∃ v, vs[n]? = some v ∧ RepS K H Z t v
  | [], _, _, _, _, _, e => by simp at e
  | t :: ts, _, _, 0, _, ⟨v, vr, ev, hk, h1, h2⟩, e => by
    simp at e; subst e; exact ⟨v, by rw [ev]; rfl, h1⟩
  | t :: ts, _, Z, n + 1, u, ⟨v, vr, ev, hk, h1, h2⟩, e => by
    obtain ⟨w, hw, r⟩ := RepSs.get (n := n) (t := u) h2 (by simpa using e)
    exact ⟨w, by rw [ev]; simpa using hw, r⟩
theorem atI_get {α : Type} {xs : List α} {k : Int} {x : α} (h : atI xs k = some x) : ∃ n, ixN xs.length k = some n ∧ xs[n]? = some x := by
  unfold atI at h
  cases e : ixN xs.length k with
  | none => rw [e] at h; cases h
  | some n => rw [e] at h; exact ⟨n, rfl, h⟩
theorem atI_of {α : Type} {xs : List α} {k : Int} {x : α} {n : Nat} (h1 : ixN xs.length k = some n) (h2 : xs[n]? = some x) : atI xs k = some x := by
  unfold atI; rw [h1]; exact h2
theorem RepSs.at {ts : List T} {vs : List V} {Z : Fb} {k : Int} {t : T} (h : RepSs K H Z ts vs) (e : atI ts k = some t) : ∃ v, atI vs k = some v ∧ RepS K H Z t v := by
  obtain ⟨n, e1, e2⟩ := atI_get e
  obtain ⟨v, hv, r⟩ := h.get e2
  exact ⟨v, atI_of (by rw [← h.length]; exact e1) hv, r⟩
/-- a path read -/
theorem RepS.path : ∀ (ks : List Int) {t u : T} {v0 v : V} {Z : Fb}, RepS K H Z t v0 → pathT t ks = some u → PathV H v0 ks v → RepS K H Z u v
  | [], t, u, v0, v, Z, h, e, p => by
    have e1 : t = u := by
      cases t <;> exact Option.some.inj e
    have e2 : v = v0 := p
    rw [e2, ← e1]; exact h
  | k :: ks, t, u, v0, v, Z, h, e, ⟨a, vs, v1, ea, hv, at1, p⟩ => by
    cases t with
    | lst o xs =>
      obtain ⟨b, ws, eb, h1, n, h2⟩ := h
      rw [ea] at eb; cases eb
      have : vs = ws := by
        rcases hv with hv | hv
        · rw [h1] at hv; cases hv; rfl
        · rw [h1] at hv; cases hv
      subst this
      have e : (atI xs k).bind (fun x => pathT x ks) = some u := e
      cases q : atI xs k with
      | none => rw [q] at e; cases e
      | some x =>
        rw [q] at e
        obtain ⟨w, hw, r⟩ := h2.at q
        rw [at1] at hw; cases hw
        exact RepS.path ks r e p
    | tup o xs =>
      obtain ⟨b, ws, eb, h1, n, h2⟩ := h
      rw [ea] at eb; cases eb
      have : vs = ws := by
        rcases hv with hv | hv
        · rw [h1] at hv; cases hv
        · rw [h1] at hv; cases hv; rfl
      subst this
      have e : (atI xs k).bind (fun x => pathT x ks) = some u := e
      cases q : atI xs k with
      | none => rw [q] at e; cases e
      | some x =>
        rw [q] at e
        obtain ⟨w, hw, r⟩ := h2.at q
        rw [at1] at hw; cases hw
        exact RepS.path ks r e p
    | _ => cases e
theorem RepS.pathV : ∀ (ks : List Int) {t u : T} {v0 : V} {Z : Fb}, RepS K H Z t v0 → pathT t ks = some u → ∃ v, PathV H v0 ks v ∧ RepS K H Z u v
  | [], t, u, v0, Z, h, e => by
    have e1 : t = u := by
      cases t <;> exact Option.some.inj e
    exact ⟨v0, rfl, by rw [← e1]; exact h⟩
  | k :: ks, t, u, v0, Z, h, e => by
    cases t with
    | lst o xs =>
      obtain ⟨b, ws, eb, h1, n, h2⟩ := h
      have e : (atI xs k).bind (fun x => pathT x ks) = some u := e
      cases q : atI xs k with
      | none => rw [q] at e; cases e
      | some x =>
        rw [q] at e
        obtain ⟨w, hw, r⟩ := h2.at q
        obtain ⟨v, p, r'⟩ := RepS.pathV ks r e
        exact ⟨v, ⟨b, ws, w, eb, .inl h1, hw, p⟩, r'⟩
    | tup o xs =>
      obtain ⟨b, ws, eb, h1, n, h2⟩ := h
      have e : (atI xs k).bind (fun x => pathT x ks) = some u := e
      cases q : atI xs k with
      | none => rw [q] at e; cases e
      | some x =>
        rw [q] at e
        obtain ⟨w, hw, r⟩ := h2.at q
        obtain ⟨v, p, r'⟩ := RepS.pathV ks r e
        exact ⟨v, ⟨b, ws, w, eb, .inr h1, hw, p⟩, r'⟩
    | _ => cases e
/-- an operand read -/
theorem RepQ.read {L : Slots} {Z : Fb} {p : Opd} {v : V} {A : List Addr} {t : T} (h : RepQ K H Z σ p v A) (st : StOk K H F σ L O) (e : rd L p = some t) : RepS K H (fun _ => False) t v := by
  cases p with
  | v u => have e' : u = t := Option.some.inj e; rw [← e']; exact RepO_read h
  | s i ks =>
    obtain ⟨_, v0, hv, p⟩ := h
    have e : (slot L i).bind (fun t => pathT t ks) = some t := e
    cases q : slot L i with
    | none => rw [q] at e; cases e
    | some u =>
      rw [q] at e
      obtain ⟨w, hw, r⟩ := st.slotv q
      rw [hv] at hw; cases hw
      exact RepS.path ks r e p
theorem RepQs.read {L : Slots} {Z : Fb} (st : StOk K H F σ L O) : ∀ {ps : List Opd} {vs : List V} {A : List Addr} {ts : List T}, RepQs K H Z σ ps vs A → rds L ps = some ts → ∃ vs', vs = vs' ∧ Paired (fun t v => RepS K H (fun _ => False) t v) ts vs'
  | [], _, _, _, h, e => by
    cases e
    exact ⟨_, rfl, by rw [h.1]; exact .nil⟩
  | p :: ps, _, _, _, ⟨v, vr, A1, A2, ev, eA, h1, h2⟩, e => by
    have e : (rd L p).bind (fun t => (rds L ps).bind fun ts => some (t :: ts)) = some _ := e
    cases q : rd L p with
    | none => rw [q] at e; cases e
    | some t =>
      rw [q] at e
      cases q2 : rds L ps with
      | none => rw [q2] at e; cases e
      | some ts =>
        rw [q2] at e
        have e' : t :: ts = _ := Option.some.inj e
        subst e'
        obtain ⟨vs', e3, r⟩ := RepQs.read st h2 q2
        exact ⟨v :: vs', by rw [ev, e3], .cons (h1.read st q) r⟩
end
end TV

set_option Elab.async false
set_option linter.all false
set_option maxRecDepth 100000
set_option maxHeartbeats 4000000
/-! TV7: the operations of the small language by the hand layer's rules. -/
namespace TV
open PySem PySem.Spec PyProof.Rows L2

/-! ### texts whose signs are signs -/
theorem okS_iff {s : Str} : okS s ↔ ∀ c ∈ s.cps.toList, c < 1114112 := by
  unfold okS PyData.strOk
  rw [← Array.all_toList, List.all_eq_true]
  simp only [decide_eq_true_eq]
theorem okS_app {a b : Str} (h1 : okS a) (h2 : okS b) : okS (a ++ b) := by
  rw [okS_iff] at h1 h2 ⊢
  intro c hc
  have hc : c ∈ (a.cps ++ b.cps).toList := hc
  rw [Array.toList_append] at hc
  exact (List.mem_append.mp hc).elim (h1 c) (h2 c)
theorem okS_sub {a : Str} {l : List Nat} (h1 : okS a) (h : ∀ c ∈ l, c ∈ a.cps.toList) : okS ⟨l.toArray⟩ := by
  rw [okS_iff] at h1 ⊢
  intro c hc
  exact h1 c (h c (by simpa using hc))
theorem okS_sign {a : Str} {c : Nat} (h1 : okS a) (h : c ∈ a.cps.toList) : okS ⟨#[c]⟩ :=
  okS_sub (l := [c]) h1 fun d hd => by
    have e : d = c := by simpa using hd
    rw [e]; exact h
theorem atI_mem {α : Type} {xs : List α} {k : Int} {x : α} (h : atI xs k = some x) : x ∈ xs := by
  obtain ⟨n, _, e⟩ := atI_get h
  exact List.mem_of_getElem? e

/-! ### scalars -/
def scV : T → V
  | .bl b => .bl b
  | .int i => .int i
  | .str s => .str s
  | _ => .non
def scOk : T → Prop
  | .non => True
  | .bl _ => True
  | .int _ => True
  | .str s => okS s
  | _ => False
theorem scRep {K : PySem.W.Frag} {H : Hp} {Z : Fb} {t : T} (h : scOk t) : RepO K H Z t (scV t) [] := by
  cases t with
  | non => exact ⟨rfl, rfl⟩
  | bl b => exact ⟨rfl, rfl⟩
  | int i => exact ⟨rfl, rfl⟩
  | str s => exact ⟨⟨rfl, h⟩, rfl⟩
  | _ => exact h.elim

/-! ### trees as data -/
section
variable {K : PySem.W.Frag} {H : Hp} {Z : Fb}
theorem max_le {a b n : Nat} (h : Nat.max a b ≤ n) : a ≤ n ∧ b ≤ n := ⟨Nat.le_trans (Nat.le_max_left a b) h, Nat.le_trans (Nat.le_max_right a b) h⟩
mutual
theorem RepS.dp : ∀ (t : T) (v : V), dep t ≤ 900 → RepS K H Z t v → Dp K H v (toD t)
  | .non, _, _, h => by rw [show _ = V.non from h]; exact .non
  | .bl b, _, _, h => by rw [show _ = V.bl b from h]; exact .bl b
  | .int i, _, _, h => by rw [show _ = V.int i from h]; exact .int i
  | .str s, _, _, h => by rw [show _ = V.str s from h.1]; exact .str s
  | .lst o xs, _, hd, ⟨a, vs, e, h1, n, h2⟩ => by
    rw [e]
    have hd : deps xs + 1 ≤ 900 := hd
    exact .lst (SqL.of h1) (RepSs.dp xs vs (by omega) h2)
  | .tup o xs, _, hd, ⟨a, vs, e, h1, n, h2⟩ => by
    rw [e]
    have hd : deps xs + 1 ≤ 900 := hd
    exact .tup (SqT.of h1) (RepSs.dp xs vs (by omega) h2)
  | .dic _ _ _, _, hd, _ => absurd (show 1000 ≤ 900 from hd) (by decide)
  | .dit _ _ _, _, hd, _ => absurd (show 1000 ≤ 900 from hd) (by decide)
  | .lkd _ _, _, hd, _ => absurd (show 1000 ≤ 900 from hd) (by decide)
  | .scr _, _, hd, _ => absurd (show 1000 ≤ 900 from hd) (by decide)
theorem RepSs.dp : ∀ (ts : List T) (vs : List V), deps ts ≤ 900 → RepSs K H Z ts vs → DpAll K H vs (toDs ts)
  | [], vs, _, h => by rw [show vs = [] from h]; exact .nil
  | t :: ts, _, hd, ⟨v, vr, e, hk, h1, h2⟩ => by
    rw [e]
    obtain ⟨d1, d2⟩ := max_le (show Nat.max (dep t) (deps ts) ≤ 900 from hd)
    exact .cons (RepS.dp t v d1 h1) (RepSs.dp ts vr d2 h2)
end
mutual
theorem RepS.lay : ∀ (t : T) (v : V), RepS K H Z t v → (toD t).canLay0 = true
  | .non, _, h => rfl
  | .bl b, _, h => rfl
  | .int i, _, h => rfl
  | .str s, _, h => h.2
  | .lst o xs, _, ⟨a, vs, e, h1, n, h2⟩ => RepSs.lay xs vs h2
  | .tup o xs, _, ⟨a, vs, e, h1, n, h2⟩ => RepSs.lay xs vs h2
  | .dic _ _ _, _, _ => rfl
  | .dit _ _ _, _, _ => rfl
  | .lkd _ _, _, _ => rfl
  | .scr _, _, _ => rfl
theorem RepSs.lay : ∀ (ts : List T) (vs : List V), RepSs K H Z ts vs → PyData.canLayAll0 (toDs ts) = true
  | [], vs, h => rfl
  | t :: ts, _, ⟨v, vr, e, hk, h1, h2⟩ => by
    show (PyData.canLay0 (toD t) && PyData.canLayAll0 (toDs ts)) = true
    rw [RepS.lay t v h1, RepSs.lay ts vr h2]; rfl
end
mutual
theorem dep_toD : ∀ t : T, (toD t).depth ≤ dep t
  | .non => Nat.le_refl _
  | .bl _ => Nat.le_refl _
  | .int _ => Nat.le_refl _
  | .str _ => Nat.le_refl _
  | .lst _ xs => Nat.succ_le_succ (deps_toDs xs)
  | .tup _ xs => Nat.succ_le_succ (deps_toDs xs)
  | .dic _ _ _ => Nat.zero_le _
  | .dit _ _ _ => Nat.zero_le _
  | .lkd _ _ => Nat.zero_le _
  | .scr _ => Nat.zero_le _
theorem deps_toDs : ∀ ts : List T, PyData.depthAll (toDs ts) ≤ deps ts
  | [] => Nat.le_refl _
  | t :: ts => by
    have h1 := dep_toD t
    have h2 := deps_toDs ts
    show max (PyData.depth (toD t)) (PyData.depthAll (toDs ts)) ≤ Nat.max (dep t) (deps ts)
    have e : Nat.max (dep t) (deps ts) = max (dep t) (deps ts) := rfl
    rw [e]
    omega
end
theorem RepS.shaped {t : T} {v : V} (h : RepS K H Z t v) (hd : dep t ≤ 64) : SeqAt.shaped (toD t) = true := by
  unfold SeqAt.shaped
  rw [h.lay t v, decide_eq_true (Nat.le_trans (dep_toD t) hd)]; rfl
mutual
theorem eqv_toD : ∀ t u : T, dep t ≤ 900 → dep u ≤ 900 → PyData.eqv (toD t) (toD u) = eqT t u
  | .non, u, _, h => by cases u <;> first | rfl | exact absurd (show 1000 ≤ 900 from h) (by decide)
  | .bl _, u, _, h => by cases u <;> first | rfl | exact absurd (show 1000 ≤ 900 from h) (by decide)
  | .int _, u, _, h => by cases u <;> first | rfl | exact absurd (show 1000 ≤ 900 from h) (by decide)
  | .str _, u, _, h => by cases u <;> first | rfl | exact absurd (show 1000 ≤ 900 from h) (by decide)
  | .lst _ xs, u, h1, h => by
    have h1 : deps xs + 1 ≤ 900 := h1
    cases u with
    | lst o ys =>
      have h : deps ys + 1 ≤ 900 := h
      exact eqvs_toDs xs ys (by omega) (by omega)
    | dic _ _ _ => exact absurd (show 1000 ≤ 900 from h) (by decide)
    | dit _ _ _ => exact absurd (show 1000 ≤ 900 from h) (by decide)
    | lkd _ _ => exact absurd (show 1000 ≤ 900 from h) (by decide)
    | scr _ => exact absurd (show 1000 ≤ 900 from h) (by decide)
    | _ => rfl
  | .tup _ xs, u, h1, h => by
    have h1 : deps xs + 1 ≤ 900 := h1
    cases u with
    | tup o ys =>
      have h : deps ys + 1 ≤ 900 := h
      exact eqvs_toDs xs ys (by omega) (by omega)
    | dic _ _ _ => exact absurd (show 1000 ≤ 900 from h) (by decide)
    | dit _ _ _ => exact absurd (show 1000 ≤ 900 from h) (by decide)
    | lkd _ _ => exact absurd (show 1000 ≤ 900 from h) (by decide)
    | scr _ => exact absurd (show 1000 ≤ 900 from h) (by decide)
    | _ => rfl
  | .dic _ _ _, _, h, _ => absurd (show 1000 ≤ 900 from h) (by decide)
  | .dit _ _ _, _, h, _ => absurd (show 1000 ≤ 900 from h) (by decide)
  | .lkd _ _, _, h, _ => absurd (show 1000 ≤ 900 from h) (by decide)
  | .scr _, _, h, _ => absurd (show 1000 ≤ 900 from h) (by decide)
theorem eqvs_toDs : ∀ ts us : List T, deps ts ≤ 900 → deps us ≤ 900 → PyData.eqvAll (toDs ts) (toDs us) = eqTs ts us
  | [], us, _, _ => by cases us <;> rfl
  | t :: ts, us, h1, h2 => by
    obtain ⟨d1, d2⟩ := max_le (show Nat.max (dep t) (deps ts) ≤ 900 from h1)
    cases us with
    | nil => rfl
    | cons u us =>
      obtain ⟨d3, d4⟩ := max_le (show Nat.max (dep u) (deps us) ≤ 900 from h2)
      show (PyData.eqv (toD t) (toD u) && PyData.eqvAll (toDs ts) (toDs us)) = (eqT t u && eqTs ts us)
      rw [eqv_toD t u d1 d3, eqvs_toDs ts us d2 d4]
end
end

/-! ### two-place operators -/
def rStrMul : R2 := fun x y H Q => ∃ z n, x = .str z ∧ y = .int n ∧ MulOk z n ∧ Q (.str (Txt.mul z n)) H
theorem op_mul_str {X : Cx} : OpR X (binaryOp .Mult) rStrMul := by
  intro pins s σ H x y v u Q I rx ry h
  obtain ⟨z, n, rfl, rfl, hm, q⟩ := h
  obtain ⟨t, rfl⟩ := rx
  obtain ⟨t', rfl⟩ := ry
  exact SB.mul hm fun t' k => ⟨.str _, H, I.tok _, ⟨_, rfl⟩, q⟩
def rNone : R2 := fun _ _ _ _ => False
def rBin (K : PySem.W.Frag) (o : Operator) : R2 :=
  match o with
  | .Add => fun x y H Q => rI0 (fun i j => .int (i + j)) x y H Q ∨ (∃ i j, x = .str i ∧ y = .str j ∧ i.length + j.length ≤ sizeLine ∧ Q (.str (i ++ j)) H) ∨ rCat x y H Q ∨ rCatA K x y H Q
  | .Sub => rI0 fun i j => .int (i - j)
  | .Mult => fun x y H Q => rI CMulX (fun i j => .int (i * j)) x y H Q ∨ rStrMul x y H Q ∨ rRep x y H Q
  | .FloorDiv => rI CDivW fun i j => .int (i / j)
  | .Mod => rI (fun _ j => 0 < j) fun i j => .int (i % j)
  | .Pow => rI CPow fun i j => .int (i ^ j.toNat)
  | .LShift => rI CShl fun i j => .int (i * 2 ^ j.toNat)
  | .RShift => rI (fun _ j => 0 ≤ j) fun i j => .int (i / 2 ^ j.toNat)
  | .BitAnd => rI0 fun i j => .int (Builtin.bitAnd i j)
  | .BitOr => rI0 fun i j => .int (Builtin.bitOr i j)
  | .BitXor => rI0 fun i j => .int (Builtin.bitXor i j)
  | _ => rNone
theorem opBin {X : Cx} (o : Operator) : OpR X (binaryOp o) (rBin X.K o) := by
  cases o with
  | Add => exact op_add.or (op_add_str.or (op_cat.or op_catA))
  | Sub => exact op_sub
  | Mult => exact op_mulX.or (op_mul_str.or op_rep)
  | FloorDiv => exact op_fdivW
  | Mod => exact op_mod
  | Pow => exact op_pow
  | LShift => exact op_shlW
  | RShift => exact op_shr
  | BitAnd => exact op_and
  | BitOr => exact op_or
  | BitXor => exact op_xor
  | _ => exact fun _ _ _ _ _ _ _ _ _ _ _ _ h => h.elim
theorem foldl_app (n : Nat) (x : Array Nat) : ∀ acc : Array Nat, (List.replicate n x).foldl (· ++ ·) acc = acc ++ ((List.replicate n x.toList).flatten).toArray := by
  induction n with
  | zero => intro acc; simp
  | succ n ih =>
    intro acc
    rw [List.replicate_succ, List.foldl_cons, ih, List.replicate_succ, List.flatten_cons]
    apply Array.toList_inj.mp
    simp [List.append_assoc]
theorem txt_mul {z : Str} {n : Int} (h0 : 0 ≤ n) : Txt.mul z n = ⟨((List.replicate n.toNat z.cps.toList).flatten).toArray⟩ := by
  unfold Txt.mul
  by_cases h1 : n < 1
  · rw [if_pos h1]
    have e : n.toNat = 0 := by omega
    rw [e]; rfl
  · rw [if_neg h1]
    by_cases h2 : (n == 1 || z.length == 0) = true
    · rw [if_pos h2]
      simp only [Bool.or_eq_true, beq_iff_eq] at h2
      rcases h2 with h2 | h2
      · subst h2
        show z = ⟨((List.replicate 1 z.cps.toList).flatten).toArray⟩
        simp
      · have e : z.cps.toList = [] := by
          have : z.cps.size = 0 := h2
          exact List.eq_nil_of_length_eq_zero (by simpa using this)
        have e2 : z = ⟨#[]⟩ := by
          cases z with
          | mk cps =>
            have : cps = #[] := by
              apply Array.toList_inj.mp
              simpa using e
            rw [this]
        rw [e]
        rw [e2]
        have : ∀ m : Nat, (List.replicate m ([] : List Nat)).flatten = [] := by
          intro m
          induction m with
          | zero => rfl
          | succ m ih => rw [List.replicate_succ, List.flatten_cons, ih]; rfl
        rw [this]
    · rw [if_neg h2, foldl_app]
      simp
theorem mulOk_small {z : Str} {n : Int} (h0 : 0 ≤ n) (h1 : n ≤ 1000) (h2 : z.length ≤ 1000) : MulOk z n := by
  refine ⟨by simp; omega, fun hn _ => ?_, fun hn _ => ?_⟩
  · have : (2 ^ 63 - 1) / n ≥ (2 ^ 63 - 1) / 1000 := by
      have hp : 0 < n := by omega
      rw [ge_iff_le, Int.le_ediv_iff_mul_le hp]
      have : (2 ^ 63 - 1 : Int) / 1000 * n ≤ (2 ^ 63 - 1) / 1000 * 1000 := Int.mul_le_mul_of_nonneg_left h1 (by decide)
      exact Int.le_trans this (by decide)
    have e : (2 ^ 63 - 1 : Int) / 1000 ≥ 1000 := by decide
    omega
  · have hm : z.length * n.toNat ≤ 1000 * 1000 := Nat.mul_le_mul h2 (by omega)
    have e : sizeLine = 16777216 := by decide
    show decide (z.length * n.toNat > sizeLine) = false
    rw [decide_eq_false_iff_not]
    omega
theorem binS_sound {K : PySem.W.Frag} {H : Hp} {Z : Fb} {o : Operator} {a b r : T} {x y : V} (h : binS o a b = some r) (ha : RepS K H Z a x) (hb : RepS K H Z b y) : scOk r ∧ ∀ Q : VK, Q (scV r) H → rBin K o x y H Q := by
  cases a with
  | int i =>
    have ex : x = .int i := ha
    cases b with
    | int j =>
      have ey : y = .int j := hb
      cases o with
      | Add => cases h; exact ⟨trivial, fun Q q => .inl ⟨i, j, ex, ey, q⟩⟩
      | Sub => cases h; exact ⟨trivial, fun Q q => ⟨i, j, ex, ey, q⟩⟩
      | Mult =>
        simp only [binS] at h
        split at h
        · rename_i hc
          cases h
          exact ⟨trivial, fun Q q => .inl ⟨i, j, ex, ey, by unfold CMulX; unfold bits at hc; omega, q⟩⟩
        · cases h
      | FloorDiv =>
        simp only [binS] at h
        split at h
        · rename_i hc; cases h; exact ⟨trivial, fun Q q => ⟨i, j, ex, ey, hc, q⟩⟩
        · cases h
      | Mod =>
        simp only [binS] at h
        split at h
        · rename_i hc; cases h; exact ⟨trivial, fun Q q => ⟨i, j, ex, ey, hc, q⟩⟩
        · cases h
      | Pow =>
        simp only [binS] at h
        split at h
        · rename_i hc; cases h; exact ⟨trivial, fun Q q => ⟨i, j, ex, ey, ⟨hc.1, hc.2.1, hc.2.2⟩, q⟩⟩
        · cases h
      | LShift =>
        simp only [binS] at h
        split at h
        · rename_i hc; cases h; exact ⟨trivial, fun Q q => ⟨i, j, ex, ey, ⟨hc.1, by unfold bits at hc; have := hc.2; omega⟩, q⟩⟩
        · cases h
      | RShift =>
        simp only [binS] at h
        split at h
        · rename_i hc; cases h; exact ⟨trivial, fun Q q => ⟨i, j, ex, ey, hc, q⟩⟩
        · cases h
      | BitAnd => cases h; exact ⟨trivial, fun Q q => ⟨i, j, ex, ey, q⟩⟩
      | BitOr => cases h; exact ⟨trivial, fun Q q => ⟨i, j, ex, ey, q⟩⟩
      | BitXor => cases h; exact ⟨trivial, fun Q q => ⟨i, j, ex, ey, q⟩⟩
      | _ => cases h
    | _ => cases h
  | str i =>
    have ex : x = .str i := ha.1
    cases b with
    | str j =>
      have ey : y = .str j := hb.1
      cases o with
      | Add =>
        simp only [binS] at h
        split at h
        · rename_i hc; cases h; exact ⟨okS_app ha.2 hb.2, fun Q q => .inr (.inl ⟨i, j, ex, ey, hc, q⟩)⟩
        · cases h
      | _ => cases h
    | int k =>
      have ey : y = .int k := hb
      cases o with
      | Mult =>
        simp only [binS] at h
        split at h
        · rename_i hc
          cases h
          refine ⟨okS_sub ha.2 fun c hc' => ?_, fun Q q => .inr (.inl ⟨i, k, ex, ey, mulOk_small hc.1 hc.2.1 hc.2.2, by rw [txt_mul hc.1]; exact q⟩)⟩
          obtain ⟨l, hl, hcl⟩ := List.mem_flatten.mp hc'
          rw [List.eq_of_mem_replicate hl] at hcl
          exact hcl
        · cases h
      | _ => cases h
    | _ => cases h
  | _ => cases b <;> cases h
end TV

set_option Elab.async false
set_option linter.all false
set_option maxRecDepth 100000
set_option maxHeartbeats 4000000
/-! TV8: comparisons, one-place operators, built-in functions that give a number, a truth, a text. -/
namespace TV
open PySem PySem.Spec PyProof.Rows L2

section
variable {K : PySem.W.Frag} {H : Hp} {Z : Fb} {X : Cx}
theorem lk_decide {κ : Type} [DecidableEq κ] {k a : κ} (h : a = k) : decide (a = k) = true := decide_eq_true h
/-- a dict's value at a key -/
theorem dget_val {κ : Type} [DecidableEq κ] (k : κ) : ∀ (ks : List κ) (xs : List T) (vs : List V), ks.length = vs.length → RepSs K H Z xs vs →
    (∀ x, dget k ks xs = some x → ∃ v, valV (ks.zip vs) k = some v ∧ RepS K H Z x v) ∧ (dget k ks xs = none → valV (ks.zip vs) k = none)
  | [], xs, vs, hl, h => by
    refine ⟨fun x e => ?_, fun _ => by rw [List.zip_nil_left]; rfl⟩
    cases xs <;> cases e
  | a :: ks, [], vs, hl, h => by
    rw [show vs = [] from h] at hl
    cases hl
  | a :: ks, x :: xs, vs, hl, ⟨v, vr, ev, hk, h1, h2⟩ => by
    rw [ev] at hl ⊢
    have ih := dget_val k ks xs vr (Nat.succ.inj hl) h2
    rw [List.zip_cons_cons]
    by_cases e : a = k
    · have e1 : dget k (a :: ks) (x :: xs) = some x := if_pos e
      rw [e1, valV_pos (p := (a, v)) e]
      refine ⟨fun y q => ?_, fun q => by cases q⟩
      cases q
      exact ⟨v, rfl, h1⟩
    · have e1 : dget k (a :: ks) (x :: xs) = dget k ks xs := if_neg e
      rw [e1, valV_neg (p := (a, v)) e]
      exact ih
def rInDict : R2 := fun x y H Q => ∃ a o, y = .ref a ∧ DGet H a x o ∧ Q (.bl o.isSome) H
def rNotInDict : R2 := fun x y H Q => ∃ a o, y = .ref a ∧ DGet H a x o ∧ Q (.bl (!o.isSome)) H
theorem op_in_dict (hu : X.A.units + 1 < cLine) : OpR X (compareOp .In) rInDict := by
  intro pins s σ H x y v u Q I rx ry h
  obtain ⟨a, o, rfl, g, q⟩ := h
  obtain rfl : u = Value.ref a := ry
  exact d_in hu I g rx fun s3 I3 => ⟨.bl o.isSome, H, I3, rfl, q⟩
theorem op_notIn_dict (hu : X.A.units + 1 < cLine) : OpR X (compareOp .NotIn) rNotInDict := by
  intro pins s σ H x y v u Q I rx ry h
  obtain ⟨a, o, rfl, g, q⟩ := h
  obtain rfl : u = Value.ref a := ry
  exact d_notIn hu I g rx fun s3 I3 => ⟨.bl (!o.isSome), H, I3, rfl, q⟩
def rSign (n : Bool) : R2 := fun x y H Q => ∃ (c : Nat) (z : Str), x = .str ⟨#[c]⟩ ∧ y = .str z ∧ Q (.bl (if n then !decide (c ∈ z.cps.toList) else decide (c ∈ z.cps.toList))) H
theorem op_sign_in : OpR X (compareOp .In) (rSign false) := op_in_sign
theorem op_sign_notIn : OpR X (compareOp .NotIn) (rSign true) := op_notIn_sign
def rCmp (K : PySem.W.Frag) (o : CmpOp) : R2 :=
  match o with
  | .Eq => rEqD K
  | .NotEq => rNeD K
  | .In => fun x y H Q => rInD K x y H Q ∨ rIn K false x y H Q ∨ rSign false x y H Q ∨ rInDict x y H Q
  | .NotIn => fun x y H Q => rNotInD K x y H Q ∨ rIn K true x y H Q ∨ rSign true x y H Q ∨ rNotInDict x y H Q
  | .Is => fun x y H Q => y = .non ∧ Q (.bl (decide (x = .non))) H
  | .IsNot => fun x y H Q => y = .non ∧ Q (.bl (!decide (x = .non))) H
  | .Lt => fun x y H Q => rI0 (fun i j => .bl (decide (i < j))) x y H Q ∨ (∃ i j, x = .str i ∧ y = .str j ∧ Q (.bl (decide (i.cps.toList < j.cps.toList))) H)
  | .LtE => fun x y H Q => rI0 (fun i j => .bl (decide (i ≤ j))) x y H Q ∨ (∃ i j, x = .str i ∧ y = .str j ∧ Q (.bl (!decide (j.cps.toList < i.cps.toList))) H)
  | .Gt => fun x y H Q => rI0 (fun i j => .bl (decide (j < i))) x y H Q ∨ (∃ i j, x = .str i ∧ y = .str j ∧ Q (.bl (decide (j.cps.toList < i.cps.toList))) H)
  | .GtE => fun x y H Q => rI0 (fun i j => .bl (decide (j ≤ i))) x y H Q ∨ (∃ i j, x = .str i ∧ y = .str j ∧ Q (.bl (!decide (i.cps.toList < j.cps.toList))) H)
theorem opCmp (o : CmpOp) (hu : X.A.units + 65 < cLine) : OpR X (compareOp o) (rCmp X.K o) := by
  have h64 : X.A.units + 64 < cLine := by omega
  have h1 : X.A.units + 1 < cLine := by omega
  cases o with
  | Eq => exact op_eqD h64
  | NotEq => exact op_neD h64
  | In => exact (op_inD hu).or (op_in_seq.or (op_sign_in.or (op_in_dict h1)))
  | NotIn => exact (op_notInD hu).or (op_notIn_seq.or (op_sign_notIn.or (op_notIn_dict h1)))
  | Is => exact op_isN
  | IsNot => exact op_notN
  | Lt => exact op_lt.or op_lt_str
  | LtE => exact op_le.or op_le_str
  | Gt => exact op_gt.or op_gt_str
  | GtE => exact op_ge.or op_ge_str
theorem toDs_any (d : T) (hd : dep d ≤ 900) : ∀ xs : List T, deps xs ≤ 900 → ((toDs xs).any fun z => PyData.eqv z (toD d)) = xs.any fun z => eqT z d
  | [], _ => rfl
  | x :: xs, h => by
    obtain ⟨d1, d2⟩ := max_le (show Nat.max (dep x) (deps xs) ≤ 900 from h)
    show (PyData.eqv (toD x) (toD d) || (toDs xs).any _) = (eqT x d || xs.any _)
    rw [eqv_toD x d d1 hd, toDs_any d hd xs d2]
theorem scl_rep {t : T} {v : V} (h : RepS K H Z t v) (hs : scl t = true) : v = scV t ∧ flatV v = true := by
  cases t with
  | non => exact ⟨h, by rw [show v = V.non from h]; rfl⟩
  | bl b => exact ⟨h, by rw [show v = V.bl b from h]; rfl⟩
  | int i => exact ⟨h, by rw [show v = V.int i from h]; rfl⟩
  | str s => exact ⟨h.1, by rw [h.1]; rfl⟩
  | _ => cases hs
theorem scl_eq {a b : T} (ha : scl a = true) (hb : scl b = true) : eqV (scV a) (scV b) = eqT a b := by
  cases a <;> cases b <;> first | rfl | (cases hb; done) | (cases ha; done)
theorem scls_rep : ∀ {ts : List T} {vs : List V}, RepSs K H Z ts vs → ts.all scl = true → vs = ts.map scV ∧ vs.all flatV = true
  | [], vs, h, _ => by rw [show vs = [] from h]; exact ⟨rfl, rfl⟩
  | t :: ts, _, ⟨v, vr, e, hk, h1, h2⟩, hs => by
    rw [List.all_cons, Bool.and_eq_true] at hs
    obtain ⟨e1, f1⟩ := scl_rep h1 hs.1
    obtain ⟨e2, f2⟩ := scls_rep h2 hs.2
    exact ⟨by rw [e, List.map_cons, ← e1, ← e2], by rw [e, List.all_cons, f1, f2]; rfl⟩
theorem scls_any {a : T} (ha : scl a = true) : ∀ ts : List T, ts.all scl = true → inV (scV a) (ts.map scV) = ts.any fun z => eqT z a
  | [], _ => rfl
  | t :: ts, hs => by
    rw [List.all_cons, Bool.and_eq_true] at hs
    show (eqV (scV t) (scV a) || inV (scV a) (ts.map scV)) = (eqT t a || ts.any _)
    rw [scl_eq hs.1 ha, scls_any ha ts hs.2]
theorem key_rep {t : T} {v : V} {k : Key} (h : RepS K H Z t v) (e : keyOf t = some k) : v = kV k := by
  cases t with
  | int i => cases e; exact h
  | str s => cases e; exact h.1
  | _ => cases e
theorem str_one {x : Str} (h : x.length = 1) : x = ⟨#[x.cps.getD 0 0]⟩ := by
  cases x with
  | mk cps =>
    have h : cps.size = 1 := h
    obtain ⟨a, rfl⟩ : ∃ a, cps = #[a] := by
      have hl : cps.toList.length = 1 := by simpa using h
      match e : cps.toList, hl with
      | [a], _ => exact ⟨a, Array.toList_inj.mp e⟩
    rfl
theorem inS_sound {a c : T} {r : Bool} {x y : V} (h : inS a c = some r) (ha : RepS K H Z a x) (hc : RepS K H Z c y) :
    (∀ Q : VK, Q (.bl r) H → rCmp K .In x y H Q) ∧ (∀ Q : VK, Q (.bl !r) H → rCmp K .NotIn x y H Q) := by
  cases c with
  | lst o xs =>
    simp only [inS] at h
    split at h
    · rename_i hd
      cases h
      obtain ⟨p, vs, e, h1, n, h2⟩ := hc
      have d1 : Dp K H x (toD a) := ha.dp a x (by omega)
      have d2 : Dp K H y (.list (toDs xs)) := by rw [e]; exact .lst (SqL.of h1) (RepSs.dp xs vs (by omega) h2)
      have s1 := ha.shaped (by omega)
      have s2 : SeqAt.shaped (.list (toDs xs)) = true := RepS.shaped (K := K) (H := H) (Z := Z) (t := .lst o xs) (v := y) ⟨p, vs, e, h1, n, h2⟩ (by show deps xs + 1 ≤ 64; omega)
      refine ⟨fun Q q => .inl ⟨_, _, d1, d2, s1, s2, ?_⟩, fun Q q => .inl ⟨_, _, d1, d2, s1, s2, ?_⟩⟩
      · rw [toDs_any a (by omega) xs (by omega)]; exact q
      · rw [toDs_any a (by omega) xs (by omega)]; exact q
    · cases h
  | tup o xs =>
    simp only [inS] at h
    split at h
    · rename_i hd
      cases h
      obtain ⟨p, vs, e, h1, n, h2⟩ := hc
      obtain ⟨ex, fx⟩ := scl_rep ha hd.1
      obtain ⟨es, fs⟩ := scls_rep h2 hd.2
      have q1 : inV x vs = xs.any fun z => eqT z a := by rw [ex, es]; exact scls_any hd.1 xs hd.2
      refine ⟨fun Q q => .inr (.inl ⟨p, vs, e, .inr (SqT.of h1), fx, fs, ?_⟩), fun Q q => .inr (.inl ⟨p, vs, e, .inr (SqT.of h1), fx, fs, ?_⟩)⟩
      · rw [q1]; exact q
      · rw [q1]; exact q
    · cases h
  | str z =>
    cases a with
    | str w =>
      simp only [inS] at h
      split at h
      · rename_i hd
        cases h
        exact ⟨fun Q q => .inr (.inr (.inl ⟨_, z, by rw [ha.1, ← str_one hd], hc.1, q⟩)), fun Q q => .inr (.inr (.inl ⟨_, z, by rw [ha.1, ← str_one hd], hc.1, q⟩))⟩
      · cases h
    | _ => cases h
  | dic o ks xs =>
    obtain ⟨p, vs, e, h1, n, hl, h2⟩ := hc
    simp only [inS] at h
    cases hk : keyOf a with
    | none => rw [hk] at h; cases h
    | some k =>
      rw [hk] at h
      have h : some (dget k ks xs).isSome = some r := h
      cases h
      obtain ⟨g1, g2⟩ := dget_val k ks xs vs hl h2
      have es : (valV (ks.zip vs) k).isSome = (dget k ks xs).isSome := by
        cases q : dget k ks xs with
        | none => rw [g2 q]; rfl
        | some w => obtain ⟨v, ev, _⟩ := g1 w q; rw [ev]; rfl
      have dg : DGet H p x (valV (ks.zip vs) k) := .inl ⟨_, k, .inl h1, key_rep ha hk, rfl⟩
      exact ⟨fun Q q => .inr (.inr (.inr ⟨p, _, e, dg, by rw [es]; exact q⟩)), fun Q q => .inr (.inr (.inr ⟨p, _, e, dg, by rw [es]; exact q⟩))⟩
  | lkd ks xs =>
    obtain ⟨p, vs, od, e, h1, n, hl, h2⟩ := hc
    simp only [inS] at h
    cases hk : keyOf a with
    | none => rw [hk] at h; cases h
    | some k =>
      rw [hk] at h
      have h : some (dget k ks xs).isSome = some r := h
      cases h
      obtain ⟨g1, g2⟩ := dget_val k ks xs vs hl h2
      have es : (valV (ks.zip vs) k).isSome = (dget k ks xs).isSome := by
        cases q : dget k ks xs with
        | none => rw [g2 q]; rfl
        | some w => obtain ⟨v, ev, _⟩ := g1 w q; rw [ev]; rfl
      have dg : DGet H p x (valV (ks.zip vs) k) := .inl ⟨_, k, .inr ⟨od, h1⟩, key_rep ha hk, rfl⟩
      exact ⟨fun Q q => .inr (.inr (.inr ⟨p, _, e, dg, by rw [es]; exact q⟩)), fun Q q => .inr (.inr (.inr ⟨p, _, e, dg, by rw [es]; exact q⟩))⟩
  | _ => cases h
theorem eqS_sound {a b : T} {r : Bool} {x y : V} (h : eqS a b = some r) (ha : RepS K H Z a x) (hb : RepS K H Z b y) :
    (∀ Q : VK, Q (.bl r) H → rCmp K .Eq x y H Q) ∧ (∀ Q : VK, Q (.bl !r) H → rCmp K .NotEq x y H Q) := by
  unfold eqS at h
  split at h
  · rename_i hd
    cases h
    have d1 := ha.dp a x (by omega)
    have d2 := hb.dp b y (by omega)
    have s1 := ha.shaped (by omega)
    have s2 := hb.shaped (by omega)
    have e := eqv_toD a b (by omega) (by omega)
    exact ⟨fun Q q => ⟨_, _, d1, d2, s1, s2, by rw [e]; exact q⟩, fun Q q => ⟨_, _, d1, d2, s1, s2, by rw [e]; exact q⟩⟩
  · cases h
theorem isNon_rep {a : T} {x : V} (h : RepS K H Z a x) : decide (x = .non) = isNon a := by
  cases a with
  | non => rw [show x = V.non from h]; rfl
  | bl b => rw [show x = V.bl b from h]; rfl
  | int b => rw [show x = V.int b from h]; rfl
  | str b => rw [h.1]; rfl
  | lst o xs => obtain ⟨p, vs, e, _⟩ := h; rw [e]; rfl
  | tup o xs => obtain ⟨p, vs, e, _⟩ := h; rw [e]; rfl
  | dic o ks xs => obtain ⟨p, vs, e, _⟩ := h; rw [e]; rfl
  | dit o ks xs => obtain ⟨p, vs, e, _⟩ := h; rw [e]; rfl
  | lkd ks xs => obtain ⟨p, vs, od, e, _⟩ := h; rw [e]; rfl
  | scr ns => obtain ⟨p, e, _⟩ := h; rw [e]; rfl
theorem isNon_eq {a : T} {x : V} (h : RepS K H Z a x) (e : isNon a = true) : x = .non := by
  cases a with
  | non => exact h
  | _ => cases e
theorem cmpS_sound {o : CmpOp} {a b r : T} {x y : V} (h : cmpS o a b = some r) (ha : RepS K H Z a x) (hb : RepS K H Z b y) : scOk r ∧ ∀ Q : VK, Q (scV r) H → rCmp K o x y H Q := by
  cases o with
  | Eq =>
    obtain ⟨q, e1, e2⟩ := Option.map_eq_some_iff.mp h
    subst e2
    exact ⟨trivial, (eqS_sound e1 ha hb).1⟩
  | NotEq =>
    obtain ⟨q, e1, e2⟩ := Option.map_eq_some_iff.mp h
    subst e2
    exact ⟨trivial, (eqS_sound e1 ha hb).2⟩
  | In =>
    obtain ⟨q, e1, e2⟩ := Option.map_eq_some_iff.mp h
    subst e2
    exact ⟨trivial, (inS_sound e1 ha hb).1⟩
  | NotIn =>
    obtain ⟨q, e1, e2⟩ := Option.map_eq_some_iff.mp h
    subst e2
    exact ⟨trivial, (inS_sound e1 ha hb).2⟩
  | Is =>
    simp only [cmpS] at h
    split at h
    · rename_i hn; cases h
      exact ⟨trivial, fun Q q => ⟨isNon_eq hb hn, by rw [isNon_rep ha]; exact q⟩⟩
    · cases h
  | IsNot =>
    simp only [cmpS] at h
    split at h
    · rename_i hn; cases h
      exact ⟨trivial, fun Q q => ⟨isNon_eq hb hn, by rw [isNon_rep ha]; exact q⟩⟩
    · cases h
  | _ =>
    cases a with
    | int i =>
      cases b with
      | int j => cases h; exact ⟨trivial, fun Q q => .inl ⟨i, j, ha, hb, q⟩⟩
      | _ => cases h
    | str i =>
      cases b with
      | str j => cases h; exact ⟨trivial, fun Q q => .inr ⟨i, j, ha.1, hb.1, q⟩⟩
      | _ => cases h
    | _ => cases h
end
end TV

set_option Elab.async false
set_option linter.all false
set_option maxRecDepth 100000
set_option maxHeartbeats 4000000
/-! TV9: what happens to slots and temporaries. -/
namespace TV
open PySem PySem.Spec PyProof.Rows L2

section
variable {K : PySem.W.Frag} {H : Hp} {Z Z' F : Fb} {σ : Sg} {L : Slots} {O A B : List Addr}
theorem RepOs.nth : ∀ {xs : List T} {vs : List V} {B : List Addr} {n : Nat} {x : T}, RepOs K H Z xs vs B → xs[n]? = some x →
    ∃ v B1 B2 B3, vs[n]? = some v ∧ B = B1 ++ (B2 ++ B3) ∧ isLkd x = false ∧ RepO K H Z x v B2 ∧ ∀ y w B', isLkd y = false → RepO K H Z y w B' → RepOs K H Z (xs.set n y) (vs.set n w) (B1 ++ (B' ++ B3))
  | [], _, _, _, _, _, e => by simp at e
  | t :: ts, _, _, 0, x, ⟨v, vr, A1, A2, ev, eA, hk, h1, h2⟩, e => by
    simp at e; subst e
    refine ⟨v, [], A1, A2, by rw [ev]; rfl, by rw [eA]; rfl, hk, h1, fun y w B' hy r => ?_⟩
    rw [ev]
    exact ⟨w, vr, B', A2, rfl, rfl, hy, r, h2⟩
  | t :: ts, _, _, n + 1, x, ⟨v, vr, A1, A2, ev, eA, hk, h1, h2⟩, e => by
    obtain ⟨u, B1, B2, B3, h3, h4, h5, h6, h7⟩ := RepOs.nth (n := n) h2 (by simpa using e)
    refine ⟨u, A1 ++ B1, B2, B3, by rw [ev]; simpa using h3, by rw [eA, h4, List.append_assoc], h5, h6, fun y w B' hy r => ?_⟩
    rw [ev]
    exact ⟨v, vr.set n w, A1, B1 ++ (B' ++ B3), rfl, by rw [List.append_assoc], hk, h1, h7 y w B' hy r⟩
theorem RepOs.append : ∀ {xs ys : List T} {vs ws : List V} {B C : List Addr}, RepOs K H Z xs vs B → RepOs K H Z ys ws C → RepOs K H Z (xs ++ ys) (vs ++ ws) (B ++ C)
  | [], _, _, _, _, _, h, h' => by rw [h.1, h.2]; exact h'
  | t :: ts, _, _, _, _, _, ⟨v, vr, A1, A2, ev, eA, hk, h1, h2⟩, h' => by
    rw [ev, eA]
    exact ⟨v, _, A1, _, rfl, by rw [List.append_assoc], hk, h1, RepOs.append h2 h'⟩
theorem RepSs.append : ∀ {xs ys : List T} {vs ws : List V}, RepSs K H Z xs vs → RepSs K H Z ys ws → RepSs K H Z (xs ++ ys) (vs ++ ws)
  | [], _, _, _, h, h' => by rw [show _ = [] from h]; exact h'
  | t :: ts, _, _, _, ⟨v, vr, ev, hk, h1, h2⟩, h' => by
    rw [ev]; exact ⟨v, _, rfl, hk, h1, RepSs.append h2 h'⟩
theorem RepOs.drop : ∀ (n : Nat) {xs : List T} {vs : List V} {B : List Addr}, RepOs K H Z xs vs B → ∃ C, C.Sublist B ∧ RepOs K H Z (xs.drop n) (vs.drop n) C
  | 0, _, _, _, h => ⟨_, List.Sublist.refl _, h⟩
  | n + 1, [], _, _, h => by
    refine ⟨[], List.nil_sublist _, ?_⟩
    rw [h.1]
    exact ⟨rfl, rfl⟩
  | n + 1, t :: ts, _, _, ⟨v, vr, A1, A2, ev, eA, hk, h1, h2⟩ => by
    obtain ⟨C, s, r⟩ := RepOs.drop n h2
    exact ⟨C, by rw [eA]; exact s.trans (List.sublist_append_right A1 A2), by rw [ev]; exact r⟩
theorem RepOs.take : ∀ (n : Nat) {xs : List T} {vs : List V} {B : List Addr}, RepOs K H Z xs vs B → ∃ C, C.Sublist B ∧ RepOs K H Z (xs.take n) (vs.take n) C
  | 0, _, _, _, h => ⟨[], List.nil_sublist _, rfl, rfl⟩
  | n + 1, [], _, _, h => by
    refine ⟨[], List.nil_sublist _, ?_⟩
    rw [h.1]
    exact ⟨rfl, rfl⟩
  | n + 1, t :: ts, _, _, ⟨v, vr, A1, A2, ev, eA, hk, h1, h2⟩ => by
    obtain ⟨C, s, r⟩ := RepOs.take n h2
    refine ⟨A1 ++ C, by rw [eA]; exact List.Sublist.append (List.Sublist.refl _) s, ?_⟩
    rw [ev]
    exact ⟨v, vr.take n, A1, C, rfl, rfl, hk, h1, r⟩
theorem RepSs.nolkd : ∀ {ts : List T} {vs : List V} {n : Nat} {t : T}, RepSs K H Z ts vs → ts[n]? = some t → isLkd t = false
  | [], _, _, _, _, e => by simp at e
  | t :: ts, _, 0, _, ⟨v, vr, ev, hk, h1, h2⟩, e => by simp at e; rw [← e]; exact hk
  | t :: ts, _, n + 1, _, ⟨v, vr, ev, hk, h1, h2⟩, e => RepSs.nolkd (n := n) h2 (by simpa using e)
theorem RepOs.later1 {xs : List T} {vs : List V} (h : RepOs K H Z xs vs B) (w : ∀ a, Z' a → Z a) : RepOs K H Z' xs vs B := RepOs.later (later_less w) xs vs B (fun _ _ _ e => e) h
theorem RepO.later1 {x : T} {v : V} (h : RepO K H Z x v B) (w : ∀ a, Z' a → Z a) : RepO K H Z' x v B := RepO.later (later_less w) x v B (fun _ _ _ e => e) h
theorem RepSs.later1 {xs : List T} {vs : List V} (h : RepSs K H Z xs vs) (w : ∀ a, Z' a → Z a) : RepSs K H Z' xs vs := RepSs.later (later_less w) xs vs h
theorem RepS.later1 {x : T} {v : V} (h : RepS K H Z x v) (w : ∀ a, Z' a → Z a) : RepS K H Z' x v := RepS.later (later_less w) x v h
theorem set_self {α : Type} {xs : List α} {i : Nat} {x : α} (h : xs[i]? = some x) : xs.set i x = xs := by
  apply List.ext_getElem?
  intro j
  by_cases hj : i = j
  · subst hj
    obtain ⟨hl, e⟩ := List.getElem?_eq_some_iff.mp h
    rw [List.getElem?_set_self hl, h]
  · rw [List.getElem?_set_ne hj]

/-- at the end of a path -/
theorem RepO.path : ∀ (js : List Int) {t u : T} {v0 v : V} {A : List Addr}, RepO K H Z t v0 A → pathT t js = some u → PathV H v0 js v → ∃ A', (∀ b ∈ A', b ∈ A) ∧ RepO K H Z u v A'
  | [], t, u, v0, v, A, r, e, pv => by
    have e1 : t = u := by
      cases t <;> exact Option.some.inj e
    subst e1
    have ev : v = v0 := pv
    rw [ev]
    exact ⟨A, fun _ z => z, r⟩
  | j :: js, t, u, v0, v, A, r, e, ⟨a, vs, v1, ea, hvs, at1, pv⟩ => by
    have shared : ∀ (xs : List T), RepSs K H Z xs vs → shrs xs = true → (atI xs j).bind (fun x => pathT x js) = some u → ∃ A', (∀ b ∈ A', b ∈ A) ∧ RepO K H Z u v A' := by
      intro xs rk sh e
      cases qx : atI xs j with
      | none => rw [qx] at e; cases e
      | some x =>
        rw [qx] at e
        obtain ⟨w1, hw1, rx⟩ := rk.at qx
        rw [at1] at hw1; cases hw1
        have shx : shr x = true := by
          rw [shrs_all, List.all_eq_true] at sh
          exact sh x (atI_mem qx)
        obtain ⟨A', s, r'⟩ := RepO.path js (rx.held0 shx) e pv
        exact ⟨A', fun b hb => (nomatch s b hb), r'⟩
    have own : ∀ (xs : List T) (B : List Addr), RepOs K H Z xs vs B → (∀ b ∈ B, b ∈ A) → (atI xs j).bind (fun x => pathT x js) = some u → ∃ A', (∀ b ∈ A', b ∈ A) ∧ RepO K H Z u v A' := by
      intro xs B rk sB e
      cases qx : atI xs j with
      | none => rw [qx] at e; cases e
      | some x =>
        rw [qx] at e
        obtain ⟨n, hn1, hn2⟩ := atI_get qx
        obtain ⟨v2, B1, B2, B3, g1, g2, g3, g4, _⟩ := rk.nth hn2
        have : v2 = v1 := by
          obtain ⟨n', hn1', hn2'⟩ := atI_get at1
          rw [← rk.length, hn1] at hn1'
          cases hn1'
          rw [g1] at hn2'; exact Option.some.inj hn2'
        subst this
        obtain ⟨A', s, r'⟩ := RepO.path js g4 e pv
        exact ⟨A', fun b hb => sB b (by rw [g2]; exact List.mem_append_right _ (List.mem_append_left _ (s b hb))), r'⟩
    have eqL : ∀ {b : Addr} {ws : List V}, v0 = .ref b → H b = some (.lst ws) → vs = ws := fun {b ws} eb h1 => by
      rw [ea] at eb; cases eb
      rcases hvs with hvs | hvs
      · rw [h1] at hvs; cases hvs; rfl
      · rw [h1] at hvs; cases hvs
    have eqT' : ∀ {b : Addr} {ws : List V}, v0 = .ref b → H b = some (.tup ws) → vs = ws := fun {b ws} eb h1 => by
      rw [ea] at eb; cases eb
      rcases hvs with hvs | hvs
      · rw [h1] at hvs; cases hvs
      · rw [h1] at hvs; cases hvs; rfl
    cases t with
    | lst o xs =>
      have e : (atI xs j).bind (fun x => pathT x js) = some u := e
      cases o with
      | true =>
        obtain ⟨b, ws, B, eb, eA2, h1, h2⟩ := r
        rw [← eqL eb h1] at h2
        exact own xs B h2 (fun c hc => by rw [eA2]; exact List.mem_cons_of_mem _ hc) e
      | false =>
        obtain ⟨⟨b, ws, eb, h1, n, h2⟩, eA2, sh⟩ := r
        rw [← eqL eb h1] at h2
        exact shared xs h2 sh e
    | tup o xs =>
      have e : (atI xs j).bind (fun x => pathT x js) = some u := e
      cases o with
      | true =>
        obtain ⟨b, ws, B, eb, eA2, h1, h2⟩ := r
        rw [← eqT' eb h1] at h2
        exact own xs B h2 (fun c hc => by rw [eA2]; exact List.mem_cons_of_mem _ hc) e
      | false =>
        obtain ⟨⟨b, ws, eb, h1, n, h2⟩, eA2, sh⟩ := r
        rw [← eqT' eb h1] at h2
        exact shared xs h2 sh e
    | _ => cases e
/-- at the end of a path what is not held is shared -/
theorem RepO.pathShared (js : List Int) {t u : T} {v0 v : V} {A : List Addr} (r : RepO K H Z t v0 A) (e : pathT t js = some u) (hu : isOwn u = false) (pv : PathV H v0 js v) : RepS K H Z u v ∧ shr u = true := by
  obtain ⟨A', _, r'⟩ := RepO.path js r e pv
  exact (r'.nil hu).2
/-- a slot's tree taken for another one of the same value -/
theorem StOk.swap (h : StOk K H F σ L O) {i : Nat} {t : T} (e : slot L i = some t) :
    ∃ v A O', σ[i]? = some (some v) ∧ O.Perm (A ++ O') ∧ RepO K H (Zz O' A F) t v A ∧ A.Nodup ∧ (∀ a ∈ A, ¬ F a ∧ a ∉ O') ∧
      ∀ t' A', (∀ a ∈ A', a ∈ A) → A'.Nodup → RepO K H (Zz O' A' F) t' v A' → StOk K H F σ (L.set i (some t')) (A' ++ O') := by
  have e' := slot_get e
  have hi : i < L.length := (List.getElem?_eq_some_iff.mp e').1
  obtain ⟨v, A, O', h1, p, r, st, nd, df⟩ := h.take e'
  refine ⟨v, A, O', h1, p, r, nd, fun a ha => ⟨df a ha, fun z => st.df a z (.inl ha)⟩, fun t' A' s nd' r' => ?_⟩
  have st' : StOk K H (Fa A' F) σ (L.set i none) O' := st.less fun a z => z.imp (s a) id
  have q := st'.put0 (i := i) (t := t') (v := v) (by simp [hi]) r' nd' fun a ha => df a (s a ha)
  rw [List.set_set, set_self h1] at q
  exact q
/-- a slot is no longer held alone -/
theorem StOk.freeze (h : StOk K H F σ L O) {i : Nat} {t : T} (e : slot L i = some t) (hk : isLkd t = false) :
    ∃ v O2, σ[i]? = some (some v) ∧ (∀ a ∈ O2, a ∈ O) ∧ StOk K H F σ (L.set i (some (frz t))) O2 ∧ RepS K H (Zo O2 F) (frz t) v := by
  obtain ⟨v, A, O', h1, p, r, nd, df, k⟩ := h.swap e
  have rs : RepS K H (Zo O' F) t v := r.read (fun a z => z.elim .inl fun z => .inr (.inr z)) t v A fun a ha z => z.elim (df a ha).2 (df a ha).1
  refine ⟨v, [] ++ O', h1, fun a ha => p.mem_iff.mpr (List.mem_append_right _ ha), k (frz t) [] (fun a z => by cases z) .nil ?_, rs.frz⟩
  exact (rs.held hk).later1 fun a z => z.elim .inl fun z => .inr (z.elim (fun q => by cases q) id)
/-- the items of a held list are no longer held alone -/
theorem StOk.freezeL (h : StOk K H F σ L O) {i : Nat} {xs : List T} (e : slot L i = some (.lst true xs)) :
    ∃ a vs O2, σ[i]? = some (some (.ref a)) ∧ H a = some (.lst vs) ∧ (∀ a ∈ O2, a ∈ O) ∧ a ∈ O2 ∧ StOk K H F σ (L.set i (some (.lst true (frzs xs)))) O2 ∧ RepSs K H (Zo O2 F) (frzs xs) vs ∧ shrs (frzs xs) = true := by
  obtain ⟨v, A, O', h1, p, r, nd, df, k⟩ := h.swap e
  obtain ⟨a, vs, B, ev, eA, ha, rk⟩ := r
  subst ev eA
  rw [List.nodup_cons] at nd
  have rs : RepSs K H (Zz O' [a] F) xs vs := RepOs.read (fun b z => z.elim .inl fun z => .inr (z.elim (fun q => .inl (by rw [List.mem_singleton.mp q]; exact List.mem_cons_self)) .inr)) xs vs B (fun b hb z => by
    rcases z with z | z | z
    · exact (df b (List.mem_cons_of_mem _ hb)).2 z
    · rw [List.mem_singleton.mp z] at hb; exact nd.1 hb
    · exact (df b (List.mem_cons_of_mem _ hb)).1 z) rk
  have sh := RepSs.shrF xs vs rs
  have rf := RepSs.frz xs vs rs
  refine ⟨a, vs, [a] ++ O', h1, ha, fun b hb => p.mem_iff.mpr ?_, List.mem_cons_self, k (.lst true (frzs xs)) [a] (fun b hb => ?_) (by simp) ⟨a, vs, [], rfl, rfl, ha, RepSs.held rf sh⟩, ?_, sh⟩
  · rcases List.mem_append.mp hb with hb | hb
    · exact List.mem_append_left _ (by rw [List.mem_singleton.mp hb]; exact List.mem_cons_self)
    · exact List.mem_append_right _ hb
  · rw [List.mem_singleton.mp hb]; exact List.mem_cons_self
  · exact rf.later1 fun b z => by
      rcases z with z | z
      · rcases List.mem_append.mp z with z | z
        · exact .inr (.inl z)
        · exact .inl z
      · exact .inr (.inr z)

/-- the items of a held tuple are no longer held alone -/
theorem StOk.freezeT (h : StOk K H F σ L O) {i : Nat} {xs : List T} (e : slot L i = some (.tup true xs)) :
    ∃ a vs O2, σ[i]? = some (some (.ref a)) ∧ H a = some (.tup vs) ∧ (∀ a ∈ O2, a ∈ O) ∧ a ∈ O2 ∧ StOk K H F σ (L.set i (some (.tup true (frzs xs)))) O2 ∧ RepSs K H (Zo O2 F) (frzs xs) vs ∧ shrs (frzs xs) = true := by
  obtain ⟨v, A, O', h1, p, r, nd, df, k⟩ := h.swap e
  obtain ⟨a, vs, B, ev, eA, ha, rk⟩ := r
  subst ev eA
  rw [List.nodup_cons] at nd
  have rs : RepSs K H (Zz O' [a] F) xs vs := RepOs.read (fun b z => z.elim .inl fun z => .inr (z.elim (fun q => .inl (by rw [List.mem_singleton.mp q]; exact List.mem_cons_self)) .inr)) xs vs B (fun b hb z => by
    rcases z with z | z | z
    · exact (df b (List.mem_cons_of_mem _ hb)).2 z
    · rw [List.mem_singleton.mp z] at hb; exact nd.1 hb
    · exact (df b (List.mem_cons_of_mem _ hb)).1 z) rk
  have sh := RepSs.shrF xs vs rs
  have rf := RepSs.frz xs vs rs
  refine ⟨a, vs, [a] ++ O', h1, ha, fun b hb => p.mem_iff.mpr ?_, List.mem_cons_self, k (.tup true (frzs xs)) [a] (fun b hb => ?_) (by simp) ⟨a, vs, [], rfl, rfl, ha, RepSs.held rf sh⟩, ?_, sh⟩
  · rcases List.mem_append.mp hb with hb | hb
    · exact List.mem_append_left _ (by rw [List.mem_singleton.mp hb]; exact List.mem_cons_self)
    · exact List.mem_append_right _ hb
  · rw [List.mem_singleton.mp hb]; exact List.mem_cons_self
  · exact rf.later1 fun b z => by
      rcases z with z | z
      · rcases List.mem_append.mp z with z | z
        · exact .inr (.inl z)
        · exact .inl z
      · exact .inr (.inr z)

section
variable {H0 : Hp} {O0 : List Addr}
/-- temporaries stay, the slots' own shrinks -/
theorem Mid.shrink {O2 : List Addr} {L2 : Slots} (m : Mid K H0 O0 H F σ L O A) (st : StOk K H (Fa A F) σ L2 O2) (s : ∀ a ∈ O2, a ∈ O) : Mid K H0 O0 H F σ L2 O2 A :=
  ⟨st, m.nd, m.df, m.gr.mono fun a ha => (List.mem_append.mp ha).elim (fun z => List.mem_append_left _ (s a z)) fun z => List.mem_append_right _ z⟩
theorem kidL_sound {p : Opd} {v : V} {Ap : List Addr} {xs : List T} {L2 : Slots} (m : Mid K H0 O0 H F σ L O A) (r : RepQ K H (Zz O A F) σ p v Ap) (sub : Ap.Sublist A) (e : kidL p L = some (xs, L2)) :
    ∃ a vs O2 B, v = .ref a ∧ H a = some (.lst vs) ∧ (∀ b ∈ O2, b ∈ O) ∧ Mid K H0 O0 H F σ L2 O2 A ∧ B.Sublist Ap ∧ RepOs K H (Zz O2 A F) xs vs B := by
  cases p with
  | v t =>
    cases t with
    | lst o ys =>
      cases e
      cases o with
      | true =>
        obtain ⟨a, vs, B, ev, eA, ha, rk⟩ := r
        exact ⟨a, vs, O, B, ev, ha, fun _ z => z, m, by rw [eA]; exact List.sublist_cons_self a B, rk⟩
      | false =>
        obtain ⟨⟨a, vs, ev, ha, n, rk⟩, eA, sh⟩ := r
        exact ⟨a, vs, O, [], ev, ha, fun _ z => z, m, List.nil_sublist _, RepSs.held rk sh⟩
    | _ => cases e
  | s i ks =>
    obtain ⟨eA, v0, hv, pv⟩ := r
    cases ks with
    | nil =>
      have pv : v = v0 := pv
      have e : (match slot L i with | some (.lst true xs) => some (frzs xs, L.set i (some (.lst true (frzs xs)))) | some (.lst false xs) => some (xs, L) | _ => none) = some (xs, L2) := e
      cases q : slot L i with
      | none => rw [q] at e; cases e
      | some t =>
        rw [q] at e
        cases t with
        | lst o ys =>
          cases o with
          | true =>
            cases e
            obtain ⟨a, vs, O2, h1, h2, h3, _, h4, h5, h6⟩ := m.st.freezeL q
            rw [hv] at h1; cases h1
            exact ⟨a, vs, O2, [], pv, h2, h3, m.shrink h4 h3, List.nil_sublist _, (RepSs.held h5 h6).later1 fun b z => z.elim .inl .inr⟩
          | false =>
            cases e
            obtain ⟨w, A', O', h1, p, r, nd, df, k⟩ := m.st.swap q
            rw [hv] at h1; cases h1
            obtain ⟨⟨a, vs, ev, ha, n, rk⟩, eA', sh⟩ := r
            subst eA'
            have po : ∀ b, b ∈ O ↔ b ∈ O' := fun b => by rw [p.mem_iff]; simp
            refine ⟨a, vs, O, [], by rw [pv, ev], ha, fun _ z => z, m, List.nil_sublist _, (RepSs.held rk sh).later1 fun b z => ?_⟩
            rcases z with z | z | z
            · exact .inl ((po b).mp z)
            · exact .inr (.inr (.inl z))
            · exact .inr (.inr (.inr z))
        | _ => cases e
    | cons k ks =>
      have e : (match rd L (.s i (k :: ks)) with | some (.lst false xs) => some (xs, L) | _ => none) = some (xs, L2) := e
      have e0 : rd L (.s i (k :: ks)) = (slot L i).bind fun t => pathT t (k :: ks) := rfl
      cases q : slot L i with
      | none => rw [e0, q] at e; cases e
      | some t =>
        rw [e0, q] at e
        have e : (match pathT t (k :: ks) with | some (.lst false xs) => some (xs, L) | _ => none) = some (xs, L2) := e
        obtain ⟨w, A', O', h1, p, r, nd, df, kk⟩ := m.st.swap q
        rw [hv] at h1; cases h1
        cases qp : pathT t (k :: ks) with
        | none => rw [qp] at e; cases e
        | some u =>
          rw [qp] at e
          cases u with
          | lst o ys =>
            cases o with
            | true => cases e
            | false =>
              cases e
              obtain ⟨rs, sh⟩ := RepO.pathShared (k :: ks) r qp rfl pv
              obtain ⟨a, vs, ev, ha, n, rk⟩ := rs
              have shx : shrs xs = true := by simpa [shr] using sh
              refine ⟨a, vs, O, [], ev, ha, fun _ z => z, m, List.nil_sublist _, (RepSs.held rk shx).later1 fun b z => ?_⟩
              rcases z with z | z | z
              · rcases List.mem_append.mp (p.mem_iff.mp z) with z | z
                · exact .inr (.inl z)
                · exact .inl z
              · exact .inr (.inr (.inl z))
              · exact .inr (.inr (.inr z))
          | _ => cases e
theorem kidT_sound {p : Opd} {v : V} {Ap : List Addr} {xs : List T} {L2 : Slots} (m : Mid K H0 O0 H F σ L O A) (r : RepQ K H (Zz O A F) σ p v Ap) (sub : Ap.Sublist A) (e : kidT p L = some (xs, L2)) :
    ∃ a vs O2 B, v = .ref a ∧ H a = some (.tup vs) ∧ (∀ b ∈ O2, b ∈ O) ∧ Mid K H0 O0 H F σ L2 O2 A ∧ B.Sublist Ap ∧ RepOs K H (Zz O2 A F) xs vs B := by
  cases p with
  | v t =>
    cases t with
    | tup o ys =>
      cases e
      cases o with
      | true =>
        obtain ⟨a, vs, B, ev, eA, ha, rk⟩ := r
        exact ⟨a, vs, O, B, ev, ha, fun _ z => z, m, by rw [eA]; exact List.sublist_cons_self a B, rk⟩
      | false =>
        obtain ⟨⟨a, vs, ev, ha, n, rk⟩, eA, sh⟩ := r
        exact ⟨a, vs, O, [], ev, ha, fun _ z => z, m, List.nil_sublist _, RepSs.held rk sh⟩
    | _ => cases e
  | s i ks =>
    obtain ⟨eA, v0, hv, pv⟩ := r
    cases ks with
    | nil =>
      have pv : v = v0 := pv
      have e : (match slot L i with | some (.tup true xs) => some (frzs xs, L.set i (some (.tup true (frzs xs)))) | some (.tup false xs) => some (xs, L) | _ => none) = some (xs, L2) := e
      cases q : slot L i with
      | none => rw [q] at e; cases e
      | some t =>
        rw [q] at e
        cases t with
        | tup o ys =>
          cases o with
          | true =>
            cases e
            obtain ⟨a, vs, O2, h1, h2, h3, _, h4, h5, h6⟩ := m.st.freezeT q
            rw [hv] at h1; cases h1
            exact ⟨a, vs, O2, [], pv, h2, h3, m.shrink h4 h3, List.nil_sublist _, (RepSs.held h5 h6).later1 fun b z => z.elim .inl .inr⟩
          | false =>
            cases e
            obtain ⟨w, A', O', h1, p, r, nd, df, k⟩ := m.st.swap q
            rw [hv] at h1; cases h1
            obtain ⟨⟨a, vs, ev, ha, n, rk⟩, eA', sh⟩ := r
            subst eA'
            have po : ∀ b, b ∈ O ↔ b ∈ O' := fun b => by rw [p.mem_iff]; simp
            refine ⟨a, vs, O, [], by rw [pv, ev], ha, fun _ z => z, m, List.nil_sublist _, (RepSs.held rk sh).later1 fun b z => ?_⟩
            rcases z with z | z | z
            · exact .inl ((po b).mp z)
            · exact .inr (.inr (.inl z))
            · exact .inr (.inr (.inr z))
        | _ => cases e
    | cons k ks =>
      have e : (match rd L (.s i (k :: ks)) with | some (.tup false xs) => some (xs, L) | _ => none) = some (xs, L2) := e
      have e0 : rd L (.s i (k :: ks)) = (slot L i).bind fun t => pathT t (k :: ks) := rfl
      cases q : slot L i with
      | none => rw [e0, q] at e; cases e
      | some t =>
        rw [e0, q] at e
        have e : (match pathT t (k :: ks) with | some (.tup false xs) => some (xs, L) | _ => none) = some (xs, L2) := e
        obtain ⟨w, A', O', h1, p, r, nd, df, kk⟩ := m.st.swap q
        rw [hv] at h1; cases h1
        cases qp : pathT t (k :: ks) with
        | none => rw [qp] at e; cases e
        | some u =>
          rw [qp] at e
          cases u with
          | tup o ys =>
            cases o with
            | true => cases e
            | false =>
              cases e
              obtain ⟨rs, sh⟩ := RepO.pathShared (k :: ks) r qp rfl pv
              obtain ⟨a, vs, ev, ha, n, rk⟩ := rs
              have shx : shrs xs = true := by simpa [shr] using sh
              refine ⟨a, vs, O, [], ev, ha, fun _ z => z, m, List.nil_sublist _, (RepSs.held rk shx).later1 fun b z => ?_⟩
              rcases z with z | z | z
              · rcases List.mem_append.mp (p.mem_iff.mp z) with z | z
                · exact .inr (.inl z)
                · exact .inl z
              · exact .inr (.inr (.inl z))
              · exact .inr (.inr (.inr z))
          | _ => cases e
end
end
end TV

set_option Elab.async false
set_option linter.all false
set_option maxRecDepth 100000
set_option maxHeartbeats 4000000
/-! TV10: what an operation asks is there. -/
namespace TV
open PySem PySem.Spec PyProof.Rows L2

section
variable {K : PySem.W.Frag} {H : Hp} {Z Z' F : Fb} {σ : Sg} {L : Slots} {O A B : List Addr} {H0 : Hp} {O0 : List Addr} {X : Cx}
theorem alloc_lst {p : Addr} {xs : List T} {vs : List V} (m : Mid K H0 O0 H F σ L O A) (r : RepOs K H (Zz O A F) xs vs B) (s : ∀ b ∈ B, b ∈ A) (nd : B.Nodup) (hp : H p = none) :
    Mid K H0 O0 (upd H p (.lst vs)) F σ L O (p :: B) ∧ RepO K (upd H p (.lst vs)) (Zz O (p :: B) F) (.lst true xs) (.ref p) (p :: B) := by
  refine ⟨m.alloc hp s nd, p, vs, B, rfl, rfl, upd_same, ?_⟩
  refine RepOs.later (later_alloc (o := .lst vs) hp fun a z => ?_) xs vs B (fun b hb o e => ?_) r
  · rcases z with z | z | z
    · exact .inl (.inl z)
    · rcases List.mem_cons.mp z with z | z
      · exact .inr z
      · exact .inl (.inr (.inl (s a z)))
    · exact .inl (.inr (.inr z))
  · rw [upd_ne (ne_of_none e hp)]; exact e
theorem alloc_tup {p : Addr} {xs : List T} {vs : List V} (m : Mid K H0 O0 H F σ L O A) (r : RepOs K H (Zz O A F) xs vs B) (s : ∀ b ∈ B, b ∈ A) (nd : B.Nodup) (hp : H p = none) :
    Mid K H0 O0 (upd H p (.tup vs)) F σ L O (p :: B) ∧ RepO K (upd H p (.tup vs)) (Zz O (p :: B) F) (.tup true xs) (.ref p) (p :: B) := by
  refine ⟨m.alloc hp s nd, p, vs, B, rfl, rfl, upd_same, ?_⟩
  refine RepOs.later (later_alloc (o := .tup vs) hp fun a z => ?_) xs vs B (fun b hb o e => ?_) r
  · rcases z with z | z | z
    · exact .inl (.inl z)
    · rcases List.mem_cons.mp z with z | z
      · exact .inr z
      · exact .inl (.inr (.inl (s a z)))
    · exact .inl (.inr (.inr z))
  · rw [upd_ne (ne_of_none e hp)]; exact e
theorem alloc_dic {p : Addr} {ks : List Key} {xs : List T} {vs : List V} (hl : ks.length = vs.length) (m : Mid K H0 O0 H F σ L O A) (r : RepOs K H (Zz O A F) xs vs B) (s : ∀ b ∈ B, b ∈ A) (nd : B.Nodup) (hp : H p = none) :
    Mid K H0 O0 (upd H p (.dK (ks.zip vs))) F σ L O (p :: B) ∧ RepO K (upd H p (.dK (ks.zip vs))) (Zz O (p :: B) F) (.dic true ks xs) (.ref p) (p :: B) := by
  refine ⟨m.alloc hp s nd, p, vs, B, rfl, rfl, upd_same, hl, ?_⟩
  refine RepOs.later (later_alloc (o := .dK (ks.zip vs)) hp fun a z => ?_) xs vs B (fun b hb o e => ?_) r
  · rcases z with z | z | z
    · exact .inl (.inl z)
    · rcases List.mem_cons.mp z with z | z
      · exact .inr z
      · exact .inl (.inr (.inl (s a z)))
    · exact .inl (.inr (.inr z))
  · rw [upd_ne (ne_of_none e hp)]; exact e
theorem RepQs.nodup : ∀ {ps : List Opd} {vs : List V} {C : List Addr}, RepQs K H Z σ ps vs C → True := fun _ => trivial

/-! ### readings -/
def rIdxD : R2 := fun x y H Q => ∃ a v, x = .ref a ∧ DGet H a y (some v) ∧ Q v H
theorem ix_dict (hu : X.A.units + 1 < cLine) : IxR X rIdxD := by
  intro value slice pins s σ H x y v u Q I rx ry h hs
  obtain ⟨a, w, rfl, g, q⟩ := h
  obtain rfl : v = Value.ref a := rx
  exact tail_any (dict_typeIs I g) PySem.F.slot_dict_getitem.lookup (d_getItem hu I g ry fun w' s3 I3 rw' => ⟨w, H, I3, rw', q⟩) hs
def rIdx (K : PySem.W.Frag) : R2 := fun x y H Q => rIxL K x y H Q ∨ rIxT K x y H Q ∨ rIxS x y H Q ∨ rIdxD x y H Q
theorem ixAll (hu : X.A.units + 1 < cLine) : IxR X (rIdx X.K) := ix_list.or (ix_tup.or (ix_str.or (ix_dict hu)))
def rSlc (K : PySem.W.Frag) : V → Option Int → Option Int → Hp → VK → Prop := fun x lo hi H Q => rSlL K x lo hi H Q ∨ rSlS x lo hi H Q
theorem slAll : SlR X (rSlc X.K) := sl_list.or sl_str
def rGet : V → V → V → Hp → VK → Prop := fun x y d H Q => ∃ a o, x = .ref a ∧ DGet H a y o ∧ Q (o.getD d) H
/-- what a built-in function asks -/
def rFn (K : PySem.W.Frag) (o : Op) : List V → Hp → VK → Prop :=
  match o with
  | .len => fun xs H Q => (∃ x n, xs = [x] ∧ LenV K x H n ∧ Q (.int n) H) ∨ (∃ a kvs, xs = [V.ref a] ∧ H a = some (.dK kvs) ∧ Q (.int kvs.length) H)
  | .abs => fun xs H Q => ∃ i, xs = [.int i] ∧ Q (.int (if i < 0 then -i else i)) H
  | .int => fun xs H Q => (∃ i, xs = [.int i] ∧ Q (.int i) H) ∨ ∃ k, xs = [.bl k] ∧ Q (.int (if k then 1 else 0)) H
  | .str => fun xs H Q => ∃ i, xs = [.int i] ∧ i.natAbs.log2 < 1920 ∧ Q (.str (toString i)) H
  | .max => fun xs H Q => ∃ i j, xs = [.int i, .int j] ∧ Q (.int (if j > i then j else i)) H
  | .min => fun xs H Q => ∃ i j, xs = [.int i, .int j] ∧ Q (.int (if j < i then j else i)) H
  | .sum => rSum K
  | .all => rAll K
  | .any => rAny K
  | .list => fun xs H Q => ∃ p ys, xs = [.ref p] ∧ (SqL K H p ys ∨ SqT K H p ys) ∧ ∀ l, H l = none → Q (.ref l) (upd H l (.lst ys))
  | .tuple => fun xs H Q => ∃ p ys, xs = [.ref p] ∧ ((SqL K H p ys ∧ ∀ l, H l = none → Q (.ref l) (upd H l (.tup ys))) ∨ (SqT K H p ys ∧ Q (.ref p) H))
  | .sorted => fun xs H Q => rSortedI K xs H Q ∨ rSortedS K xs H Q ∨ rSortedD K xs H Q
  | _ => fun _ _ _ => False
def fnV : Op → Option (Str × Value)
  | .len => some ("len", .builtin "len")
  | .abs => some ("abs", .builtin "abs")
  | .int => some ("int", .type "int")
  | .str => some ("str", .type "str")
  | .max => some ("max", .builtin "max")
  | .min => some ("min", .builtin "min")
  | .sum => some ("sum", .builtin "sum")
  | .all => some ("all", .builtin "all")
  | .any => some ("any", .builtin "any")
  | .list => some ("list", .type "list")
  | .tuple => some ("tuple", .type "tuple")
  | .sorted => some ("sorted", .builtin "sorted")
  | _ => none
theorem fnCall (hc : X.calm = true) (hu : X.A.units + 64 < cLine) {o : Op} {n : Str} {f : Value} (h : fnV o = some (n, f)) : CallR X f (rFn X.K o) := by
  cases o <;> cases h
  · exact call_len.or call_lenD
  · exact call_abs
  · exact call_int1
  · exact call_str_int
  · exact call_max2 hc
  · exact call_min2 hc
  · exact cr_sum hc
  · exact cr_all hc
  · exact cr_any hc
  · exact call_list_of
  · exact call_tuple_of
  · exact cr_sortedI.or (cr_sortedS.or (cr_sortedD hu))
theorem fnBoot {o : Op} {n : Str} {f : Value} (h : fnV o = some (n, f)) : bootBuiltins n = some f ∧ n ≠ "__name__" ∧ (n == ("__debug__" : Str)) = false ∧ ((∃ i, f = .builtin i) ∨ ∃ i, f = .type i) := by
  cases o <;> cases h <;> exact ⟨by decide +kernel, by decide +kernel, by decide +kernel, by first | exact .inl ⟨_, rfl⟩ | exact .inr ⟨_, rfl⟩⟩
def rIsi1 (K : PySem.W.Frag) (n : String) : V → Hp → VK → Prop := fun x H Q => ∃ (t : Value) (b : Bool), TyX K H x t ∧ PySem.W.kitOne K t (.type n) = some b ∧ Q (.bl b) H
def rSrtSet (K : PySem.W.Frag) : List V → Hp → VK → Prop := fun vs H Q => ∃ (l : Addr) (xs : List Str), vs = [V.ref l] ∧ SqL K H l (xs.map V.str) ∧ xs.length < 64 ∧
  ∀ (ys : List Str) (a p : Addr) (o : HO), sortedS ys = true → ys.Nodup → (∀ k, k ∈ ys ↔ k ∈ xs) → H a = none → (upd H a o) p = none → Q (.ref p) (upd (upd H a o) p (.lst (ys.map V.str)))
def rLrg : List V → Hp → VK → Prop := fun vs H Q => ∃ a b : Int, ((vs = [.int b] ∧ a = 0) ∨ vs = [.int a, .int b]) ∧ RgOk a b ∧ ∀ q, H q = none → Q (.ref q) (upd H q (.lst (rgV a b)))
/-- what an operation asks, by its operands' values -/
def rOp (K : PySem.W.Frag) (o : Op) (vs : List V) (H : Hp) (Q : VK) : Prop :=
  match o with
  | .bin o => ∃ x y, vs = [x, y] ∧ rBin K o x y H Q
  | .cmp o => ∃ x y, vs = [x, y] ∧ rCmp K o x y H Q
  | .neg => ∃ x, vs = [x] ∧ rU (fun i => .int (-i)) x H Q
  | .inv => ∃ x, vs = [x] ∧ rU (fun i => .int (Builtin.bitNot i)) x H Q
  | .idx => ∃ x y, vs = [x, y] ∧ rIdx K x y H Q
  | .isi n => ∃ x, vs = [x] ∧ rIsi1 K n x H Q
  | .get => ∃ x y d, vs = [x, y, d] ∧ rGet x y d H Q
  | .slc false true => ∃ x j, vs = [x, .int j] ∧ rSlc K x none (some j) H Q
  | .slc true false => ∃ x j, vs = [x, .int j] ∧ rSlc K x (some j) none H Q
  | .slc true true => ∃ x i j, vs = [x, .int i, .int j] ∧ rSlc K x (some i) (some j) H Q
  | .sortset => rSrtSet K vs H Q
  | .lrng => rLrg vs H Q
  | o => rFn K o vs H Q

/-! ### numbers, truths, texts -/
theorem ints_rep : ∀ {xs : List T} {vs : List V} {ns : List Int}, RepSs K H Z xs vs → intsOf xs = some ns → vs = ns.map V.int
  | [], vs, ns, h, e => by
    rw [show vs = [] from h]
    cases e
    rfl
  | t :: ts, _, ns, ⟨v, vr, ev, hk, h1, h2⟩, e => by
    cases t with
    | int i =>
      have e : (intsOf ts).map (i :: ·) = some ns := e
      obtain ⟨ms, e1, e2⟩ := Option.map_eq_some_iff.mp e
      rw [ev, ← e2, ints_rep h2 e1, show v = V.int i from h1]; rfl
    | _ => cases e
theorem bls_rep : ∀ {xs : List T} {vs : List V} {ns : List Bool}, RepSs K H Z xs vs → blsOf xs = some ns → vs = ns.map V.bl
  | [], vs, ns, h, e => by
    rw [show vs = [] from h]
    cases e
    rfl
  | t :: ts, _, ns, ⟨v, vr, ev, hk, h1, h2⟩, e => by
    cases t with
    | bl i =>
      have e : (blsOf ts).map (i :: ·) = some ns := e
      obtain ⟨ms, e1, e2⟩ := Option.map_eq_some_iff.mp e
      rw [ev, ← e2, bls_rep h2 e1, show v = V.bl i from h1]; rfl
    | _ => cases e
theorem kit_tab : (["NoneType","bool","int","str","list","tuple","dict"].all fun m => ["str","list","tuple","bool","dict"].all fun n => kitB m n == some (decide (m = n))) = true := by decide +kernel
theorem kit_int : (["NoneType","bool","int","str","list","tuple","dict"].all fun m => kitB m "int" == some (decide (m = "int" ∨ m = "bool"))) = true := by decide +kernel
theorem tyOf_rep {t : T} {x : V} {m : String} (h : RepS K H Z t x) (e : tyOf t = some m) : TyX K H x (.type m) ∧ m ∈ ["NoneType","bool","int","str","list","tuple","dict"] := by
  cases t with
  | non => cases e; rw [show x = V.non from h]; exact ⟨.base .non, by simp⟩
  | bl b => cases e; rw [show x = V.bl b from h]; exact ⟨.base (.bl b), by simp⟩
  | int b => cases e; rw [show x = V.int b from h]; exact ⟨.base (.int b), by simp⟩
  | str b => cases e; rw [h.1]; exact ⟨.base (.str b), by simp⟩
  | lst o xs => cases e; obtain ⟨p, vs, e, h1, _⟩ := h; rw [e]; exact ⟨.base (.lst h1), by simp⟩
  | tup o xs => cases e; obtain ⟨p, vs, e, h1, _⟩ := h; rw [e]; exact ⟨.base (.tup h1), by simp⟩
  | dic o ks xs => cases e; obtain ⟨p, vs, e, h1, _⟩ := h; rw [e]; exact ⟨.base (.dK h1), by simp⟩
  | dit o ks xs => cases e; obtain ⟨p, vs, e, h1, _⟩ := h; rw [e]; exact ⟨.base (.dT h1), by simp⟩
  | lkd ks xs => cases e
  | scr ns => cases e
theorem isi_sound {n : String} {a r : T} {x : V} (h : isiS n a = some r) (ha : RepS K H Z a x) : scOk r ∧ ∀ Q : VK, Q (scV r) H → rIsi1 K n x H Q := by
  unfold isiS at h
  split at h
  · rename_i hn
    obtain ⟨m, e1, e2⟩ := Option.map_eq_some_iff.mp h
    subst e2
    obtain ⟨ty, hm⟩ := tyOf_rep ha e1
    have k := List.all_eq_true.mp (List.all_eq_true.mp kit_tab m hm) n (by
      rcases hn with e | e | e | e | e <;> rw [e] <;> simp)
    have k : kitB m n = some (decide (m = n)) := by simpa using k
    exact ⟨trivial, fun Q q => ⟨_, _, ty, kit_ty k, q⟩⟩
  · split at h
    · rename_i hn
      obtain ⟨m, e1, e2⟩ := Option.map_eq_some_iff.mp h
      subst e2
      obtain ⟨ty, hm⟩ := tyOf_rep ha e1
      have k := List.all_eq_true.mp kit_int m hm
      have k : kitB m "int" = some (decide (m = "int" ∨ m = "bool")) := by simpa using k
      exact ⟨trivial, fun Q q => ⟨_, _, ty, by rw [hn]; exact kit_ty k, q⟩⟩
    · cases h
theorem lenS_sound {a r : T} {x : V} (h : lenS a = some r) (ha : RepS K H Z a x) : scOk r ∧ ∀ Q : VK, Q (scV r) H → rFn K .len [x] H Q := by
  cases a with
  | str s =>
    simp only [lenS] at h
    split at h
    · rename_i hl; cases h
      exact ⟨trivial, fun Q q => .inl ⟨x, s.length, rfl, by rw [ha.1]; exact ⟨hl, rfl⟩, q⟩⟩
    · cases h
  | lst o xs =>
    cases h
    obtain ⟨p, vs, e, h1, n, h2⟩ := ha
    exact ⟨trivial, fun Q q => .inl ⟨x, xs.length, rfl, by rw [e]; exact .inl ⟨vs, SqL.of h1, h2.length⟩, q⟩⟩
  | tup o xs =>
    cases h
    obtain ⟨p, vs, e, h1, n, h2⟩ := ha
    exact ⟨trivial, fun Q q => .inl ⟨x, xs.length, rfl, by rw [e]; exact .inr ⟨vs, SqT.of h1, h2.length⟩, q⟩⟩
  | scr ns =>
    cases h
    obtain ⟨p, e, hq⟩ := ScrL.sq ha
    exact ⟨trivial, fun Q q => .inl ⟨x, ns.length, rfl, by rw [e]; exact .inl ⟨_, hq, by simp⟩, q⟩⟩
  | dic o ks xs =>
    cases h
    obtain ⟨p, vs, e, h1, n, hl, h2⟩ := ha
    refine ⟨trivial, fun Q q => .inr ⟨p, _, by rw [e], h1, ?_⟩⟩
    rw [List.length_zip, ← hl, Nat.min_self]
    exact q
  | _ => cases h
theorem okS_str_int (i : Int) : okS (Str.ofString (toString i)) := by
  rw [okS_iff]
  intro c hc
  rw [Str.ofString_eq_toList] at hc
  obtain ⟨d, hd, e⟩ := List.mem_map.mp (by simpa using hc)
  rw [← e]
  have := d.valid
  simp only [UInt32.isValidChar, Nat.isValidChar] at this
  have e2 : d.toNat = d.val.toNat := rfl
  omega
theorem sop_sound {o : Op} {ts : List T} {r : T} {vs : List V} (h : sop o ts = some r) (hr : Paired (fun t v => RepS K H Z t v) ts vs) : scOk r ∧ ∀ Q : VK, Q (scV r) H → rOp K o vs H Q := by
  cases hr with
  | nil => cases o <;> cases h
  | @cons t1 x ts' vs' r1 hr =>
    cases hr with
    | nil =>
      cases o with
      | neg => cases t1 with
        | int i => cases h; exact ⟨trivial, fun Q q => ⟨x, rfl, i, r1, q⟩⟩
        | _ => cases h
      | inv => cases t1 with
        | int i => cases h; exact ⟨trivial, fun Q q => ⟨x, rfl, i, r1, q⟩⟩
        | _ => cases h
      | len => exact lenS_sound h r1
      | abs => cases t1 with
        | int i => cases h; exact ⟨trivial, fun Q q => ⟨i, by rw [show x = V.int i from r1], q⟩⟩
        | _ => cases h
      | int => cases t1 with
        | int i => cases h; exact ⟨trivial, fun Q q => .inl ⟨i, by rw [show x = V.int i from r1], q⟩⟩
        | bl b => cases h; exact ⟨trivial, fun Q q => .inr ⟨b, by rw [show x = V.bl b from r1], q⟩⟩
        | _ => cases h
      | str => cases t1 with
        | int i =>
          simp only [sop] at h
          split at h
          · rename_i hl; cases h
            exact ⟨okS_str_int i, fun Q q => ⟨i, by rw [show x = V.int i from r1], hl, q⟩⟩
          · cases h
        | _ => cases h
      | isi n =>
        obtain ⟨s, k⟩ := isi_sound (show isiS n t1 = some r from h) r1
        exact ⟨s, fun Q q => ⟨x, rfl, k Q q⟩⟩
      | sum => cases t1 with
        | lst o xs =>
          obtain ⟨ns, e1, e2⟩ := Option.map_eq_some_iff.mp (show (intsOf xs).map (fun ns => T.int ns.sum) = some r from h)
          subst e2
          obtain ⟨p, ws, e, h1, n, h2⟩ := r1
          exact ⟨trivial, fun Q q => ⟨p, ns, by rw [e], by rw [← ints_rep h2 e1]; exact SqL.of h1, q⟩⟩
        | _ => cases h
      | all => cases t1 with
        | lst o xs =>
          obtain ⟨ns, e1, e2⟩ := Option.map_eq_some_iff.mp (show (blsOf xs).map (fun ns => T.bl (ns.all id)) = some r from h)
          subst e2
          obtain ⟨p, ws, e, h1, n, h2⟩ := r1
          exact ⟨trivial, fun Q q => ⟨p, ns, by rw [e], by rw [← bls_rep h2 e1]; exact SqL.of h1, q⟩⟩
        | _ => cases h
      | any => cases t1 with
        | lst o xs =>
          obtain ⟨ns, e1, e2⟩ := Option.map_eq_some_iff.mp (show (blsOf xs).map (fun ns => T.bl (ns.any id)) = some r from h)
          subst e2
          obtain ⟨p, ws, e, h1, n, h2⟩ := r1
          exact ⟨trivial, fun Q q => ⟨p, ns, by rw [e], by rw [← bls_rep h2 e1]; exact SqL.of h1, q⟩⟩
        | _ => cases h
      | bin o => cases h
      | cmp o => cases h
      | _ => cases t1 <;> cases h
    | @cons t2 y ts'' vs'' r2 hr =>
      cases hr with
      | nil =>
        cases o with
        | bin o =>
          obtain ⟨s, k⟩ := binS_sound (show binS o t1 t2 = some r from h) r1 r2
          exact ⟨s, fun Q q => ⟨x, y, rfl, k Q q⟩⟩
        | cmp o =>
          obtain ⟨s, k⟩ := cmpS_sound (show cmpS o t1 t2 = some r from h) r1 r2
          exact ⟨s, fun Q q => ⟨x, y, rfl, k Q q⟩⟩
        | max => cases t1 with
          | int i => cases t2 with
            | int j => cases h; exact ⟨trivial, fun Q q => ⟨i, j, by rw [show x = V.int i from r1, show y = V.int j from r2], q⟩⟩
            | _ => cases h
          | _ => cases h
        | min => cases t1 with
          | int i => cases t2 with
            | int j => cases h; exact ⟨trivial, fun Q q => ⟨i, j, by rw [show x = V.int i from r1, show y = V.int j from r2], q⟩⟩
            | _ => cases h
          | _ => cases h
        | _ => cases t1 <;> cases h
      | cons r3 hr => cases o <;> first | (cases h; done) | (cases t1 <;> first | (cases h; done) | (cases t2 <;> cases h))
end
end TV

set_option Elab.async false
set_option linter.all false
set_option maxRecDepth 100000
set_option maxHeartbeats 4000000
/-! TV11: every operation gives what the evaluator says. -/
namespace TV
open PySem PySem.Spec PyProof.Rows L2

section
variable {K : PySem.W.Frag} {H : Hp} {Z Z' F : Fb} {σ : Sg} {L : Slots} {O A B : List Addr} {H0 : Hp} {O0 : List Addr}
theorem shr_own {t : T} (h : shr t = true) : isOwn t = false := by cases t <;> simp_all [shr, isOwn]
theorem nil_sub {α : Type} {A : List α} : ∀ a ∈ ([] : List α), a ∈ A := fun _ z => by cases z
theorem StOk.at (h : StOk K H F σ L O) {i : Nat} {t : T} (e : slot L i = some t) : ∃ v C, σ[i]? = some (some v) ∧ (∀ b ∈ C, b ∈ O) ∧ RepO K H (Zo O F) t v C := by
  obtain ⟨v, C, O', h1, p, r, _⟩ := h.swap e
  refine ⟨v, C, h1, fun b hb => p.mem_iff.mpr (List.mem_append_left _ hb), r.later1 fun b z => ?_⟩
  rcases z with z | z
  · rcases List.mem_append.mp (p.mem_iff.mp z) with z | z
    · exact .inr (.inl z)
    · exact .inl z
  · exact .inr (.inr z)
/-- the n-th item is no longer held alone -/
theorem RepOs.fk : ∀ {xs : List T} {vs : List V} {B : List Addr} {n : Nat} {y : T}, RepOs K H Z xs vs B → xs[n]? = some y →
    ∃ v B1 B2 B3, vs[n]? = some v ∧ B = B1 ++ (B2 ++ B3) ∧ isLkd y = false ∧ ∀ Z' : Fb, (∀ a, Z' a → Z a) → (∀ b ∈ B2, ¬ Z' b) → RepOs K H Z' (xs.set n (frz y)) vs (B1 ++ B3) ∧ RepS K H Z' y v
  | [], _, _, _, _, _, e => by simp at e
  | t :: ts, _, _, 0, y, ⟨v, vr, A1, A2, ev, eA, hk, h1, h2⟩, e => by
    simp at e; subst e
    refine ⟨v, [], A1, A2, by rw [ev]; rfl, by rw [eA]; rfl, hk, fun Z' w dis => ?_⟩
    have ry := h1.read w t v A1 dis
    refine ⟨?_, ry⟩
    rw [ev]
    exact ⟨v, vr, [], A2, rfl, rfl, by rw [isLkd_frz]; exact hk, ry.held hk, h2.later1 w⟩
  | t :: ts, _, _, n + 1, y, ⟨v, vr, A1, A2, ev, eA, hk, h1, h2⟩, e => by
    obtain ⟨u, B1, B2, B3, h3, h4, h5, h6⟩ := RepOs.fk (n := n) h2 (by simpa using e)
    refine ⟨u, A1 ++ B1, B2, B3, by rw [ev]; simpa using h3, by rw [eA, h4, List.append_assoc], h5, fun Z' w dis => ?_⟩
    obtain ⟨r1, r2⟩ := h6 Z' w dis
    rw [ev]
    exact ⟨⟨v, vr, A1, B1 ++ B3, rfl, by rw [List.append_assoc], hk, h1.later1 w, r1⟩, r2⟩
theorem RepOs.freezeKid {xs : List T} {vs : List V} {B : List Addr} {n : Nat} {y : T} (rk : RepOs K H Z xs vs B) (e : xs[n]? = some y) (nd : B.Nodup) :
    ∃ v B', vs[n]? = some v ∧ (∀ b ∈ B', b ∈ B) ∧ B'.Nodup ∧ ∀ Z' : Fb, (∀ a, Z' a → Z a) → (∀ b ∈ B, Z' b → b ∈ B') → RepOs K H Z' (xs.set n (frz y)) vs B' ∧ RepS K H Z' y v ∧ isLkd y = false := by
  obtain ⟨v, B1, B2, B3, g1, g2, g3, g4⟩ := rk.fk e
  subst g2
  have nd2 := nd
  rw [List.nodup_append] at nd2
  have nd3 := nd2.2.1
  rw [List.nodup_append] at nd3
  refine ⟨v, B1 ++ B3, g1, fun b hb => ?_, ?_, fun Z' w dis => ?_⟩
  · rcases List.mem_append.mp hb with z | z
    · exact List.mem_append_left _ z
    · exact List.mem_append_right _ (List.mem_append_right _ z)
  · rw [List.nodup_append]
    exact ⟨nd2.1, nd3.2.1, fun a ha b hb => nd2.2.2 a ha b (List.mem_append_right _ hb)⟩
  · obtain ⟨r1, r2⟩ := g4 Z' w fun b hb z => by
      have hbC := dis b (List.mem_append_right _ (List.mem_append_left _ hb)) z
      rcases List.mem_append.mp hbC with q | q
      · exact nd2.2.2 b q b (List.mem_append_left _ hb) rfl
      · exact nd3.2.2 b hb b q rfl
    exact ⟨r1, r2, g3⟩
/-- an operand's tree, as it is held -/
theorem opd_rep {p : Opd} {x : V} {Ap : List Addr} {c : T} (m : Mid K H0 O0 H F σ L O A) (r : RepQ K H (Zz O A F) σ p x Ap) (e : rd L p = some c) :
    ∃ C, RepO K H (Zz O A F) c x C ∧ ((∃ t, p = .v t ∧ C = Ap) ∨ ∃ i ks, p = .s i ks ∧ ∀ b ∈ C, b ∈ O) := by
  cases p with
  | v t =>
    have e : t = c := Option.some.inj e
    subst e
    exact ⟨Ap, r, .inl ⟨_, rfl, rfl⟩⟩
  | s i ks =>
    obtain ⟨_, v0, hv, pv⟩ := r
    have e : (slot L i).bind (fun t => pathT t ks) = some c := e
    cases q : slot L i with
    | none => rw [q] at e; cases e
    | some t =>
      rw [q] at e
      obtain ⟨w, C, h1, s, r⟩ := m.st.at q
      rw [hv] at h1; cases h1
      obtain ⟨C', s', r'⟩ := RepO.path ks r e pv
      exact ⟨C', r', .inr ⟨i, ks, rfl, fun b hb => s b (s' b hb)⟩⟩
theorem kid_lst {o : Bool} {xs : List T} {x : V} {C : List Addr} {n : Nat} {y : T} (r : RepO K H Z (.lst o xs) x C) (nd : C.Nodup) (e : xs[n]? = some y) :
    ∃ a vs v C', x = .ref a ∧ H a = some (.lst vs) ∧ vs.length = xs.length ∧ vs[n]? = some v ∧ (∀ b ∈ C', b ∈ C) ∧ C'.Nodup ∧ isLkd y = false ∧ RepO K H Z y v C' := by
  cases o with
  | true =>
    obtain ⟨a, vs, B, ev, eA, ha, rk⟩ := r
    obtain ⟨v, B1, B2, B3, g1, g2, g3, g4, _⟩ := rk.nth e
    rw [eA, g2] at nd
    rw [List.nodup_cons, List.nodup_append] at nd
    refine ⟨a, vs, v, B2, ev, ha, rk.length.symm, g1, fun b hb => ?_, (List.nodup_append.mp nd.2.2.1).1, g3, g4⟩
    rw [eA, g2]
    exact List.mem_cons_of_mem _ (List.mem_append_right _ (List.mem_append_left _ hb))
  | false =>
    obtain ⟨⟨a, vs, ev, ha, n1, rk⟩, eA, sh⟩ := r
    obtain ⟨v, g1, g2⟩ := rk.get e
    have shy : shr y = true := by
      rw [shrs_all, List.all_eq_true] at sh
      exact sh y (List.mem_of_getElem? e)
    exact ⟨a, vs, v, [], ev, ha, rk.length.symm, g1, nil_sub, .nil, rk.nolkd e, g2.held0 shy⟩
theorem kidS_lst {o : Bool} {xs : List T} {x : V} {C : List Addr} {n : Nat} {y : T} (r : RepO K H Z (.lst o xs) x C) (e : xs[n]? = some y) (ho : isOwn y = false) :
    ∃ a vs v, x = .ref a ∧ H a = some (.lst vs) ∧ vs.length = xs.length ∧ vs[n]? = some v ∧ RepS K H Z y v ∧ shr y = true := by
  cases o with
  | true =>
    obtain ⟨a, vs, B, ev, eA, ha, rk⟩ := r
    obtain ⟨v, B1, B2, B3, g1, g2, g3, g4, _⟩ := rk.nth e
    exact ⟨a, vs, v, ev, ha, rk.length.symm, g1, (g4.nil ho).2⟩
  | false =>
    obtain ⟨⟨a, vs, ev, ha, n1, rk⟩, eA, sh⟩ := r
    obtain ⟨v, g1, g2⟩ := rk.get e
    have shy : shr y = true := by
      rw [shrs_all, List.all_eq_true] at sh
      exact sh y (List.mem_of_getElem? e)
    exact ⟨a, vs, v, ev, ha, rk.length.symm, g1, g2, shy⟩
theorem idx_lst {p : Opd} {x : V} {Ap : List Addr} {o : Bool} {xs : List T} {j : Int} {t : T} {L2 : Slots} (m : Mid K H0 O0 H F σ L O A) (r : RepQ K H (Zz O A F) σ p x Ap) (sub : Ap.Sublist A)
    (er : rd L p = some (.lst o xs)) (e : idxL p xs j L = some (t, L2)) :
    ∃ a vs v O' A', x = .ref a ∧ H a = some (.lst vs) ∧ atI vs j = some v ∧ Mid K H0 O0 H F σ L2 O' A' ∧ RepO K H (Zz O' A' F) t v A' := by
  unfold idxL at e
  cases q1 : ixN xs.length j with
  | none => rw [q1] at e; cases e
  | some n =>
    rw [q1] at e
    have e : (xs[n]?).bind (fun x => itemAt p x L (.lst true (xs.set n (frz x)))) = some (t, L2) := e
    cases q2 : xs[n]? with
    | none => rw [q2] at e; cases e
    | some y =>
      rw [q2] at e
      have e : itemAt p y L (.lst true (xs.set n (frz y))) = some (t, L2) := e
      obtain ⟨C, rc, hC⟩ := opd_rep m r er
      have ndA : Ap.Nodup := m.nd.sublist sub
      rcases hC with ⟨t0, ep, eC⟩ | ⟨i, ks, ep, sC⟩
      · subst ep eC
        obtain ⟨a, vs, v, C', g1, g2, g3, g4, g5, g6, g7, g8⟩ := kid_lst rc ndA q2
        have e : some (y, L) = some (t, L2) := e
        have e1 : t = y := by cases e; rfl
        have e2 : L2 = L := by cases e; rfl
        subst e1 e2
        have s : ∀ b ∈ C', b ∈ A := fun b hb => sub.subset (g5 b hb)
        exact ⟨a, vs, v, O, C', g1, g2, atI_of (by rw [g3]; exact q1) g4, m.drop s g6, g8.later1 fun b z => z.imp id fun z => z.imp (s b) id⟩
      · subst ep
        have e : (if isOwn y = true then (if ks = [] then some (frz y, L.set i (some (.lst true (xs.set n (frz y))))) else none) else some (y, L)) = some (t, L2) := e
        by_cases ho : isOwn y = true
        · rw [if_pos ho] at e
          by_cases hk : ks = []
          · rw [if_pos hk] at e
            cases e
            subst hk
            obtain ⟨_, v0, hv, pv⟩ := r
            have pv : x = v0 := pv
            subst pv
            have es : slot L i = some (.lst o xs) := by
              have er : (slot L i).bind (fun t => pathT t []) = some (.lst o xs) := er
              cases q : slot L i with
              | none => rw [q] at er; cases er
              | some u =>
                rw [q] at er
                have : pathT u [] = some u := by cases u <;> rfl
                have er : pathT u [] = some (.lst o xs) := er
                rw [this] at er
                exact er
            obtain ⟨w, C, O', h1, pm, rc, nd, df, k⟩ := m.st.swap es
            rw [hv] at h1; cases h1
            cases o with
            | false =>
              obtain ⟨⟨a, vs, ev, ha, n1, rk⟩, eA, sh⟩ := rc
              have shy : shr y = true := by
                rw [shrs_all, List.all_eq_true] at sh
                exact sh y (List.mem_of_getElem? q2)
              have : isOwn y = false := shr_own shy
              rw [this] at ho; cases ho
            | true =>
              obtain ⟨a, vs, B, ev, eA, ha, rk⟩ := rc
              subst ev eA
              rw [List.nodup_cons] at nd
              obtain ⟨v, B', g1, g2, g3, g4⟩ := rk.freezeKid q2 nd.2
              obtain ⟨k1, k2, k3⟩ := g4 (Zz O' (a :: B') (Fa A F)) (fun b z => z.imp id fun z => z.imp (fun z => (List.mem_cons.mp z).elim (fun q => by rw [q]; exact List.mem_cons_self) fun q => List.mem_cons_of_mem _ (g2 b q)) id) fun b hb z => by
                have hbC : b ∈ a :: B := List.mem_cons_of_mem _ hb
                rcases z with z | z | z
                · exact absurd z (df b hbC).2
                · rcases List.mem_cons.mp z with z | z
                  · rw [z] at hb; exact absurd hb nd.1
                  · exact z
                · exact absurd z (df b hbC).1
              have nd' : (a :: B').Nodup := List.nodup_cons.mpr ⟨fun z => nd.1 (g2 a z), g3⟩
              have st2 := k (.lst true (xs.set n (frz y))) (a :: B') (fun b hb => (List.mem_cons.mp hb).elim (fun q => by rw [q]; exact List.mem_cons_self) fun q => List.mem_cons_of_mem _ (g2 b q)) nd' ⟨a, vs, B', rfl, rfl, ha, k1⟩
              have sO : ∀ b ∈ a :: B' ++ O', b ∈ O := fun b hb => pm.mem_iff.mpr (by
                rcases List.mem_append.mp hb with z | z
                · refine List.mem_append_left _ ?_
                  rcases List.mem_cons.mp z with q | q
                  · rw [q]; exact List.mem_cons_self
                  · exact List.mem_cons_of_mem _ (g2 b q)
                · exact List.mem_append_right _ z)
              refine ⟨a, vs, v, a :: B' ++ O', [], rfl, ha, atI_of (by rw [← rk.length]; exact q1) g1, (m.shrink st2 sO).drop nil_sub .nil, ?_⟩
              refine (k2.held k3).later1 fun b z => ?_
              rcases z with z | z | z
              · rcases List.mem_append.mp z with z | z
                · exact .inr (.inl z)
                · exact .inl z
              · cases z
              · exact .inr (.inr (.inr z))
          · rw [if_neg hk] at e; cases e
        · rw [if_neg ho] at e
          have e1 : t = y := by cases e; rfl
          have e2 : L2 = L := by cases e; rfl
          subst e1 e2
          have ho' : isOwn t = false := by simpa using ho
          obtain ⟨a, vs, v, g1, g2, g3, g4, rs, sh⟩ := kidS_lst rc q2 ho'
          exact ⟨a, vs, v, O, [], g1, g2, atI_of (by rw [g3]; exact q1) g4, m.drop nil_sub .nil, (rs.held0 sh).later1 fun b z => z.imp id fun z => z.elim (fun q => by cases q) .inr⟩
theorem kid_tup {o : Bool} {xs : List T} {x : V} {C : List Addr} {n : Nat} {y : T} (r : RepO K H Z (.tup o xs) x C) (nd : C.Nodup) (e : xs[n]? = some y) :
    ∃ a vs v C', x = .ref a ∧ H a = some (.tup vs) ∧ vs.length = xs.length ∧ vs[n]? = some v ∧ (∀ b ∈ C', b ∈ C) ∧ C'.Nodup ∧ isLkd y = false ∧ RepO K H Z y v C' := by
  cases o with
  | true =>
    obtain ⟨a, vs, B, ev, eA, ha, rk⟩ := r
    obtain ⟨v, B1, B2, B3, g1, g2, g3, g4, _⟩ := rk.nth e
    rw [eA, g2] at nd
    rw [List.nodup_cons, List.nodup_append] at nd
    refine ⟨a, vs, v, B2, ev, ha, rk.length.symm, g1, fun b hb => ?_, (List.nodup_append.mp nd.2.2.1).1, g3, g4⟩
    rw [eA, g2]
    exact List.mem_cons_of_mem _ (List.mem_append_right _ (List.mem_append_left _ hb))
  | false =>
    obtain ⟨⟨a, vs, ev, ha, n1, rk⟩, eA, sh⟩ := r
    obtain ⟨v, g1, g2⟩ := rk.get e
    have shy : shr y = true := by
      rw [shrs_all, List.all_eq_true] at sh
      exact sh y (List.mem_of_getElem? e)
    exact ⟨a, vs, v, [], ev, ha, rk.length.symm, g1, nil_sub, .nil, rk.nolkd e, g2.held0 shy⟩
theorem kidS_tup {o : Bool} {xs : List T} {x : V} {C : List Addr} {n : Nat} {y : T} (r : RepO K H Z (.tup o xs) x C) (e : xs[n]? = some y) (ho : isOwn y = false) :
    ∃ a vs v, x = .ref a ∧ H a = some (.tup vs) ∧ vs.length = xs.length ∧ vs[n]? = some v ∧ RepS K H Z y v ∧ shr y = true := by
  cases o with
  | true =>
    obtain ⟨a, vs, B, ev, eA, ha, rk⟩ := r
    obtain ⟨v, B1, B2, B3, g1, g2, g3, g4, _⟩ := rk.nth e
    exact ⟨a, vs, v, ev, ha, rk.length.symm, g1, (g4.nil ho).2⟩
  | false =>
    obtain ⟨⟨a, vs, ev, ha, n1, rk⟩, eA, sh⟩ := r
    obtain ⟨v, g1, g2⟩ := rk.get e
    have shy : shr y = true := by
      rw [shrs_all, List.all_eq_true] at sh
      exact sh y (List.mem_of_getElem? e)
    exact ⟨a, vs, v, ev, ha, rk.length.symm, g1, g2, shy⟩
theorem idx_tup {p : Opd} {x : V} {Ap : List Addr} {o : Bool} {xs : List T} {j : Int} {t : T} {L2 : Slots} (m : Mid K H0 O0 H F σ L O A) (r : RepQ K H (Zz O A F) σ p x Ap) (sub : Ap.Sublist A)
    (er : rd L p = some (.tup o xs)) (e : idxT p xs j L = some (t, L2)) :
    ∃ a vs v O' A', x = .ref a ∧ H a = some (.tup vs) ∧ atI vs j = some v ∧ Mid K H0 O0 H F σ L2 O' A' ∧ RepO K H (Zz O' A' F) t v A' := by
  unfold idxT at e
  cases q1 : ixN xs.length j with
  | none => rw [q1] at e; cases e
  | some n =>
    rw [q1] at e
    have e : (xs[n]?).bind (fun x => itemAt p x L (.tup true (xs.set n (frz x)))) = some (t, L2) := e
    cases q2 : xs[n]? with
    | none => rw [q2] at e; cases e
    | some y =>
      rw [q2] at e
      have e : itemAt p y L (.tup true (xs.set n (frz y))) = some (t, L2) := e
      obtain ⟨C, rc, hC⟩ := opd_rep m r er
      have ndA : Ap.Nodup := m.nd.sublist sub
      rcases hC with ⟨t0, ep, eC⟩ | ⟨i, ks, ep, sC⟩
      · subst ep eC
        obtain ⟨a, vs, v, C', g1, g2, g3, g4, g5, g6, g7, g8⟩ := kid_tup rc ndA q2
        have e : some (y, L) = some (t, L2) := e
        have e1 : t = y := by cases e; rfl
        have e2 : L2 = L := by cases e; rfl
        subst e1 e2
        have s : ∀ b ∈ C', b ∈ A := fun b hb => sub.subset (g5 b hb)
        exact ⟨a, vs, v, O, C', g1, g2, atI_of (by rw [g3]; exact q1) g4, m.drop s g6, g8.later1 fun b z => z.imp id fun z => z.imp (s b) id⟩
      · subst ep
        have e : (if isOwn y = true then (if ks = [] then some (frz y, L.set i (some (.tup true (xs.set n (frz y))))) else none) else some (y, L)) = some (t, L2) := e
        by_cases ho : isOwn y = true
        · rw [if_pos ho] at e
          by_cases hk : ks = []
          · rw [if_pos hk] at e
            cases e
            subst hk
            obtain ⟨_, v0, hv, pv⟩ := r
            have pv : x = v0 := pv
            subst pv
            have es : slot L i = some (.tup o xs) := by
              have er : (slot L i).bind (fun t => pathT t []) = some (.tup o xs) := er
              cases q : slot L i with
              | none => rw [q] at er; cases er
              | some u =>
                rw [q] at er
                have : pathT u [] = some u := by cases u <;> rfl
                have er : pathT u [] = some (.tup o xs) := er
                rw [this] at er
                exact er
            obtain ⟨w, C, O', h1, pm, rc, nd, df, k⟩ := m.st.swap es
            rw [hv] at h1; cases h1
            cases o with
            | false =>
              obtain ⟨⟨a, vs, ev, ha, n1, rk⟩, eA, sh⟩ := rc
              have shy : shr y = true := by
                rw [shrs_all, List.all_eq_true] at sh
                exact sh y (List.mem_of_getElem? q2)
              have : isOwn y = false := shr_own shy
              rw [this] at ho; cases ho
            | true =>
              obtain ⟨a, vs, B, ev, eA, ha, rk⟩ := rc
              subst ev eA
              rw [List.nodup_cons] at nd
              obtain ⟨v, B', g1, g2, g3, g4⟩ := rk.freezeKid q2 nd.2
              obtain ⟨k1, k2, k3⟩ := g4 (Zz O' (a :: B') (Fa A F)) (fun b z => z.imp id fun z => z.imp (fun z => (List.mem_cons.mp z).elim (fun q => by rw [q]; exact List.mem_cons_self) fun q => List.mem_cons_of_mem _ (g2 b q)) id) fun b hb z => by
                have hbC : b ∈ a :: B := List.mem_cons_of_mem _ hb
                rcases z with z | z | z
                · exact absurd z (df b hbC).2
                · rcases List.mem_cons.mp z with z | z
                  · rw [z] at hb; exact absurd hb nd.1
                  · exact z
                · exact absurd z (df b hbC).1
              have nd' : (a :: B').Nodup := List.nodup_cons.mpr ⟨fun z => nd.1 (g2 a z), g3⟩
              have st2 := k (.tup true (xs.set n (frz y))) (a :: B') (fun b hb => (List.mem_cons.mp hb).elim (fun q => by rw [q]; exact List.mem_cons_self) fun q => List.mem_cons_of_mem _ (g2 b q)) nd' ⟨a, vs, B', rfl, rfl, ha, k1⟩
              have sO : ∀ b ∈ a :: B' ++ O', b ∈ O := fun b hb => pm.mem_iff.mpr (by
                rcases List.mem_append.mp hb with z | z
                · refine List.mem_append_left _ ?_
                  rcases List.mem_cons.mp z with q | q
                  · rw [q]; exact List.mem_cons_self
                  · exact List.mem_cons_of_mem _ (g2 b q)
                · exact List.mem_append_right _ z)
              refine ⟨a, vs, v, a :: B' ++ O', [], rfl, ha, atI_of (by rw [← rk.length]; exact q1) g1, (m.shrink st2 sO).drop nil_sub .nil, ?_⟩
              refine (k2.held k3).later1 fun b z => ?_
              rcases z with z | z | z
              · rcases List.mem_append.mp z with z | z
                · exact .inr (.inl z)
                · exact .inl z
              · cases z
              · exact .inr (.inr (.inr z))
          · rw [if_neg hk] at e; cases e
        · rw [if_neg ho] at e
          have e1 : t = y := by cases e; rfl
          have e2 : L2 = L := by cases e; rfl
          subst e1 e2
          have ho' : isOwn t = false := by simpa using ho
          obtain ⟨a, vs, v, g1, g2, g3, g4, rs, sh⟩ := kidS_tup rc q2 ho'
          exact ⟨a, vs, v, O, [], g1, g2, atI_of (by rw [g3]; exact q1) g4, m.drop nil_sub .nil, (rs.held0 sh).later1 fun b z => z.imp id fun z => z.elim (fun q => by cases q) .inr⟩
end
end TV

set_option Elab.async false
set_option linter.all false
set_option maxRecDepth 100000
set_option maxHeartbeats 4000000
/-! TV12: opRun is served. -/
namespace TV
open PySem PySem.Spec PyProof.Rows L2

section
variable {K : PySem.W.Frag} {H : Hp} {Z Z' F : Fb} {σ : Sg} {L : Slots} {O A B : List Addr} {H0 : Hp} {O0 : List Addr}
theorem dget_mem {κ : Type} [DecidableEq κ] {k : κ} : ∀ {ks : List κ} {xs : List T} {x : T}, dget k ks xs = some x → x ∈ xs
  | [], xs, x, e => by cases xs <;> cases e
  | a :: ks, [], x, e => by cases e
  | a :: ks, y :: xs, x, e => by
    have e : (if a = k then some y else dget k ks xs) = some x := e
    by_cases h : a = k
    · rw [if_pos h] at e; cases e; exact List.mem_cons_self
    · rw [if_neg h] at e; exact List.mem_cons_of_mem _ (dget_mem e)
/-- a dict's item, as it is held -/
theorem RepOs.dget {κ : Type} [DecidableEq κ] {k : κ} : ∀ {ks : List κ} {xs : List T} {vs : List V} {B : List Addr} {x : T}, RepOs K H Z xs vs B → TV.dget k ks xs = some x →
    ∃ v C, valV (ks.zip vs) k = some v ∧ C.Sublist B ∧ isLkd x = false ∧ RepO K H Z x v C
  | [], xs, _, _, x, _, e => by cases xs <;> cases e
  | a :: ks, [], _, _, x, _, e => by cases e
  | a :: ks, y :: xs, _, _, x, ⟨v, vr, A1, A2, ev, eA, hk, h1, h2⟩, e => by
    have e : (if a = k then some y else TV.dget k ks xs) = some x := e
    rw [ev, List.zip_cons_cons]
    by_cases h : a = k
    · rw [if_pos h] at e
      have e1 : x = y := by cases e; rfl
      subst e1
      rw [valV_pos (p := (a, v)) h]
      exact ⟨v, A1, rfl, by rw [eA]; exact List.sublist_append_left A1 A2, hk, h1⟩
    · rw [if_neg h] at e
      rw [valV_neg (p := (a, v)) h]
      obtain ⟨u, C, g1, g2, g3, g4⟩ := RepOs.dget h2 e
      exact ⟨u, C, g1, by rw [eA]; exact g2.trans (List.sublist_append_right A1 A2), g3, g4⟩
theorem kid_dic {o : Bool} {ks : List Key} {k : Key} {xs : List T} {x : V} {C : List Addr} {y : T} (r : RepO K H Z (.dic o ks xs) x C) (nd : C.Nodup) (e : dget k ks xs = some y) :
    ∃ a vs v C', x = .ref a ∧ H a = some (.dK (ks.zip vs)) ∧ valV (ks.zip vs) k = some v ∧ (∀ b ∈ C', b ∈ C) ∧ C'.Nodup ∧ isLkd y = false ∧ RepO K H Z y v C' := by
  cases o with
  | true =>
    obtain ⟨a, vs, B, ev, eA, ha, hl, rk⟩ := r
    obtain ⟨v, C', g1, g2, g3, g4⟩ := rk.dget e
    rw [eA] at nd ⊢
    exact ⟨a, vs, v, C', ev, ha, g1, fun b hb => List.mem_cons_of_mem _ (g2.subset hb), (List.nodup_cons.mp nd).2.sublist g2, g3, g4⟩
  | false =>
    obtain ⟨⟨a, vs, ev, ha, n1, hl, rk⟩, eA, sh⟩ := r
    obtain ⟨v, C', g1, g2, g3, g4⟩ := (RepSs.held rk sh).dget e
    exact ⟨a, vs, v, C', ev, ha, g1, fun b hb => (nomatch (g2.subset hb)), List.Pairwise.sublist g2 .nil, g3, g4⟩
theorem kidS_dic {o : Bool} {ks : List Key} {k : Key} {xs : List T} {x : V} {C : List Addr} {y : T} (r : RepO K H Z (.dic o ks xs) x C) (e : dget k ks xs = some y) (ho : isOwn y = false) :
    ∃ a vs v, x = .ref a ∧ H a = some (.dK (ks.zip vs)) ∧ valV (ks.zip vs) k = some v ∧ RepS K H Z y v ∧ shr y = true := by
  cases o with
  | true =>
    obtain ⟨a, vs, B, ev, eA, ha, hl, rk⟩ := r
    obtain ⟨v, C', g1, g2, g3, g4⟩ := rk.dget e
    exact ⟨a, vs, v, ev, ha, g1, (g4.nil ho).2⟩
  | false =>
    obtain ⟨⟨a, vs, ev, ha, n1, hl, rk⟩, eA, sh⟩ := r
    obtain ⟨v, C', g1, g2, g3, g4⟩ := (RepSs.held rk sh).dget e
    exact ⟨a, vs, v, ev, ha, g1, (g4.nil ho).2⟩
theorem kidS_lkd {ks : List Key} {k : Key} {xs : List T} {x : V} {C : List Addr} {y : T} (r : RepO K H Z (.lkd ks xs) x C) (e : dget k ks xs = some y) (ho : isOwn y = false) :
    ∃ a vs v od, x = .ref a ∧ H a = some (.frz od (.dK (ks.zip vs))) ∧ valV (ks.zip vs) k = some v ∧ RepS K H Z y v ∧ shr y = true := by
  obtain ⟨a, vs, od, B, ev, eA, ha, hl, rk⟩ := r
  obtain ⟨v, C', g1, g2, g3, g4⟩ := rk.dget e
  exact ⟨a, vs, v, od, ev, ha, g1, (g4.nil ho).2⟩
theorem Mid.sc (m : Mid K H0 O0 H F σ L O A) {y : T} {v : V} (r : RepS K H (Zz O A F) y v) (sh : shr y = true) : Mid K H0 O0 H F σ L O [] ∧ RepO K H (Zz O [] F) y v [] :=
  ⟨m.drop (fun _ z => by cases z) .nil, (r.held0 sh).later1 fun b z => z.imp id fun z => z.elim (fun q => by cases q) .inr⟩
theorem keyRep_of {k : T} {y : V} {kk : Key} (h : RepS K H Z k y) (e : keyOf k = some kk) : y = kV kk := key_rep h e
/-- the item comes, as a temporary -/
theorem hand {p : Opd} {C' Ap : List Addr} {y : T} {v : V} (m : Mid K H0 O0 H F σ L O A) (sub : Ap.Sublist A) (nd : C'.Nodup) (r : RepO K H (Zz O A F) y v C')
    (h : (∃ t, p = .v t ∧ ∀ b ∈ C', b ∈ Ap) ∨ isOwn y = false) : ∃ A', Mid K H0 O0 H F σ L O A' ∧ RepO K H (Zz O A' F) y v A' := by
  rcases h with ⟨t, ep, s⟩ | ho
  · have s' : ∀ b ∈ C', b ∈ A := fun b hb => sub.subset (s b hb)
    exact ⟨C', m.drop s' nd, r.later1 fun b z => z.imp id fun z => z.imp (s' b) id⟩
  · obtain ⟨_, rs, sh⟩ := r.nil ho
    exact ⟨[], m.drop nil_sub .nil, (rs.held0 sh).later1 fun b z => z.imp id fun z => z.elim (fun q => by cases q) .inr⟩
theorem RepQs.two {p q : Opd} {vs : List V} {C : List Addr} (h : RepQs K H Z σ [p, q] vs C) : ∃ x y C1 C2, vs = [x, y] ∧ C = C1 ++ C2 ∧ RepQ K H Z σ p x C1 ∧ RepQ K H Z σ q y C2 := by
  obtain ⟨x, vr, C1, D, e1, e2, h1, y, vr2, C2, E, e3, e4, h2, e5, e6⟩ := h
  subst e1 e2 e3 e4 e5 e6
  exact ⟨x, y, C1, C2, rfl, by simp, h1, h2⟩
theorem RepQs.one {p : Opd} {vs : List V} {C : List Addr} (h : RepQs K H Z σ [p] vs C) : ∃ x, vs = [x] ∧ RepQ K H Z σ p x C := by
  obtain ⟨x, vr, C1, D, e1, e2, h1, e5, e6⟩ := h
  subst e1 e2 e5 e6
  exact ⟨x, rfl, by simpa using h1⟩
theorem RepQs.three {p q r : Opd} {vs : List V} {C : List Addr} (h : RepQs K H Z σ [p, q, r] vs C) : ∃ x y z C1 C2 C3, vs = [x, y, z] ∧ C = C1 ++ (C2 ++ C3) ∧ RepQ K H Z σ p x C1 ∧ RepQ K H Z σ q y C2 ∧ RepQ K H Z σ r z C3 := by
  obtain ⟨x, vr, C1, D, e1, e2, h1, y, vr2, C2, E, e3, e4, h2, z, vr3, C3, G, e7, e8, h3, e5, e6⟩ := h
  subst e1 e2 e3 e4 e5 e6 e7 e8
  exact ⟨x, y, z, C1, C2, C3, rfl, by simp, h1, h2, h3⟩
theorem RepQ.shrink {p : Opd} {x : V} {C O2 : List Addr} (h : RepQ K H (Zz O A F) σ p x C) (s : ∀ b ∈ O2, b ∈ O) : RepQ K H (Zz O2 A F) σ p x C := by
  cases p with
  | v t => exact RepO.later1 h fun b z => z.imp (s b) id
  | s i ks => exact h
theorem cutT_sound {xs : List T} {vs : List V} (lo hi : Option Int) (r : RepOs K H Z xs vs B) : ∃ C, C.Sublist B ∧ RepOs K H Z (cutT xs lo hi) (cutV vs lo hi) C := by
  have hl := r.length
  obtain ⟨C1, s1, r1⟩ := r.drop (HT.sIx xs.length 0 lo)
  obtain ⟨C2, s2, r2⟩ := r1.take (HT.sIx xs.length xs.length hi - HT.sIx xs.length 0 lo)
  refine ⟨C2, s2.trans s1, ?_⟩
  unfold cutT cutV
  rw [← hl]
  exact r2
theorem okS_cut {s : Str} (h : okS s) (lo hi : Option Int) : okS (cutS s lo hi) := okS_sub h fun c hc => List.mem_of_mem_drop (List.mem_of_mem_take hc)

theorem rds_two {p q : Opd} {t1 t2 : T} (h : rds L [p, q] = some [t1, t2]) : rd L p = some t1 ∧ rd L q = some t2 := by
  have h : (rd L p).bind (fun t => ((rd L q).bind fun u => some [u]).bind fun ts => some (t :: ts)) = some [t1, t2] := h
  cases z1 : rd L p with
  | none => rw [z1] at h; cases h
  | some u1 =>
    rw [z1] at h
    cases z2 : rd L q with
    | none => rw [z2] at h; cases h
    | some u2 => rw [z2] at h; cases h; exact ⟨rfl, rfl⟩
theorem rds_one {p : Opd} {t1 : T} (h : rds L [p] = some [t1]) : rd L p = some t1 := by
  have h : (rd L p).bind (fun t => some [t]) = some [t1] := h
  cases z1 : rd L p with
  | none => rw [z1] at h; cases h
  | some u1 => rw [z1] at h; cases h; rfl
theorem rds_three {p q r : Opd} {t1 t2 t3 : T} (h : rds L [p, q, r] = some [t1, t2, t3]) : rd L p = some t1 ∧ rd L q = some t2 ∧ rd L r = some t3 := by
  have h : (rd L p).bind (fun t => (rds L [q, r]).bind fun ts => some (t :: ts)) = some [t1, t2, t3] := h
  cases z1 : rd L p with
  | none => rw [z1] at h; cases h
  | some u1 =>
    rw [z1] at h
    cases z2 : rds L [q, r] with
    | none => rw [z2] at h; cases h
    | some us =>
      rw [z2] at h
      cases h
      exact ⟨rfl, rds_two z2⟩
theorem slcL_sound {p : Opd} {lo hi : Option Int} {t : T} {L2 : Slots} {x : V} {C : List Addr} (m : Mid K H0 O0 H F σ L O A) (r : RepQ K H (Zz O A F) σ p x C) (sub : C.Sublist A) (e : slcL p lo hi L = some (t, L2)) {Q : VK}
    (HQ : ∀ v H' O' A', Mid K H0 O0 H' F σ L2 O' A' → RepO K H' (Zz O' A' F) t v A' → Q v H') : rSlL K x lo hi H Q := by
  obtain ⟨⟨xs, L3⟩, e1, e2⟩ := Option.map_eq_some_iff.mp e
  cases e2
  obtain ⟨a, ws, O2, B, ev, ha, s, m2, sB, rk⟩ := kidL_sound m r sub e1
  obtain ⟨C', s', r'⟩ := cutT_sound lo hi rk
  refine ⟨a, ws, ev, SqL.of ha, fun p hp => ?_⟩
  have nd : C'.Nodup := m.nd.sublist (s'.trans (sB.trans sub))
  obtain ⟨m3, r3⟩ := alloc_lst m2 r' (fun b hb => sub.subset (sB.subset (s'.subset hb))) nd hp
  exact HQ _ _ _ _ m3 r3
theorem RepOs_read : ∀ {xs : List T} {vs : List V} {B : List Addr}, RepOs K H Z xs vs B → RepSs K H (fun _ => False) xs vs := fun {xs vs B} r => RepOs.read (fun _ z => z.elim) xs vs B (fun _ _ z => z) r
theorem strs_rep : ∀ {xs : List T} {vs : List V} {ss : List Str}, RepSs K H Z xs vs → strsOf xs = some ss → vs = ss.map V.str ∧ ∀ s ∈ ss, okS s
  | [], vs, ss, r, e => by
    have e1 : vs = [] := r
    cases e
    exact ⟨e1, fun s z => by cases z⟩
  | x :: xs, _, ss, ⟨v, vr, ev, hk, r1, r2⟩, e => by
    cases x with
    | str b =>
      obtain ⟨zs, e1, e2⟩ := Option.map_eq_some_iff.mp (show (strsOf xs).map (b :: ·) = some ss from e)
      subst e2
      obtain ⟨h1, h2⟩ := strs_rep r2 e1
      subst ev
      refine ⟨by rw [h1, show v = V.str b from r1.1]; rfl, fun s z => ?_⟩
      rcases List.mem_cons.mp z with z | z
      · subst z; exact r1.2
      · exact h2 s z
    | _ => cases e
def leS (a b : Str) : Bool := !(strLt b a)
theorem ltCps_lt : ∀ (a b : List Nat), PySem.Spec.ltCps a b = decide (a < b)
  | [], [] => by simp [PySem.Spec.ltCps]
  | [], _ :: _ => by simp [PySem.Spec.ltCps]
  | _ :: _, [] => by simp [PySem.Spec.ltCps]
  | x :: a, y :: b => by
    rw [PySem.Spec.ltCps, ltCps_lt a b]
    by_cases h1 : x < y
    · have : x :: a < y :: b := List.cons_lt_cons_iff.mpr (.inl h1)
      simp [h1, this]
    · by_cases h2 : x = y
      · subst h2
        by_cases h3 : a < b
        · have : x :: a < x :: b := List.cons_lt_cons_iff.mpr (.inr ⟨rfl, h3⟩)
          simp [h3, this]
        · have : ¬ x :: a < x :: b := fun z => (List.cons_lt_cons_iff.mp z).elim h1 fun z => h3 z.2
          simp [h3, this]
      · have : ¬ x :: a < y :: b := fun z => (List.cons_lt_cons_iff.mp z).elim h1 fun z => h2 z.1
        simp [h1, h2, this]
theorem leS_iff {a b : Str} : leS a b = true ↔ a.cps.toList ≤ b.cps.toList := by
  unfold leS strLt
  simp only [Bool.not_eq_true', decide_eq_false_iff_not]
  exact List.not_lt
theorem leS_trans (a b c : Str) (h : leS a b = true) (h' : leS b c = true) : leS a c = true := leS_iff.mpr (List.le_trans (leS_iff.mp h) (leS_iff.mp h'))
theorem leS_total (a b : Str) : (leS a b || leS b a) = true := by
  rw [Bool.or_eq_true, leS_iff, leS_iff]
  exact List.le_total _ _
theorem leS_anti {a b : Str} (h : leS a b = true) (h' : leS b a = true) : a = b := by
  have := List.le_antisymm (leS_iff.mp h) (leS_iff.mp h')
  cases a; cases b
  simp only [Str.mk.injEq]
  exact Array.toList_inj.mp this
theorem rising_pw : ∀ {l : List Str} {p : Str}, risingS p l = true → (p :: l).Pairwise fun a b => leS a b = true
  | [], p, _ => by simp
  | x :: r, p, h => by
    have h : (!PySem.Spec.ltCps x.cps.toList p.cps.toList && risingS x r) = true := h
    rw [Bool.and_eq_true, ltCps_lt] at h
    have ih := rising_pw h.2
    have px : leS p x = true := h.1
    refine List.pairwise_cons.mpr ⟨fun y hy => ?_, ih⟩
    rcases List.mem_cons.mp hy with e | hy
    · rw [e]; exact px
    · exact leS_trans p x y px ((List.pairwise_cons.mp ih).1 y hy)
theorem strSort_uniq {ys ss : List Str} (p : ys.Perm ss) (h : sortedS ys = true) : ys = strSort ss := by
  have h1 : ys.Pairwise fun a b => leS a b = true := by
    cases ys with
    | nil => exact .nil
    | cons x r => exact rising_pw h
  have h2 : (strSort ss).Pairwise fun a b => leS a b = true := List.pairwise_mergeSort leS_trans leS_total ss
  exact List.Perm.eq_of_pairwise (fun a b _ _ => leS_anti) h1 h2 (p.trans (List.mergeSort_perm ss _).symm)
theorem strSet_mem {ss : List Str} {s : Str} : s ∈ strSet ss ↔ s ∈ ss := by
  unfold strSet strSort; rw [(List.mergeSort_perm _ _).mem_iff, uniqS_mem]
theorem strSet_uniq {ys ss : List Str} (h : sortedS ys = true) (nd : ys.Nodup) (mem : ∀ k, k ∈ ys ↔ k ∈ ss) : ys = strSet ss :=
  strSort_uniq ((List.perm_ext_iff_of_nodup nd uniqS_nodup).mpr fun k => (mem k).trans uniqS_mem.symm) h
theorem strs_new {ss : List Str} (h : ∀ s ∈ ss, okS s) : RepOs K H Z' (ss.map T.str) (ss.map V.str) [] := by
  induction ss with
  | nil => exact ⟨rfl, rfl⟩
  | cons s ss ih => exact ⟨_, _, [], [], rfl, rfl, rfl, ⟨⟨rfl, h s List.mem_cons_self⟩, rfl⟩, ih fun x hx => h x (List.mem_cons_of_mem _ hx)⟩
theorem intSort_uniq {ys ns : List Int} (p : ys.Perm ns) (h : ys.Pairwise (· ≤ ·)) : ys = intSort ns := by
  have h2 : (intSort ns).Pairwise (· ≤ ·) := by
    have := List.pairwise_mergeSort (le := fun a b : Int => decide (a ≤ b)) (fun a b c h h' => by simp only [decide_eq_true_eq] at *; omega) (fun a b => by simp only [Bool.or_eq_true, decide_eq_true_eq]; omega) ns
    exact this.imp fun h => of_decide_eq_true h
  exact List.Perm.eq_of_pairwise (fun a b _ _ h h' => Int.le_antisymm h h') h h2 (p.trans (List.mergeSort_perm ns _).symm)
/-- the sorted items are told by their order -/
def SortV (us : List T) (vs ws : List V) : Prop :=
  (∃ ss, strsOf us = some ss ∧ ss.length < 64 ∧ vs = ss.map V.str ∧ ws = (strSort ss).map V.str) ∨ ∃ ns, strsOf us = none ∧ intsOf us = some ns ∧ vs = ns.map V.int ∧ ws = (intSort ns).map V.int
theorem sortT_sound {us zs : List T} {vs : List V} (e : sortT0 us = some zs) (r : RepSs K H (fun _ => False) us vs) : (∃ ws, SortV us vs ws) ∧ ∀ ws, SortV us vs ws → RepOs K H Z' zs ws [] := by
  have repS : ∀ ss : List Str, (∀ s ∈ ss, okS s) → RepOs K H Z' (ss.map T.str) (ss.map V.str) [] := fun ss h => by
    induction ss with
    | nil => exact ⟨rfl, rfl⟩
    | cons s ss ih => exact ⟨_, _, [], [], rfl, rfl, rfl, ⟨⟨rfl, h s List.mem_cons_self⟩, rfl⟩, ih fun x hx => h x (List.mem_cons_of_mem _ hx)⟩
  have repI : ∀ ns : List Int, RepOs K H Z' (ns.map T.int) (ns.map V.int) [] := fun ns => by
    induction ns with
    | nil => exact ⟨rfl, rfl⟩
    | cons s ss ih => exact ⟨_, _, [], [], rfl, rfl, rfl, ⟨rfl, rfl⟩, ih⟩
  unfold sortT0 at e
  cases q : strsOf us with
  | some ss =>
    rw [q] at e
    replace e : (if ss.length < 64 then some ((strSort ss).map T.str) else none) = some zs := e
    obtain ⟨ev, hs⟩ := strs_rep r q
    by_cases hl : ss.length < 64
    · rw [if_pos hl] at e
      cases e
      refine ⟨⟨_, .inl ⟨ss, q, hl, ev, rfl⟩⟩, fun ws hw => ?_⟩
      rcases hw with ⟨ss', q', _, _, e⟩ | ⟨ns, q', _⟩
      · rw [q] at q'; cases q'
        rw [e]
        exact repS _ fun s hs' => hs s ((List.mergeSort_perm ss _).mem_iff.mp hs')
      · rw [q] at q'; cases q'
    · rw [if_neg hl] at e; cases e
  | none =>
    rw [q] at e
    obtain ⟨ns, e1, e2⟩ := Option.map_eq_some_iff.mp e
    subst e2
    refine ⟨⟨_, .inr ⟨ns, q, e1, ints_rep r e1, rfl⟩⟩, fun ws hw => ?_⟩
    rcases hw with ⟨ss', q', _⟩ | ⟨ns', _, q', _, e⟩
    · rw [q] at q'; cases q'
    · rw [e1] at q'; cases q'
      rw [e]
      exact repI _
theorem rSort_of {a : Addr} {us : List T} {vs : List V} {Q : VK} (ha : H a = some (.lst vs)) (h : ∃ ws, SortV us vs ws) (k : ∀ ws p, SortV us vs ws → H p = none → Q (.ref p) (upd H p (.lst ws))) : rOp K .sorted [.ref a] H Q := by
  obtain ⟨ws, h⟩ := h
  rcases h with ⟨ss, q, hl, ev, _⟩ | ⟨ns, q, q2, ev, _⟩
  · subst ev
    exact .inr (.inl ⟨a, ss, rfl, .inl (.inl ha), hl, fun ys p hp hs hn => k _ p (.inl ⟨ss, q, hl, rfl, by rw [strSort_uniq hp hs]⟩) hn⟩)
  · subst ev
    exact .inl ⟨a, ns, rfl, .inl (.inl ha), fun ys p hp hs hn => k _ p (.inr ⟨ns, q, q2, rfl, by rw [intSort_uniq hp hs]⟩) hn⟩
/-! nested data, sorted: what each item holds goes with it -/
theorem RepOs.trip {Z : Fb} : ∀ {us : List T} {vs : List V} {B : List Addr}, RepOs K H Z us vs B → ∃ qs : List (T × V × List Addr), qs.map (·.1) = us ∧ qs.map (·.2.1) = vs ∧ (qs.map (·.2.2)).flatten = B ∧ ∀ q ∈ qs, isLkd q.1 = false ∧ RepO K H Z q.1 q.2.1 q.2.2
  | [], _, _, ⟨e1, e2⟩ => ⟨[], rfl, e1.symm, e2.symm, fun _ z => by cases z⟩
  | t :: ts, _, _, ⟨v, vr, A1, A2, e, eA, hk, h1, h2⟩ => by
    obtain ⟨qs, q1, q2, q3, q4⟩ := RepOs.trip h2
    refine ⟨(t, v, A1) :: qs, by rw [List.map_cons, q1], by rw [List.map_cons, q2, e], by rw [List.map_cons, List.flatten_cons, q3, eA], fun q hq => ?_⟩
    rcases List.mem_cons.mp hq with e | hq
    · subst e; exact ⟨hk, h1⟩
    · exact q4 q hq
theorem RepOs.untrip {Z : Fb} : ∀ {qs : List (T × V × List Addr)}, (∀ q ∈ qs, isLkd q.1 = false ∧ RepO K H Z q.1 q.2.1 q.2.2) → RepOs K H Z (qs.map (·.1)) (qs.map (·.2.1)) (qs.map (·.2.2)).flatten
  | [], _ => ⟨rfl, rfl⟩
  | q :: qs, h => ⟨q.2.1, _, q.2.2, _, rfl, rfl, (h q List.mem_cons_self).1, (h q List.mem_cons_self).2, RepOs.untrip fun p hp => h p (List.mem_cons_of_mem _ hp)⟩
theorem deps_mem : ∀ {xs : List T} {n : Nat}, deps xs ≤ n → ∀ x ∈ xs, dep x ≤ n
  | x :: xs, n, h, y, hy => by
    have h : Nat.max (dep x) (deps xs) ≤ n := h
    rcases List.mem_cons.mp hy with e | hy
    · subst e; exact Nat.le_trans (Nat.le_max_left _ _) h
    · exact deps_mem (Nat.le_trans (Nat.le_max_right _ _) h) y hy
theorem toDs_map : ∀ xs : List T, toDs xs = xs.map toD
  | [] => rfl
  | x :: xs => by rw [List.map_cons, ← toDs_map xs]; rfl
theorem srtD_sound {Z : Fb} {a : Addr} {us : List T} {vs : List V} {B : List Addr} {Q : VK} (ha : H a = some (.lst vs)) (hd : srtD us = true) (r : RepOs K H Z us vs B)
    (k : ∀ ws B' p, B'.Perm B → RepOs K H Z (us.mergeSort leT) ws B' → H p = none → Q (.ref p) (upd H p (.lst ws))) : rOp K .sorted [.ref a] H Q := by
  obtain ⟨qs, q1, q2, q3, q4⟩ := r.trip
  unfold srtD at hd
  simp only [Bool.and_eq_true, decide_eq_true_eq] at hd
  obtain ⟨⟨hs, hal⟩, hdep⟩ := hd
  have hdq : ∀ q ∈ qs, dep q.1 ≤ 60 := fun q hq => deps_mem hdep q.1 (by rw [← q1]; exact List.mem_map_of_mem hq)
  let f : T × V × List Addr → V × PyData := fun q => (q.2.1, toD q.1)
  have f1 : (qs.map f).map (·.1) = vs := by rw [List.map_map, ← q2]; rfl
  have f2 : (qs.map f).map (·.2) = toDs us := by rw [List.map_map, toDs_map, ← q1, List.map_map]; rfl
  have mem : ∀ p ∈ qs.map f, ∃ q ∈ qs, f q = p := fun p hp => List.mem_map.mp hp
  let le : T × V × List Addr → T × V × List Addr → Bool := fun p q => leT p.1 q.1
  have s1 : (qs.mergeSort le).map (·.1) = us.mergeSort leT := by
    rw [← q1]; exact List.map_mergeSort (r := le) (s := leT) (f := fun q : T × V × List Addr => q.1) fun _ _ _ _ => rfl
  have s2 : (qs.mergeSort le).map f = (qs.map f).mergeSort leD := List.map_mergeSort (r := le) (s := leD) (f := f) fun _ _ _ _ => rfl
  refine .inr (.inr ⟨a, qs.map f, rfl, .inl (.inl (by rw [f1]; exact ha)), fun p hp => ?_, ?_, ?_, fun p hp => ?_, fun p hn => ?_⟩)
  · obtain ⟨q, hq, e⟩ := mem p hp
    subst e
    exact (RepO_read (q4 q hq).2).dp q.1 q.2.1 (by have := hdq q hq; omega)
  · rw [f2]
    exact fun d h1 d' h2 => List.all_eq_true.mp (List.all_eq_true.mp hal d h1) d' h2
  · rw [f2]
    rcases Bool.or_eq_true _ _ ▸ hs with h | h
    · refine .inl fun d hd => ?_
      have := List.all_eq_true.mp h d hd
      unfold tupD at this
      split at this
      · exact ⟨_, _, rfl⟩
      · cases this
    · refine .inr fun d hd => ?_
      have := List.all_eq_true.mp h d hd
      unfold oneD at this
      split at this
      · cases this
      · cases this
      · rename_i h1 h2
        exact ⟨h1, fun xs e => h2 xs e⟩
  · obtain ⟨q, hq, e⟩ := mem p hp
    subst e
    exact Nat.le_trans (dep_toD q.1) (hdq q hq)
  · have e : ((qs.map f).mergeSort leD).map (·.1) = (qs.mergeSort le).map (·.2.1) := by rw [← s2, List.map_map]; rfl
    rw [e]
    refine k _ ((qs.mergeSort le).map (·.2.2)).flatten p ?_ ?_ hn
    · rw [← q3]; exact ((List.mergeSort_perm qs le).map _).flatten
    · rw [← s1]
      exact RepOs.untrip fun q hq => q4 q ((List.mergeSort_perm qs le).mem_iff.mp hq)
theorem rgV_rep (a b : Int) : RepOs K H Z' (rgT a b) (rgV a b) [] := by
  unfold rgT rgV
  induction List.range (b - a).toNat with
  | nil => exact ⟨rfl, rfl⟩
  | cons x xs ih => exact ⟨_, _, [], [], rfl, rfl, rfl, ⟨rfl, rfl⟩, ih⟩
theorem rgRun_sound {a b : Int} {t : T} {L2 : Slots} {Q : VK} (m : Mid K H0 O0 H F σ L O A) (e : rgRun a b L = some (t, L2))
    (HQ : ∀ v H' O' A', Mid K H0 O0 H' F σ L2 O' A' → RepO K H' (Zz O' A' F) t v A' → Q v H') : RgOk a b ∧ ∀ q, H q = none → Q (.ref q) (upd H q (.lst (rgV a b))) := by
  unfold rgRun at e
  by_cases h : -(2 ^ 62) ≤ a ∧ a < 2 ^ 62 ∧ -(2 ^ 62) ≤ b ∧ b < 2 ^ 62 ∧ (b - a).toNat ≤ 2 ^ 24
  · rw [if_pos h] at e
    cases e
    refine ⟨h, fun q hq => ?_⟩
    obtain ⟨m4, r4⟩ := alloc_lst m (rgV_rep a b) (B := []) (fun _ z => by cases z) .nil hq
    exact HQ _ _ _ _ m4 r4
  · rw [if_neg h] at e; cases e
theorem opRun_sound {o : Op} {ps : List Opd} {vs : List V} {t : T} {L2 : Slots} {Q : VK} (m : Mid K H0 O0 H F σ L O A) (r : RepQs K H (Zz O A F) σ ps vs A) (e : opRun o ps L = some (t, L2))
    (HQ : ∀ v H' O' A', Mid K H0 O0 H' F σ L2 O' A' → RepO K H' (Zz O' A' F) t v A' → Q v H') : rOp K o vs H Q := by
  unfold opRun at e
  cases q : rds L ps with
  | none => rw [q] at e; cases e
  | some ts =>
    rw [q] at e
    replace e : opK o ts ps L = some (t, L2) := e
    obtain ⟨vs', ev', pr⟩ := r.read m.st q
    subst ev'
    have scal : ∀ (u : T) {w : V}, scOk u → some (u, L) = some (t, L2) → w = scV u → Q w H := fun u {w} hs e ew => by
      have e1 : t = u := by cases e; rfl
      have e2 : L2 = L := by cases e; rfl
      subst e1 e2 ew
      exact HQ _ H O [] (m.drop nil_sub .nil) (scRep hs)
    unfold opK at e
    split at e
    · -- a sign of a text
      rename_i s j
      cases pr with
      | cons r1 pr => cases pr with
        | cons r2 pr =>
          cases pr
          obtain ⟨c, e1, e2⟩ := Option.map_eq_some_iff.mp e
          unfold signAt at e1
          split at e1
          · rename_i hl
            obtain ⟨d, e3, e4⟩ := Option.map_eq_some_iff.mp e1
            subst e4
            exact ⟨_, _, rfl, .inr (.inr (.inl ⟨s, j, d, r1.1, r2, hl, e3, scal (.str ⟨#[d]⟩) (okS_sign r1.2 (atI_mem e3)) (by rw [e2]) rfl⟩))⟩
          · cases e1
    · -- of the script
      rename_i ns j
      cases pr with
      | cons r1 pr => cases pr with
        | cons r2 pr =>
          cases pr
          obtain ⟨n, e1, e2⟩ := Option.map_eq_some_iff.mp e
          obtain ⟨a, ea, hq⟩ := ScrL.sq r1
          refine ⟨_, _, rfl, .inl ⟨a, _, j, .int n, ea, r2, hq, ?_, scal (.int n) trivial (by rw [e2]) rfl⟩⟩
          obtain ⟨k, h1, h2⟩ := atI_get e1
          exact atI_of (by rw [List.length_map]; exact h1) (by rw [List.getElem?_map, h2]; rfl)
    · -- of a list
      rename_i o xs j p q'
      obtain ⟨x, y, C1, C2, e1, e2, h1, h2⟩ := r.two
      cases e1
      obtain ⟨er1, er2⟩ := rds_two q
      cases pr with
      | cons r1 pr => cases pr with
        | cons r2 pr =>
          obtain ⟨a, ws, v, O', A', g1, g2, g3, g4, g5⟩ := idx_lst m h1 (by rw [e2]; exact List.sublist_append_left C1 C2) er1 e
          exact ⟨_, _, rfl, .inl ⟨a, ws, j, v, g1, r2, SqL.of g2, g3, HQ v H O' A' g4 g5⟩⟩
    · -- of a tuple
      rename_i o xs j p q'
      obtain ⟨x, y, C1, C2, e1, e2, h1, h2⟩ := r.two
      cases e1
      obtain ⟨er1, er2⟩ := rds_two q
      cases pr with
      | cons r1 pr => cases pr with
        | cons r2 pr =>
          obtain ⟨a, ws, v, O', A', g1, g2, g3, g4, g5⟩ := idx_tup m h1 (by rw [e2]; exact List.sublist_append_left C1 C2) er1 e
          exact ⟨_, _, rfl, .inr (.inl ⟨a, ws, j, v, g1, r2, SqT.of g2, g3, HQ v H O' A' g4 g5⟩)⟩
    · -- of a dict
      rename_i o ks xs k p q'
      obtain ⟨x, y, C1, C2, e1, e2, h1, h2⟩ := r.two
      cases e1
      obtain ⟨er1, er2⟩ := rds_two q
      have sub : C1.Sublist A := by rw [e2]; exact List.sublist_append_left C1 C2
      cases pr with
      | cons r1 pr => cases pr with
        | cons r2 pr =>
          unfold idxD at e
          cases q1 : keyOf k with
          | none => rw [q1] at e; cases e
          | some kk =>
            rw [q1] at e
            replace e : (dget kk ks xs).bind (fun x => match p with | .v _ => some (x, L) | .s _ _ => if isOwn x then none else some (x, L)) = some (t, L2) := e
            cases q2 : dget kk ks xs with
            | none => rw [q2] at e; cases e
            | some z =>
              rw [q2] at e
              obtain ⟨C, rc, hC⟩ := opd_rep m h1 er1
              rcases hC with ⟨t0, ep, eC⟩ | ⟨i, js, ep, sC⟩
              · subst ep eC
                obtain ⟨a, ws, v, C', g1, g2, g3, g4, g5, g6, g7⟩ := kid_dic rc (m.nd.sublist sub) q2
                have e1 : t = z := by cases e; rfl
                have e2 : L2 = L := by cases e; rfl
                subst e1 e2
                obtain ⟨A', m', r'⟩ := hand (p := .v t0) m sub g5 g7 (.inl ⟨t0, rfl, g4⟩)
                exact ⟨_, _, rfl, .inr (.inr (.inr ⟨a, v, g1, .inl ⟨_, kk, .inl g2, key_rep r2 q1, g3.symm⟩, HQ v H O A' m' r'⟩))⟩
              · subst ep
                replace e : (if isOwn z = true then none else some (z, L)) = some (t, L2) := e
                by_cases ho : isOwn z = true
                · rw [if_pos ho] at e; cases e
                · rw [if_neg ho] at e
                  have e1 : t = z := by cases e; rfl
                  have e2 : L2 = L := by cases e; rfl
                  subst e1 e2
                  obtain ⟨a, ws, v, g1, g2, g3, rs, sh⟩ := kidS_dic rc q2 (by simpa using ho)
                  obtain ⟨m', r'⟩ := m.sc rs sh
                  exact ⟨_, _, rfl, .inr (.inr (.inr ⟨a, v, g1, .inl ⟨_, kk, .inl g2, key_rep r2 q1, g3.symm⟩, HQ v H O [] m' r'⟩))⟩
    · -- of a dict that is walked
      rename_i ks xs k p q'
      obtain ⟨x, y, C1, C2, e1, e2, h1, h2⟩ := r.two
      cases e1
      obtain ⟨er1, er2⟩ := rds_two q
      cases pr with
      | cons r1 pr => cases pr with
        | cons r2 pr =>
          unfold idxD at e
          cases q1 : keyOf k with
          | none => rw [q1] at e; cases e
          | some kk =>
            rw [q1] at e
            replace e : (dget kk ks xs).bind (fun x => match p with | .v _ => some (x, L) | .s _ _ => if isOwn x then none else some (x, L)) = some (t, L2) := e
            cases q2 : dget kk ks xs with
            | none => rw [q2] at e; cases e
            | some z =>
              rw [q2] at e
              obtain ⟨C, rc, hC⟩ := opd_rep m h1 er1
              have main : isOwn z = false → some (z, L) = some (t, L2) → rOp K .idx [x, y] H Q := fun ho e => by
                have e1 : t = z := by cases e; rfl
                have e2 : L2 = L := by cases e; rfl
                subst e1 e2
                obtain ⟨a, ws, v, od, g1, g2, g3, rs, sh⟩ := kidS_lkd rc q2 ho
                obtain ⟨m', r'⟩ := m.sc rs sh
                exact ⟨_, _, rfl, .inr (.inr (.inr ⟨a, v, g1, .inl ⟨_, kk, .inr ⟨od, g2⟩, key_rep r2 q1, g3.symm⟩, HQ v H O [] m' r'⟩))⟩
              rcases hC with ⟨t0, ep, eC⟩ | ⟨i, js, ep, sC⟩
              · subst ep eC
                replace e : some (z, L) = some (t, L2) := e
                have e1 : t = z := by cases e; rfl
                have e2 : L2 = L := by cases e; rfl
                subst e1 e2
                obtain ⟨a, vs, od, B, ev, eA, ha, hl, rk⟩ := rc
                obtain ⟨v, C', g1, g2, g3, g4⟩ := rk.dget q2
                have sub : C.Sublist A := by rw [e2]; exact List.sublist_append_left C C2
                have sC : C'.Sublist C := by rw [eA]; exact g2.trans (List.sublist_cons_self a B)
                obtain ⟨A', m', r'⟩ := hand (p := .v t0) m sub (m.nd.sublist (sC.trans sub)) g4 (.inl ⟨t0, rfl, fun b hb => sC.subset hb⟩)
                exact ⟨_, _, rfl, .inr (.inr (.inr ⟨a, v, ev, .inl ⟨_, kk, .inr ⟨od, ha⟩, key_rep r2 q1, g1.symm⟩, HQ v H O A' m' r'⟩))⟩
              · subst ep
                replace e : (if isOwn z = true then none else some (z, L)) = some (t, L2) := e
                by_cases ho : isOwn z = true
                · rw [if_pos ho] at e; cases e
                · rw [if_neg ho] at e
                  exact main (by simpa using ho) e
    · -- d.get(k, x)
      rename_i o ks xs k d p q' r'
      obtain ⟨x, y, w, C1, C2, C3, e1, e2, h1, h2, h3⟩ := r.three
      cases e1
      obtain ⟨er1, er2, er3⟩ := rds_three q
      cases pr with
      | cons r1 pr => cases pr with
        | cons r2 pr => cases pr with
          | cons r3 pr =>
            unfold getD at e
            cases q1 : keyOf k with
            | none => rw [q1] at e; cases e
            | some kk =>
              rw [q1] at e
              replace e : (match (generalizing := false) dget kk ks xs with | some x => if isOwn x then none else some (x, L) | none => match (generalizing := false) r' with | .v t => some (t, L) | .s _ _ => if isOwn d then none else some (d, L)) = some (t, L2) := e
              obtain ⟨C, rc, hC⟩ := opd_rep m h1 er1
              cases q2 : dget kk ks xs with
              | some z =>
                rw [q2] at e
                replace e : (if isOwn z = true then none else some (z, L)) = some (t, L2) := e
                by_cases ho : isOwn z = true
                · rw [if_pos ho] at e; cases e
                · rw [if_neg ho] at e
                  have e1 : t = z := by cases e; rfl
                  have e2 : L2 = L := by cases e; rfl
                  subst e1 e2
                  obtain ⟨a, ws, v, g1, g2, g3, rs, sh⟩ := kidS_dic rc q2 (by simpa using ho)
                  obtain ⟨m', r'⟩ := m.sc rs sh
                  exact ⟨_, _, _, rfl, a, some v, g1, .inl ⟨_, kk, .inl g2, key_rep r2 q1, g3.symm⟩, HQ v H O [] m' r'⟩
              | none =>
                rw [q2] at e
                obtain ⟨a, vs, ev, ha, n1, hl, rk⟩ := r1
                have g3 := (dget_val kk ks xs vs hl rk).2 q2
                have dg : DGet H a y none := .inl ⟨_, kk, .inl ha, key_rep r2 q1, g3.symm⟩
                obtain ⟨Cd, rd', hD⟩ := opd_rep m h3 er3
                rcases hD with ⟨t0, ep, eC⟩ | ⟨i, js, ep, sC⟩
                · subst ep eC
                  replace e : some (t0, L) = some (t, L2) := e
                  have e1 : t = t0 := by cases e; rfl
                  have e2' : L2 = L := by cases e; rfl
                  have e3 : t0 = d := Option.some.inj er3
                  subst e1 e2' e3
                  have sub : Cd.Sublist A := by rw [e2]; exact (List.sublist_append_right C2 Cd).trans (List.sublist_append_right C1 _)
                  obtain ⟨A', m', r'⟩ := hand (p := .v t) m sub (m.nd.sublist sub) rd' (.inl ⟨t, rfl, fun _ z => z⟩)
                  exact ⟨_, _, _, rfl, a, none, ev, dg, HQ w H O A' m' r'⟩
                · subst ep
                  replace e : (if isOwn d = true then none else some (d, L)) = some (t, L2) := e
                  by_cases ho : isOwn d = true
                  · rw [if_pos ho] at e; cases e
                  · rw [if_neg ho] at e
                    have e1 : t = d := by cases e; rfl
                    have e2' : L2 = L := by cases e; rfl
                    subst e1 e2'
                    obtain ⟨_, rs, sh⟩ := rd'.nil (by simpa using ho)
                    obtain ⟨m', r'⟩ := m.sc rs sh
                    exact ⟨_, _, _, rfl, a, none, ev, dg, HQ w H O [] m' r'⟩
    · -- two lists
      rename_i o1 xs o2 ys p q'
      obtain ⟨x, y, C1, C2, e1, e2, h1, h2⟩ := r.two
      cases e1
      unfold catRun at e
      cases k1 : kidL p L with
      | none => rw [k1] at e; cases e
      | some r1 =>
        obtain ⟨us, L3⟩ := r1
        rw [k1] at e
        replace e : (kidL q' L3).bind (fun b => if us.length + b.1.length ≤ LINE then some (T.lst true (us ++ b.1), b.2) else none) = some (t, L2) := e
        cases k2 : kidL q' L3 with
        | none => rw [k2] at e; cases e
        | some r2 =>
          obtain ⟨zs, L4⟩ := r2
          rw [k2] at e
          replace e : (if us.length + zs.length ≤ LINE then some (T.lst true (us ++ zs), L4) else none) = some (t, L2) := e
          by_cases hl : us.length + zs.length ≤ LINE
          · rw [if_pos hl] at e
            have e1 : t = T.lst true (us ++ zs) := by cases e; rfl
            have e2' : L2 = L4 := by cases e; rfl
            subst e1 e2'
            have sub1 : C1.Sublist A := by rw [e2]; exact List.sublist_append_left C1 C2
            have sub2 : C2.Sublist A := by rw [e2]; exact List.sublist_append_right C1 C2
            obtain ⟨a, vs, O2, B1, ev, ha, s1, m2, sB1, rk1⟩ := kidL_sound m h1 sub1 k1
            obtain ⟨b, ws, O3, B2, ew, hb, s2, m3, sB2, rk2⟩ := kidL_sound m2 (h2.shrink s1) sub2 k2
            have rk1' := rk1.later1 (Z' := Zz O3 A F) fun c z => z.imp (s2 c) id
            have sub : (B1 ++ B2).Sublist A := by rw [e2]; exact List.Sublist.append sB1 sB2
            refine ⟨_, _, rfl, .inr (.inr (.inl ⟨a, b, vs, ws, ev, ew, ha, hb, ?_, fun p hp => ?_⟩))⟩
            · rw [← rk1.length, ← rk2.length]; exact hl
            · obtain ⟨m4, r4⟩ := alloc_lst m3 (rk1'.append rk2) (fun c hc => sub.subset hc) (m3.nd.sublist sub) hp
              exact HQ _ _ _ _ m4 r4
          · rw [if_neg hl] at e; cases e
    · -- two lists
      rename_i o1 xs o2 ys p q'
      obtain ⟨x, y, C1, C2, e1, e2, h1, h2⟩ := r.two
      cases e1
      unfold catTRun at e
      cases k1 : kidT p L with
      | none => rw [k1] at e; cases e
      | some r1 =>
        obtain ⟨us, L3⟩ := r1
        rw [k1] at e
        replace e : (kidT q' L3).bind (fun b => if us.length + b.1.length ≤ LINE ∧ us ≠ [] ∧ b.1 ≠ [] then some (T.tup true (us ++ b.1), b.2) else none) = some (t, L2) := e
        cases k2 : kidT q' L3 with
        | none => rw [k2] at e; cases e
        | some r2 =>
          obtain ⟨zs, L4⟩ := r2
          rw [k2] at e
          replace e : (if us.length + zs.length ≤ LINE ∧ us ≠ [] ∧ zs ≠ [] then some (T.tup true (us ++ zs), L4) else none) = some (t, L2) := e
          by_cases hl : us.length + zs.length ≤ LINE ∧ us ≠ [] ∧ zs ≠ []
          · rw [if_pos hl] at e
            have e1 : t = T.tup true (us ++ zs) := by cases e; rfl
            have e2' : L2 = L4 := by cases e; rfl
            subst e1 e2'
            have sub1 : C1.Sublist A := by rw [e2]; exact List.sublist_append_left C1 C2
            have sub2 : C2.Sublist A := by rw [e2]; exact List.sublist_append_right C1 C2
            obtain ⟨a, vs, O2, B1, ev, ha, s1, m2, sB1, rk1⟩ := kidT_sound m h1 sub1 k1
            obtain ⟨b, ws, O3, B2, ew, hb, s2, m3, sB2, rk2⟩ := kidT_sound m2 (h2.shrink s1) sub2 k2
            have rk1' := rk1.later1 (Z' := Zz O3 A F) fun c z => z.imp (s2 c) id
            have sub : (B1 ++ B2).Sublist A := by rw [e2]; exact List.Sublist.append sB1 sB2
            have n1 : vs ≠ [] := fun z => hl.2.1 (List.length_eq_zero_iff.mp (by rw [rk1.length, z]; rfl))
            have n2 : ws ≠ [] := fun z => hl.2.2 (List.length_eq_zero_iff.mp (by rw [rk2.length, z]; rfl))
            refine ⟨_, _, rfl, .inr (.inr (.inr ⟨a, b, vs, ws, ev, ew, .inl (.inl ha), .inl (.inl hb), ?_, fun z => absurd z n1, fun _ z => absurd z n2, fun _ _ p hp => ?_⟩))⟩
            · rw [← rk1.length, ← rk2.length]; exact hl.1
            · obtain ⟨m4, r4⟩ := alloc_tup m3 (rk1'.append rk2) (fun c hc => sub.subset hc) (m3.nd.sublist sub) hp
              exact HQ _ _ _ _ m4 r4
          · rw [if_neg hl] at e; cases e
    · -- a text's front
      rename_i s h
      cases pr with
      | cons r1 pr => cases pr with
        | cons r2 pr =>
          cases pr
          unfold slcS at e
          split at e
          · rename_i hl
            exact ⟨_, h, by rw [show _ = V.int h from r2], .inr ⟨s, r1.1, hl, scal (.str (cutS s none (some h))) (okS_cut r1.2 _ _) e rfl⟩⟩
          · cases e
    · rename_i s h
      cases pr with
      | cons r1 pr => cases pr with
        | cons r2 pr =>
          cases pr
          unfold slcS at e
          split at e
          · rename_i hl
            exact ⟨_, h, by rw [show _ = V.int h from r2], .inr ⟨s, r1.1, hl, scal (.str (cutS s (some h) none)) (okS_cut r1.2 _ _) e rfl⟩⟩
          · cases e
    · rename_i s l h
      cases pr with
      | cons r1 pr => cases pr with
        | cons r2 pr => cases pr with
          | cons r3 pr =>
            cases pr
            unfold slcS at e
            split at e
            · rename_i hl
              exact ⟨_, l, h, by rw [show _ = V.int l from r2, show _ = V.int h from r3], .inr ⟨s, r1.1, hl, scal (.str (cutS s (some l) (some h))) (okS_cut r1.2 _ _) e rfl⟩⟩
            · cases e
    · rename_i o xs h p q'
      obtain ⟨x, y, C1, C2, e1, e2, h1, h2⟩ := r.two
      cases e1
      cases pr with
      | cons r1 pr => cases pr with
        | cons r2 pr => exact ⟨_, h, by rw [show _ = V.int h from r2], .inl (slcL_sound m h1 (by rw [e2]; exact List.sublist_append_left C1 C2) e HQ)⟩
    · rename_i o xs h p q'
      obtain ⟨x, y, C1, C2, e1, e2, h1, h2⟩ := r.two
      cases e1
      cases pr with
      | cons r1 pr => cases pr with
        | cons r2 pr => exact ⟨_, h, by rw [show _ = V.int h from r2], .inl (slcL_sound m h1 (by rw [e2]; exact List.sublist_append_left C1 C2) e HQ)⟩
    · rename_i o xs l h p q' r'
      obtain ⟨x, y, z, C1, C2, C3, e1, e2, h1, h2, h3⟩ := r.three
      cases e1
      cases pr with
      | cons r1 pr => cases pr with
        | cons r2 pr => cases pr with
          | cons r3 pr => exact ⟨_, l, h, by rw [show _ = V.int l from r2, show _ = V.int h from r3], .inl (slcL_sound m h1 (by rw [e2]; exact List.sublist_append_left C1 _) e HQ)⟩
    · -- list(x)
      rename_i o xs p
      obtain ⟨x, e1, h1⟩ := r.one
      cases e1
      obtain ⟨⟨us, L3⟩, k1, k2⟩ := Option.map_eq_some_iff.mp e
      have e1 : t = T.lst true us := by cases k2; rfl
      have e2' : L2 = L3 := by cases k2; rfl
      subst e1 e2'
      obtain ⟨a, vs, O2, B1, ev, ha, s1, m2, sB1, rk1⟩ := kidL_sound m h1 (List.Sublist.refl _) k1
      refine ⟨a, vs, by rw [ev], .inl (SqL.of ha), fun p hp => ?_⟩
      obtain ⟨m4, r4⟩ := alloc_lst m2 rk1 (fun c hc => sB1.subset hc) (m2.nd.sublist sB1) hp
      exact HQ _ _ _ _ m4 r4
    · -- list(tuple)
      rename_i o xs p
      obtain ⟨x, e1, h1⟩ := r.one
      cases e1
      obtain ⟨⟨us, L3⟩, k1, k2⟩ := Option.map_eq_some_iff.mp e
      have e1 : t = T.lst true us := by cases k2; rfl
      have e2' : L2 = L3 := by cases k2; rfl
      subst e1 e2'
      obtain ⟨a, vs, O2, B1, ev, ha, s1, m2, sB1, rk1⟩ := kidT_sound m h1 (List.Sublist.refl _) k1
      refine ⟨a, vs, by rw [ev], .inr (.inl (.inl ha)), fun p hp => ?_⟩
      obtain ⟨m4, r4⟩ := alloc_lst m2 rk1 (fun c hc => sB1.subset hc) (m2.nd.sublist sB1) hp
      exact HQ _ _ _ _ m4 r4
    · -- tuple(x)
      rename_i o xs p
      obtain ⟨x, e1, h1⟩ := r.one
      cases e1
      obtain ⟨⟨us, L3⟩, k1, k2⟩ := Option.map_eq_some_iff.mp e
      have e1 : t = T.tup true us := by cases k2; rfl
      have e2' : L2 = L3 := by cases k2; rfl
      subst e1 e2'
      obtain ⟨a, vs, O2, B1, ev, ha, s1, m2, sB1, rk1⟩ := kidL_sound m h1 (List.Sublist.refl _) k1
      refine ⟨a, vs, by rw [ev], .inl ⟨.inl (.inl ha), fun p hp => ?_⟩⟩
      obtain ⟨m4, r4⟩ := alloc_tup m2 rk1 (fun c hc => sB1.subset hc) (m2.nd.sublist sB1) hp
      exact HQ _ _ _ _ m4 r4
    · -- sorted(x)
      rename_i o xs p
      obtain ⟨x, e1, h1⟩ := r.one
      cases e1
      unfold sortL at e
      cases k1 : kidL p L with
      | none => rw [k1] at e; cases e
      | some r1 =>
        obtain ⟨us, L3⟩ := r1
        rw [k1] at e
        replace e : (sortT us).map (fun xs => (T.lst true xs, L3)) = some (t, L2) := e
        obtain ⟨zs, k2, k3⟩ := Option.map_eq_some_iff.mp e
        have e1 : t = T.lst true zs := by cases k3; rfl
        have e2' : L2 = L3 := by cases k3; rfl
        subst e1 e2'
        obtain ⟨a, vs, O2, B1, ev, ha, s1, m2, sB1, rk1⟩ := kidL_sound m h1 (List.Sublist.refl _) k1
        subst ev
        unfold sortT at k2
        cases q0 : sortT0 us with
        | some zs0 =>
          rw [q0] at k2
          have k2 : some zs0 = some zs := k2
          cases k2
          obtain ⟨h4, h5⟩ := sortT_sound q0 (RepOs_read rk1)
          refine rSort_of (ha := ha) h4 fun ws p hw hp => ?_
          obtain ⟨m4, r4⟩ := alloc_lst m2 (h5 ws hw) (B := []) (fun _ z => by cases z) .nil hp
          exact HQ _ _ _ _ m4 r4
        | none =>
          rw [q0] at k2
          have k2 : (if srtD us then some (us.mergeSort leT) else none) = some zs := k2
          by_cases hd : srtD us = true
          · rw [if_pos hd] at k2
            cases k2
            refine srtD_sound ha hd rk1 fun ws B' p pB r' hp => ?_
            obtain ⟨m4, r4⟩ := alloc_lst m2 r' (fun c hc => sB1.subset (pB.mem_iff.mp hc)) (pB.nodup_iff.mpr (m2.nd.sublist sB1)) hp
            exact HQ _ _ _ _ m4 r4
          · rw [if_neg hd] at k2; cases k2
    · -- sorted(set(x))
      rename_i o xs p
      obtain ⟨x, e1, h1⟩ := r.one
      cases e1
      unfold sortSetL at e
      cases k1 : kidL p L with
      | none => rw [k1] at e; cases e
      | some r1 =>
        obtain ⟨us, L3⟩ := r1
        rw [k1] at e
        replace e : (strsOf us).bind (fun ss => if ss.length < 64 then some (T.lst true ((strSet ss).map T.str), L3) else none) = some (t, L2) := e
        cases k2 : strsOf us with
        | none => rw [k2] at e; cases e
        | some ss =>
          rw [k2] at e
          replace e : (if ss.length < 64 then some (T.lst true ((strSet ss).map T.str), L3) else none) = some (t, L2) := e
          by_cases hl : ss.length < 64
          · rw [if_pos hl] at e
            have e1 : t = T.lst true ((strSet ss).map T.str) := by cases e; rfl
            have e2' : L2 = L3 := by cases e; rfl
            subst e1 e2'
            obtain ⟨a, vs, O2, B1, ev, ha, s1, m2, sB1, rk1⟩ := kidL_sound m h1 (List.Sublist.refl _) k1
            subst ev
            obtain ⟨ev, ok⟩ := strs_rep (RepOs_read rk1) k2
            subst ev
            refine ⟨a, ss, rfl, .inl (.inl ha), hl, fun ys b q o so nd mem hb hq => ?_⟩
            rw [strSet_uniq so nd mem]
            have m3 := m2.alloc (o := o) hb (B := []) (fun _ z => by cases z) .nil
            obtain ⟨m4, r4⟩ := alloc_lst m3 (strs_new (fun s hs => ok s (strSet_mem.mp hs))) (B := []) (fun _ z => by cases z) .nil hq
            exact HQ _ _ _ _ m4 r4
          · rw [if_neg hl] at e; cases e
    · -- list(range(b))
      rename_i b
      cases pr with
      | cons r1 pr =>
        cases pr
        obtain rfl : _ = V.int b := r1
        exact ⟨0, b, .inl ⟨rfl, rfl⟩, rgRun_sound m e HQ⟩
    · -- list(range(a, b))
      rename_i a b
      cases pr with
      | cons r1 pr =>
        cases pr with
        | cons r2 pr =>
          cases pr
          obtain rfl : _ = V.int a := r1
          obtain rfl : _ = V.int b := r2
          exact ⟨a, b, .inr rfl, rgRun_sound m e HQ⟩
    · obtain ⟨u, e1, e2⟩ := Option.map_eq_some_iff.mp e
      obtain ⟨s, k⟩ := sop_sound e1 pr
      exact k Q (scal u s (by rw [e2]) rfl)
end
end TV

set_option Elab.async false
set_option linter.all false
set_option maxRecDepth 100000
set_option maxHeartbeats 4000000
/-! TV13: the text read as the small language; names, constants, paths. -/
namespace TV
open PySem PySem.Spec PyProof.Rows L2

/-- what a def may name: its own slots, built-in names, the module's constants, the defs -/
structure Gm where
  N : List Str
  bs : List Str
  cs : List (Str × T)
  fs : List (Str × String)
abbrev Rc := Scope → Expr → Ex → Bool
def visB (sc : Scope) (x : Str) : Bool := match sc.names.lookup x with
  | some .local => true
  | some .cell => true
  | some .free => true
  | _ => false
def nmOk (x : Str) : Bool := !(x == ("__debug__" : Str)) && !(x == ("__classdict__" : Str))
def glB (sc : Scope) (x : Str) : Bool := decide (sc.names.lookup x = some .globalImplicit) && nmOk x
def mVar (Γ : Gm) (sc : Scope) (i : Nat) (e : Expr) : Bool := match e with
  | .Name x _ => decide (Γ.N[i]? = some x) && visB sc x && nmOk x
  | _ => false
def scEq : T → T → Bool
  | .int i, .int j => decide (i = j)
  | .str s, .str t => decide (s = t)
  | _, _ => false
def mCst (Γ : Gm) (sc : Scope) (c : T) (e : Expr) : Bool := match e with
  | .Constant (.int i) _ _ => match c with | .int j => decide (i = j) | _ => false
  | .Constant (.bool i) _ _ => match c with | .bl j => decide (i = j) | _ => false
  | .Constant .none _ _ => match c with | .non => true | _ => false
  | .Constant (.str s) _ _ => match c with | .str t => decide (s = t) && PyData.strOk t | _ => false
  | .UnaryOp .USub (.Constant (.int i) _ _) _ => match c with | .int j => decide (-i = j) | _ => false
  | .Name x _ => glB sc x && (match Γ.cs.lookup x with | some d => scEq c d | none => false)
  | _ => false
def ixC : Expr → Option Int
  | .Constant (.int k) _ _ => some k
  | _ => none
/-- x[k1][k2].., the places from the last -/
def mPth (Γ : Gm) (sc : Scope) (i : Nat) : List Int → Expr → Bool
  | [], e => mVar Γ sc i e
  | k :: ks, e => match e with
    | .Subscript a b _ => decide (ixC b = some k) && mPth Γ sc i ks a
    | _ => false
def mSimp (Γ : Gm) (sc : Scope) (e : Expr) (m : Ex) : Bool := match m with
  | .var i => mVar Γ sc i e
  | .cst c => mCst Γ sc c e
  | .pth i ks => mPth Γ sc i ks.reverse e
  | _ => false

/-- the context serves what the checker supposes -/
structure CxOk (Γ : Gm) (X : Cx) (W : WX) : Prop where
  hN : X.N = Γ.N
  nd : X.N.Nodup
  calm : X.calm = true
  un : X.A.units + 70 < cLine
  tk : Takes X W
  gb : ∀ x ∈ Γ.bs, X.mg x = none
  gc : ∀ x c, Γ.cs.lookup x = some c → ∃ v u, X.mg x = some u ∧ RelV v u ∧ ∀ H Z, RepO X.K H Z c v []
theorem _root_.L2.PE.to {X : Cx} {e : Expr} {t t' : TE} (h : PE X e t) (w : ∀ σ H Q, t' σ H Q → t σ H Q) : PE X e t' := ⟨fun pins s σ H Q I q => h.run pins s σ H Q I (w σ H Q q)⟩
theorem _root_.L2.PT.to {X : Cx} {e : Expr} {t t' : TT} (h : PT X e t) (w : ∀ σ H Q, t' σ H Q → t σ H Q) : PT X e t' := ⟨fun pins s σ H Q I q => h.run pins s σ H Q I (w σ H Q q)⟩
theorem _root_.L2.PA.to {X : Cx} {e : List Expr} {t t' : TA} (h : PA X e t) (w : ∀ σ H Q, t' σ H Q → t σ H Q) : PA X e t' := ⟨fun pos pins s σ H Q I q => h.run pos pins s σ H Q I (w σ H Q q)⟩

/-- the value of an operand that changes nothing -/
def SimV (K : PySem.W.Frag) (H : Hp) (σ : Sg) : Opd → V → Prop
  | .v t, v => ∀ Z, RepO K H Z t v []
  | .s i ks, v => ∃ v0, σ[i]? = some (some v0) ∧ PathV H v0 ks v
def SimVs (K : PySem.W.Frag) (H : Hp) (σ : Sg) : List Opd → List V → Prop
  | [], vs => vs = []
  | p :: ps, vs => ∃ v vr, vs = v :: vr ∧ SimV K H σ p v ∧ SimVs K H σ ps vr
theorem SimV.rep {K : PySem.W.Frag} {H : Hp} {σ : Sg} {Z : Fb} {p : Opd} {v : V} (h : SimV K H σ p v) : RepQ K H Z σ p v [] := by
  cases p with
  | v t => exact h Z
  | s i ks => exact ⟨rfl, h⟩
theorem SimVs.rep {K : PySem.W.Frag} {H : Hp} {σ : Sg} {Z : Fb} : ∀ {ps : List Opd} {vs : List V}, SimVs K H σ ps vs → RepQs K H Z σ ps vs []
  | [], _, h => ⟨h, rfl⟩
  | p :: ps, _, ⟨v, vr, ev, h1, h2⟩ => ⟨v, vr, [], [], ev, rfl, h1.rep, h2.rep⟩

section
variable {Γ : Gm} {X : Cx} {W : WX} {Φ : Funs} {sg : String → List Bool}
theorem visB_vis {sc : Scope} {x : Str} (h : visB sc x = true) : Vis sc x := by
  unfold visB at h
  split at h
  · exact .inl (by assumption)
  · exact .inr (.inl (by assumption))
  · exact .inr (.inr (by assumption))
  · cases h
theorem nmOk_1 {x : Str} (h : nmOk x = true) : (x == ("__debug__" : Str)) = false := by
  unfold nmOk at h; simp at h; simpa using h.1
theorem nmOk_2 {x : Str} (h : nmOk x = true) : (x == ("__classdict__" : Str)) = false := by
  unfold nmOk at h; simp at h; simpa using h.2
theorem glB_gl {x : Str} (h : glB X.env.scope x = true) : Gl X x ∧ (x == ("__debug__" : Str)) = false := by
  unfold glB at h
  rw [Bool.and_eq_true] at h
  exact ⟨(of_decide_eq_true h.1 : X.env.scope.names.lookup x = some .globalImplicit), nmOk_1 h.2⟩
theorem mVar_sound (C : CxOk Γ X W) {i : Nat} {e : Expr} (h : mVar Γ X.env.scope i e = true) : PE X e (tVar i) := by
  unfold mVar at h
  split at h
  · rw [Bool.and_eq_true, Bool.and_eq_true] at h
    exact pe_var (by rw [C.hN]; exact of_decide_eq_true h.1.1) (visB_vis h.1.2) (nmOk_1 h.2) (nmOk_2 h.2)
  · cases h
/-- a constant's reading -/
def tK (K : PySem.W.Frag) (c : T) : TE := fun _ H Q => ∀ v, (∀ Z, RepO K H Z c v []) → Q v H
theorem scEq_eq {c d : T} (h : scEq c d = true) : c = d := by
  cases c <;> cases d <;> first | (exact congrArg _ (of_decide_eq_true h)) | cases h
theorem mCst_sound (C : CxOk Γ X W) {c : T} {e : Expr} (h : mCst Γ X.env.scope c e = true) : PE X e (tK X.K c) := by
  unfold mCst at h
  split at h
  · split at h
    · have e := of_decide_eq_true h; subst e
      exact pe_int.to fun σ H Q q => q _ fun Z => ⟨rfl, rfl⟩
    · cases h
  · split at h
    · have e := of_decide_eq_true h; subst e
      exact pe_bl.to fun σ H Q q => q _ fun Z => ⟨rfl, rfl⟩
    · cases h
  · split at h
    · exact pe_non.to fun σ H Q q => q _ fun Z => ⟨rfl, rfl⟩
    · cases h
  · split at h
    · rw [Bool.and_eq_true] at h
      have e := of_decide_eq_true h.1; subst e
      exact pe_str.to fun σ H Q q => q _ fun Z => ⟨⟨rfl, h.2⟩, rfl⟩
    · cases h
  · split at h
    · have e := of_decide_eq_true h; subst e
      exact (pe_un un_neg pe_int).to fun σ H Q q => ⟨_, rfl, q _ fun Z => ⟨rfl, rfl⟩⟩
    · cases h
  · rw [Bool.and_eq_true] at h
    obtain ⟨h1, h2⟩ := glB_gl h.1
    split at h
    · rename_i d e
      have h3 := scEq_eq h.2
      subst h3
      obtain ⟨v, u, g1, g2, g3⟩ := C.gc _ _ e
      exact (pe_glob h1 g1 g2 h2).to fun σ H Q q => q v fun Z => g3 H Z
    · cases h.2
  · cases h
theorem mCst_nlk {sc : Scope} {c : T} {e : Expr} (h : mCst Γ sc c e = true) : isLkd c = false := by
  cases c <;> first | rfl | skip
  exfalso
  unfold mCst at h
  split at h
  · cases h
  · cases h
  · cases h
  · cases h
  · cases h
  · rw [Bool.and_eq_true] at h
    have h2 := h.2
    split at h2
    · have := scEq_eq h2; subst this; cases h2
    · cases h2
  · cases h
theorem shr_nlk {t : T} (h : shr t = true) : isLkd t = false := by cases t <;> first | rfl | cases h
def tPth (i : Nat) (ks : List Int) : TE := fun σ H Q => ∃ v0 v, σ[i]? = some (some v0) ∧ PathV H v0 ks v ∧ Q v H
theorem PathV.snoc {H : Hp} : ∀ {ks : List Int} {v0 v : V} {k : Int}, PathV H v0 (ks ++ [k]) v → ∃ a vs, PathV H v0 ks (.ref a) ∧ (H a = some (.lst vs) ∨ H a = some (.tup vs)) ∧ atI vs k = some v
  | [], v0, v, k, ⟨a, vs, v1, e, h, q, p⟩ => by
    have p : v = v1 := p
    subst p
    exact ⟨a, vs, e.symm, h, q⟩
  | k0 :: ks, v0, v, k, ⟨a, vs, v1, e, h, q, p⟩ => by
    obtain ⟨b, ws, p1, h1, q1⟩ := PathV.snoc p
    exact ⟨b, ws, ⟨a, vs, v1, e, h, q, p1⟩, h1, q1⟩
theorem ixC_some {b : Expr} {k : Int} (h : ixC b = some k) : ∃ j pos, b = .Constant (.int k) j pos := by
  unfold ixC at h
  split at h
  · cases h; exact ⟨_, _, rfl⟩
  · cases h
theorem mPth_sound (C : CxOk Γ X W) {i : Nat} : ∀ {ks : List Int} {e : Expr}, mPth Γ X.env.scope i ks e = true → PE X e (tPth i ks.reverse)
  | [], e, h => (mVar_sound C h).to fun σ H Q ⟨v0, v, h1, h2, h3⟩ => ⟨v, by rw [show v = v0 from h2]; exact h1, h3⟩
  | k :: ks, e, h => by
    unfold mPth at h
    split at h
    · rw [Bool.and_eq_true] at h
      obtain ⟨j, pos, eb⟩ := ixC_some (of_decide_eq_true h.1)
      subst eb
      refine (pe_ix (ixAll (by have := C.un; omega)) (mPth_sound C h.2) pe_int fun _ _ => rfl).to fun σ H Q ⟨v0, v, h1, h2, h3⟩ => ?_
      rw [List.reverse_cons] at h2
      obtain ⟨a, vs, p, g, q⟩ := h2.snoc
      refine ⟨v0, _, h1, p, ?_⟩
      rcases g with g | g
      · exact .inl ⟨a, vs, k, v, rfl, rfl, Or.inl (Or.inl g), q, h3⟩
      · exact .inr (.inl ⟨a, vs, k, v, rfl, rfl, Or.inl (Or.inl g), q, h3⟩)
    · cases h

/-- the reading of an operand that changes nothing -/
def tS (K : PySem.W.Frag) (Φ : Funs) (sg : String → List Bool) (m : Ex) : TE := fun σ H Q => ∃ F L O p, StOk K H F σ L O ∧ evo m true (ev Φ sg m) L = .ok p L ∧ ∀ v, SimV K H σ p v → Q v H
theorem onO_inv {α β : Type} {x : Option α} {k : α → Out β} {b : β} {L : Slots} (h : onO x k = .ok b L) : ∃ a, x = some a ∧ k a = .ok b L := by
  cases x with
  | none => cases h
  | some a => exact ⟨a, rfl, h⟩
theorem mSimp_sound (C : CxOk Γ X W) {e : Expr} {m : Ex} (h : mSimp Γ X.env.scope e m = true) : PE X e (tS X.K Φ sg m) := by
  unfold mSimp at h
  split at h
  · rename_i i
    refine (mVar_sound C h).to fun σ H Q ⟨F, L, O, p, st, e, q⟩ => ?_
    obtain ⟨t, e1, e2⟩ := onO_inv (show onO (slot L i) (fun _ => .ok (.s i []) L) = .ok p L from e)
    obtain ⟨v, hv, r⟩ := st.slotv e1
    cases e2
    exact ⟨v, hv, q v ⟨v, hv, rfl⟩⟩
  · rename_i c
    refine (mCst_sound C h).to fun σ H Q ⟨F, L, O, p, st, e, q⟩ v r => ?_
    cases (show Out.ok (Opd.v c) L = .ok p L from e)
    exact q v r
  · rename_i i ks
    refine (mPth_sound C h).to fun σ H Q ⟨F, L, O, p, st, e, q⟩ => ?_
    rw [List.reverse_reverse]
    obtain ⟨t, e1, e2⟩ := onO_inv (show onO (rd L (.s i ks)) (fun _ => .ok (.s i ks) L) = .ok p L from e)
    cases e2
    replace e1 : (slot L i).bind (fun t => pathT t ks) = some t := e1
    cases q1 : slot L i with
    | none => rw [q1] at e1; cases e1
    | some u =>
      rw [q1] at e1
      obtain ⟨v0, hv, r⟩ := st.slotv q1
      obtain ⟨v, pv, r'⟩ := RepS.pathV ks r e1
      exact ⟨v0, v, hv, pv, q v ⟨v0, hv, pv⟩⟩
  · cases h
theorem mSimp_full (C : CxOk Γ X W) {e : Expr} {m : Ex} (h : mSimp Γ X.env.scope e m = true) : PE X e (tD X.K X.mg W (ev Φ sg m)) := by
  unfold mSimp at h
  split at h
  · rename_i i
    refine (mVar_sound C h).to fun σ H Q ⟨F, L, O, st, a⟩ => ?_
    obtain ⟨t, e1, a⟩ := Aft.onO (k := fun t => if isLkd t then .stuck else .ok (frz t) (L.set i (some (frz t)))) a
    by_cases hk : isLkd t = true
    · rw [if_pos hk] at a; exact a.elim
    · rw [if_neg hk] at a
      obtain ⟨v, O2, h1, h2, h3, h4⟩ := st.freeze e1 (by simpa using hk)
      have m0 : Mid X.K H O H F σ (L.set i (some (frz t))) O2 [] := (Mid.start st).shrink (h3.less fun a z => z.elim (fun q => by cases q) id) h2
      exact ⟨v, h1, a H O2 [] m0 v (by rw [isLkd_frz]; simpa using hk) ((h4.held0 (RepS.shrF _ _ (RepS.later1 (Z' := fun _ => False) ((st.slotv e1).elim fun w hw => by rw [h1] at hw; cases hw.1; exact hw.2) fun _ z => z.elim) (by simpa using hk))).later1 fun b z => z.elim .inl fun z => z.elim (fun q => by cases q) .inr)⟩
  · rename_i c
    exact (mCst_sound C h).to fun σ H Q ⟨F, L, O, st, a⟩ v r => a H O [] (Mid.start st) v (mCst_nlk h) (r _)
  · rename_i i ks
    refine (mPth_sound C h).to fun σ H Q ⟨F, L, O, st, a⟩ => ?_
    rw [List.reverse_reverse]
    obtain ⟨u, e1, a⟩ := Aft.onO (k := fun u => if shr u then .ok u L else .stuck) a
    by_cases hs : shr u = true
    · rw [if_pos hs] at a
      replace e1 : (slot L i).bind (fun t => pathT t ks) = some u := e1
      cases q1 : slot L i with
      | none => rw [q1] at e1; cases e1
      | some t =>
        rw [q1] at e1
        obtain ⟨v0, A, O', h1, p, r, nd, df, _⟩ := st.swap q1
        obtain ⟨v, pv, r0⟩ := RepS.pathV ks (RepO_read r) e1
        have rs := (RepO.pathShared ks r e1 (shr_own hs) pv).1
        refine ⟨v0, v, h1, pv, a H O [] (Mid.start st) v (shr_nlk hs) ((rs.held0 hs).later1 fun b z => ?_)⟩
        rcases z with z | z | z
        · exact (List.mem_append.mp (p.mem_iff.mp z)).elim (fun z => .inr (.inl z)) .inl
        · cases z
        · exact .inr (.inr z)
    · rw [if_neg hs] at a; exact a.elim
  · cases h
end
end TV

set_option Elab.async false
set_option linter.all false
set_option maxRecDepth 100000
set_option maxHeartbeats 4000000
/-! TV14: operands in a row; operations; displays; truths. -/
namespace TV
open PySem PySem.Spec PyProof.Rows L2

def notStar : Expr → Bool
  | .Starred _ _ => false
  | _ => true
def mats (rec : Rc) (sc : Scope) : List Expr → Exs → Bool
  | [], .nil => true
  | e :: es, .cons m ms => rec sc e m && notStar e && mats rec sc es ms
  | _, _ => false
def isIf : Expr → Bool
  | .IfExp _ _ _ _ => true
  | _ => false
def plainT : Expr → Bool
  | .UnaryOp .Not _ _ => false
  | .BoolOp _ _ _ => false
  | .IfExp _ _ _ _ => false
  | .Compare _ _ _ _ => false
  | _ => true

/-- operands in a row, from the left -/
def PEs (X : Cx) : List Expr → TA → Prop
  | [], t => ∀ σ H R, t σ H R → R [] H
  | e :: es, t => notStar e = true ∧ ∃ te ts, PE X e te ∧ PEs X es ts ∧ ∀ σ H R, t σ H R → te σ H fun x H1 => ts σ H1 fun xs H2 => R (x :: xs) H2
structure Snd (Γ : Gm) (X : Cx) (W : WX) (Φ : Funs) (sg : String → List Bool) (rec : Rc) : Prop where
  pe : ∀ e m, rec X.env.scope e m = true → PE X e (tD X.K X.mg W (ev Φ sg m))
  sm : ∀ e m, rec X.env.scope e m = true → simp1 m = true → mSimp Γ X.env.scope e m = true
  pt : ∀ e m, rec X.env.scope e m = true → isIf e = false → PT X e (tT X.K X.mg W (evb Φ sg m))

section
variable {Γ : Gm} {X : Cx} {W : WX} {Φ : Funs} {sg : String → List Bool} {rec : Rc}
theorem star_cons {e : Expr} {es : List Expr} {env : Env} (h : notStar e = true) : starEach (e :: es) env = (false, eval e env) :: starEach es env := by
  cases e <;> first | rfl | cases h
theorem PEs.pa : ∀ {es : List Expr} {t : TA}, PEs X es t → PA X es t
  | [], t, h => pa_nil.to h
  | e :: es, t, ⟨hs, te, ts, h1, h2, w⟩ => (pa_cons h1 h2.pa (star_cons hs)).to w
theorem PEs.star : ∀ {es : List Expr} {t : TA} {pos : Pos} {env : Env}, PEs X es t → (backTo pos (starEach es env)).any (·.1) = false
  | [], _, pos, env, _ => rfl
  | e :: es, t, pos, env, ⟨hs, te, ts, h1, h2, w⟩ => by
    rw [star_cons hs]
    show (false || (backTo pos (starEach es env)).any (·.1)) = false
    rw [h2.star] <;> rfl
def tM (t : TE) : TE := fun σ H Q => ∃ Q' : VK, t σ H Q' ∧ ∀ v H', Q' v H' → Q v H'
theorem peM {e : Expr} {t : TE} (h : PE X e t) : PE X e (tM t) :=
  ⟨fun pins s σ H Q I ⟨Q', q, k⟩ => thn (h.run pins s σ H Q' I q) fun _ _ ⟨v, H', I', r, q'⟩ => ⟨v, H', I', r, k v H' q'⟩⟩
theorem PEs.one {a : Expr} {t : TA} (h : PEs X [a] t) : ∃ ta, PE X a ta ∧ ∀ σ H R, t σ H R → ta σ H fun x H1 => R [x] H1 := by
  obtain ⟨_, te, ts, h1, h2, w⟩ := h
  exact ⟨_, peM h1, fun σ H R q => ⟨_, w σ H R q, fun x H1 q => h2 _ _ _ q⟩⟩
theorem PEs.two {a b : Expr} {t : TA} (h : PEs X [a, b] t) : ∃ ta tb, PE X a ta ∧ PE X b tb ∧ ∀ σ H R, t σ H R → ta σ H fun x H1 => tb σ H1 fun y H2 => R [x, y] H2 := by
  obtain ⟨_, te, ts, h1, h2, w⟩ := h
  obtain ⟨tb, h3, w'⟩ := h2.one
  exact ⟨_, tb, peM h1, h3, fun σ H R q => ⟨_, w σ H R q, fun x H1 q => w' _ _ _ q⟩⟩
theorem PEs.three {a b c : Expr} {t : TA} (h : PEs X [a, b, c] t) : ∃ ta tb tc, PE X a ta ∧ PE X b tb ∧ PE X c tc ∧ ∀ σ H R, t σ H R → ta σ H fun x H1 => tb σ H1 fun y H2 => tc σ H2 fun z H3 => R [x, y, z] H3 := by
  obtain ⟨_, te, ts, h1, h2, w⟩ := h
  obtain ⟨tb, tc, h3, h4, w'⟩ := h2.two
  exact ⟨_, tb, tc, peM h1, h3, h4, fun σ H R q => ⟨_, w σ H R q, fun x H1 q => w' _ _ _ q⟩⟩

/-! ### operands -/
section
variable {K : PySem.W.Frag} {mg : Str → Option Value} {σ : Sg} {F : Fb} {O A1 : List Addr} {H H1 : Hp} {L1 : Slots} {O1 : List Addr} {α : Type}
/-- taken up from a later point -/
theorem Aft.step {y : Out α} {S : α → Slots → Hp → List Addr → List Addr → Prop} (m : Mid K H O H1 F σ L1 O1 A1) (h : Aft K mg W σ F O H y S) :
    Aft K mg W σ (Fa A1 F) O1 H1 y fun b L' H' O' A' => S b L' H' O' (A1 ++ A') := by
  cases y with
  | stuck => exact h
  | err c L' => exact errP.bind m h
  | ok b L' => exact fun H' O' A' m' => h H' O' (A1 ++ A') (m.trans m')
theorem Aft.bind2 {β : Type} {x : Out α} {k : α → Slots → Out β} {S : β → Slots → Hp → List Addr → List Addr → Prop} (h : Aft K mg W σ F O H (x.bind k) S) :
    Aft K mg W σ F O H x fun a L1 _ _ _ => Aft K mg W σ F O H (k a L1) S := by
  cases x with
  | stuck => exact h
  | err c L' => exact h
  | ok a L1 => exact fun _ _ _ _ => h
theorem RepQ.carry {H2 : Hp} {O2 A2 : List Addr} {L2 : Slots} {p : Opd} {v : V} (h : RepQ K H1 (Zz O1 A1 F) σ p v A1) (np : (∃ t, p = .v t) ∨ ∃ i, p = .s i []) (m : StOk K H1 (Fa A1 F) σ L1 O1) (m' : Mid K H1 O1 H2 (Fa A1 F) σ L2 O2 A2) :
    RepQ K H2 (Zz O2 (A1 ++ A2) F) σ p v A1 := by
  rcases np with ⟨t, rfl⟩ | ⟨i, rfl⟩
  · exact RepO.later (m'.later m) t v A1 (fun a ha o e => m'.kept m a ha o e) h
  · exact h
theorem RepQs.later1 {Z Z' : Fb} (w : ∀ a, Z' a → Z a) : ∀ {ps : List Opd} {vs : List V} {A : List Addr}, RepQs K H Z σ ps vs A → RepQs K H Z' σ ps vs A
  | [], _, _, h => h
  | p :: ps, _, _, ⟨v, vr, B1, B2, e1, e2, h1, h2⟩ => ⟨v, vr, B1, B2, e1, e2, by
    cases p with
    | v t => exact RepO.later1 h1 w
    | s i ks => exact h1, h2.later1 w⟩
end
theorem evo_late {m : Ex} {r : Slots → Out T} {L L1 : Slots} {p : Opd} (h : evo m false r L = .ok p L1) : (∃ t, p = .v t) ∨ ∃ i, p = .s i [] := by
  have key : ∀ {x : Out T}, (x.bind fun t L1 => Out.ok (Opd.v t) L1) = .ok p L1 → ∃ t, p = .v t := fun {x} e => by
    cases x with
    | stuck => cases e
    | err c L => cases e
    | ok t L => cases e; exact ⟨t, rfl⟩
  cases m with
  | var i =>
    obtain ⟨t, _, e⟩ := onO_inv (show onO (slot L i) (fun _ => .ok (.s i []) L) = .ok p L1 from h)
    cases e; exact .inr ⟨i, rfl⟩
  | pth i ks => exact .inl (key (show ((r L).bind fun t L1 => Out.ok (Opd.v t) L1) = .ok p L1 from h))
  | _ => exact .inl (key h)
/-- an operand -/
theorem evo_sound (C : CxOk Γ X W) (S : Snd Γ X W Φ sg rec) {e : Expr} {m : Ex} {b : Bool} (h : rec X.env.scope e m = true) : PE X e (tQ X.K X.mg W (evo m b (ev Φ sg m))) := by
  have val : (∀ L, evo m b (ev Φ sg m) L = (ev Φ sg m L).bind fun t L1 => .ok (.v t) L1) → PE X e (tQ X.K X.mg W (evo m b (ev Φ sg m))) := fun w =>
    (S.pe e m h).to fun σ H Q ⟨F, L, O, st, a⟩ => ⟨F, L, O, st, by
      rw [w L] at a
      exact a.bind2.mono fun t L1 H1 O1 A1 _ mid a v _ r => a H1 O1 A1 mid v r⟩
  have sim : simp1 m = true → (∀ L, evo m b (ev Φ sg m) L = evo m true (ev Φ sg m) L) → PE X e (tQ X.K X.mg W (evo m b (ev Φ sg m))) := fun hs w =>
    (mSimp_sound (Φ := Φ) (sg := sg) C (S.sm e m h hs)).to fun σ H Q ⟨F, L, O, st, a⟩ => by
      rw [w L] at a
      cases q : evo m true (ev Φ sg m) L with
      | stuck => rw [q] at a; exact a.elim
      | err c L' =>
        exfalso
        cases m <;> first | cases hs | skip
        · change onO (slot L _) _ = _ at q
          cases q2 : slot L _ with
          | none => rw [q2] at q; cases q
          | some t => rw [q2] at q; cases q
        · cases q
        · change onO (rd L _) _ = _ at q
          cases q2 : rd L _ with
          | none => rw [q2] at q; cases q
          | some t => rw [q2] at q; cases q
      | ok p L' =>
        have eL : L' = L := by
          cases m <;> first | cases hs | skip
          · obtain ⟨_, _, e⟩ := onO_inv (show onO (slot L _) _ = .ok p L' from q)
            cases e; rfl
          · cases q; rfl
          · obtain ⟨_, _, e⟩ := onO_inv (show onO (rd L _) _ = .ok p L' from q)
            cases e; rfl
        subst eL
        rw [q] at a
        exact ⟨F, _, O, p, st, q, fun v r => a H O [] (Mid.start st) v r.rep⟩
  cases m with
  | var i => exact sim rfl fun L => rfl
  | pth i ks =>
    cases b with
    | true => exact sim rfl fun L => rfl
    | false => exact val fun L => rfl
  | _ => exact val fun L => rfl
/-- operands that change nothing, in a row -/
def tSs (K : PySem.W.Frag) (Φ : Funs) (sg : String → List Bool) (es : Exs) : TA := fun σ H Q => ∃ F L O ps, StOk K H F σ L O ∧ evq Φ sg es L = .ok ps L ∧ ∀ vs, SimVs K H σ ps vs → Q vs H
theorem evq_c0 (m : Ex) (ms : Exs) (L : Slots) : evq Φ sg (.cons m ms) L = (evo m (simpEs ms) (ev Φ sg m) L).bind fun p L1 => (evq Φ sg ms L1).bind fun ps L2 => .ok (p :: ps) L2 := rfl
theorem evo_simp {m : Ex} (hs : simp1 m = true) {L : Slots} : (∃ p, evo m true (ev Φ sg m) L = .ok p L) ∨ evo m true (ev Φ sg m) L = .stuck := by
  cases m <;> first | cases hs | skip
  · show (∃ p, onO (slot L _) _ = .ok p L) ∨ onO (slot L _) _ = _
    cases q2 : slot L _ with
    | none => exact .inr rfl
    | some t => exact .inl ⟨_, rfl⟩
  · exact .inl ⟨_, rfl⟩
  · show (∃ p, onO (rd L _) _ = .ok p L) ∨ onO (rd L _) _ = _
    cases q2 : rd L _ with
    | none => exact .inr rfl
    | some t => exact .inl ⟨_, rfl⟩
theorem evq_simp : ∀ {ms : Exs}, simpEs ms = true → ∀ {L : Slots}, (∃ ps, evq Φ sg ms L = .ok ps L) ∨ evq Φ sg ms L = .stuck
  | .nil, _, L => .inl ⟨[], rfl⟩
  | .cons m ms, h, L => by
    have h : (simp1 m && simpEs ms) = true := h
    rw [Bool.and_eq_true] at h
    rw [evq_c0, h.2]
    rcases evo_simp (Φ := Φ) (sg := sg) h.1 (L := L) with ⟨p, e⟩ | e
    · rw [e]
      rcases evq_simp h.2 (L := L) with ⟨ps, e'⟩ | e'
      · exact .inl ⟨p :: ps, by rw [Out.bind_ok, e']; rfl⟩
      · exact .inr (by rw [Out.bind_ok, e']; rfl)
    · exact .inr (by rw [e]; rfl)
theorem evs_simple (C : CxOk Γ X W) (S : Snd Γ X W Φ sg rec) : ∀ {es : List Expr} {ms : Exs}, simpEs ms = true → mats rec X.env.scope es ms = true → PEs X es (tSs X.K Φ sg ms)
  | [], .nil, _, _ => fun σ H R ⟨F, L, O, ps, st, e, q⟩ => by cases e; exact q [] rfl
  | [], .cons _ _, _, h => by cases h
  | _ :: _, .nil, _, h => by cases h
  | e :: es, .cons m ms, hs, h => by
    have hs : (simp1 m && simpEs ms) = true := hs
    have h : (rec X.env.scope e m && notStar e && mats rec X.env.scope es ms) = true := h
    rw [Bool.and_eq_true] at hs
    rw [Bool.and_eq_true, Bool.and_eq_true] at h
    refine ⟨h.1.2, _, _, mSimp_sound (Φ := Φ) (sg := sg) C (S.sm e m h.1.1 hs.1), evs_simple C S hs.2 h.2, fun σ H R ⟨F, L, O, ps, st, e, q⟩ => ?_⟩
    rw [evq_c0, hs.2] at e
    rcases evo_simp (Φ := Φ) (sg := sg) hs.1 (L := L) with ⟨p, e1⟩ | e1
    · rw [e1, Out.bind_ok] at e
      rcases evq_simp (Φ := Φ) (sg := sg) hs.2 (L := L) with ⟨ps', e2⟩ | e2
      · rw [e2] at e; cases e
        exact ⟨F, L, O, p, st, e1, fun v r => ⟨F, L, O, ps', st, e2, fun vs rs => q _ ⟨v, vs, rfl, r, rs⟩⟩⟩
      · rw [e2] at e; cases e
    · rw [e1] at e; cases e
theorem Zz_app {O A : List Addr} {F : Fb} : ∀ a, Zz O (A ++ []) F a → Zz O A F a := fun a z => by rw [List.append_nil] at z; exact z
/-- operands in a row -/
theorem evq_sound (C : CxOk Γ X W) (S : Snd Γ X W Φ sg rec) : ∀ {es : List Expr} {ms : Exs}, mats rec X.env.scope es ms = true → PEs X es (tQs X.K X.mg W (evq Φ sg ms))
  | [], .nil, _ => fun σ H R ⟨F, L, O, st, a⟩ => a H O [] (Mid.start st) [] ⟨rfl, rfl⟩
  | [], .cons _ _, h => by cases h
  | _ :: _, .nil, h => by cases h
  | e :: es, .cons m ms, h => by
    have h : (rec X.env.scope e m && notStar e && mats rec X.env.scope es ms) = true := h
    rw [Bool.and_eq_true, Bool.and_eq_true] at h
    cases hs : simpEs ms with
    | true =>
      refine ⟨h.1.2, _, _, evo_sound (b := true) C S h.1.1, evs_simple C S hs h.2, fun σ H R ⟨F, L, O, st, a⟩ => ⟨F, L, O, st, ?_⟩⟩
      rw [evq_c0, hs] at a
      refine a.bind2.mono fun p L1 H1 O1 A1 _ mid a v r => ?_
      rcases evq_simp (Φ := Φ) (sg := sg) hs (L := L1) with ⟨ps, e2⟩ | e2
      · rw [e2] at a
        refine ⟨_, L1, O1, ps, mid.st, e2, fun vs rs => a H1 O1 A1 mid (v :: vs) ⟨v, vs, A1, [], rfl, by rw [List.append_nil], r, rs.rep⟩⟩
      · rw [e2] at a; exact a.elim
    | false =>
      refine ⟨h.1.2, _, _, evo_sound (b := false) C S h.1.1, evq_sound C S h.2, fun σ H R ⟨F, L, O, st, a⟩ => ⟨F, L, O, st, ?_⟩⟩
      rw [evq_c0, hs] at a
      refine a.bind2.mono fun p L1 H1 O1 A1 ep mid a v r => ⟨_, L1, O1, mid.st, ?_⟩
      refine (Aft.step mid a).bind2.mono fun ps L2 H2 O2 A2 _ mid2 a vs rs => ?_
      exact a H2 O2 A2 mid2 (v :: vs) ⟨v, vs, A1, A2, rfl, rfl, r.carry (evo_late ep) mid.st mid2, rs.later1 fun b z => by
        rcases z with z | z | z
        · exact .inl z
        · exact (List.mem_append.mp z).elim (fun z => .inr (.inr (.inl z))) fun z => .inr (.inl z)
        · exact .inr (.inr (.inr z))⟩
/-- items in a row, each as a value of its own -/
theorem evs_c0 (m : Ex) (ms : Exs) (L : Slots) : evs Φ sg (.cons m ms) L = (ev Φ sg m L).bind fun t L1 => (evs Φ sg ms L1).bind fun ts L2 => .ok (t :: ts) L2 := rfl
/-- no locked thing -/
def nlk (t : T) : Prop := isLkd t = false
end
end TV

set_option Elab.async false
set_option linter.all false
set_option maxRecDepth 100000
set_option maxHeartbeats 4000000
/-! TV15: operations of the text. -/
namespace TV
open PySem PySem.Spec PyProof.Rows L2

def plainIx : Expr → Bool
  | .Slice _ _ _ _ => false
  | _ => true
def notCall : Expr → Bool
  | .Call _ _ _ _ => false
  | _ => true
def tyNames : List String := ["str", "list", "tuple", "bool", "dict", "int"]
def bltB (Γ : Gm) (sc : Scope) (x : Str) : Bool := glB sc x && decide (x ∈ Γ.bs)
def mSlc (lo hi : Bool) (a : Expr) (l u : Option Expr) : Option (List Expr) :=
  match lo, hi, l, u with
  | false, true, none, some h => some [a, h]
  | true, false, some l, none => some [a, l]
  | _, _, _, _ => none
/-- an operation of the text -/
def mOp (Γ : Gm) (rec : Rc) (sc : Scope) (o : Op) (es : Exs) (e : Expr) : Bool :=
  match e with
  | .BinOp a p b _ => match o with
    | .bin q => decide (p = q) && mats rec sc [a, b] es
    | _ => false
  | .Compare a [p] [b] _ => match o with
    | .cmp q => decide (p = q) && !behindInMarks p b && mats rec sc [a, b] es
    | _ => false
  | .UnaryOp .USub a _ => match o with
    | .neg => mats rec sc [a] es
    | _ => false
  | .UnaryOp .Invert a _ => match o with
    | .inv => mats rec sc [a] es
    | _ => false
  | .Subscript a (.Slice l u none _) _ => match o with
    | .slc lo hi => match mSlc lo hi a l u with
      | some as => mats rec sc as es
      | none => false
    | _ => false
  | .Subscript a b _ => match o with
    | .idx => plainIx b && mats rec sc [a, b] es
    | _ => false
  | .Call (.Attribute c m apos) [k, d] [] cpos => match o with
    | .get => decide (m = ("get" : Str)) && notCall c && (apos.endLine == cpos.line) && simpEs es && mats rec sc [c, k, d] es
    | _ => false
  | .Call (.Name x _) as [] _ => match o with
    | .isi n => match as with
      | [a, .Name y _] => decide (x = ("isinstance" : Str)) && bltB Γ sc x && decide (y = Str.ofString n) && decide (n ∈ tyNames) && bltB Γ sc y && mats rec sc [a] es
      | _ => false
    | .sortset => match as with
      | [.Call (.Name y _) [a] [] _] => decide (x = ("sorted" : Str)) && bltB Γ sc x && decide (y = ("set" : Str)) && bltB Γ sc y && mats rec sc [a] es
      | _ => false
    | .lrng => match as with
      | [.Call (.Name y _) [a] [] _] => decide (x = ("list" : Str)) && bltB Γ sc x && decide (y = ("range" : Str)) && bltB Γ sc y && mats rec sc [a] es
      | [.Call (.Name y _) [a, b] [] _] => decide (x = ("list" : Str)) && bltB Γ sc x && decide (y = ("range" : Str)) && bltB Γ sc y && mats rec sc [a, b] es
      | _ => false
    | o => match as with
      | [] => false
      | a :: as => match fnV o with
        | some (y, _) => decide (x = y) && bltB Γ sc x && mats rec sc (a :: as) es
        | none => false
  | _ => false

section
variable {Γ : Gm} {X : Cx} {W : WX} {Φ : Funs} {sg : String → List Bool} {rec : Rc}
section
variable {K : PySem.W.Frag} {mg : Str → Option Value} {σ : Sg} {F : Fb} {O A1 : List Addr} {H H1 : Hp} {L L1 : Slots} {O1 : List Addr} {α β : Type} {m : Ex} {Q : VK}
theorem Fa_nil : Fa [] F = F := funext fun a => propext ⟨fun z => z.elim (fun q => by cases q) id, .inr⟩
theorem Mid.trans0 {H0 H2 : Hp} {O0 O2 A : List Addr} {L2 : Slots} (m : Mid K H0 O0 H1 F σ L1 O1 []) (m' : Mid K H1 O1 H2 F σ L2 O2 A) : Mid K H0 O0 H2 F σ L2 O2 A := by
  have m' : Mid K H1 O1 H2 (Fa [] F) σ L2 O2 A := by rw [Fa_nil]; exact m'
  exact m.trans m'
theorem Aft.step0 {y : Out α} {S : α → Slots → Hp → List Addr → List Addr → Prop} (m : Mid K H O H1 F σ L1 O1 []) (h : Aft K mg W σ F O H y S) : Aft K mg W σ F O1 H1 y S := by
  cases y with
  | stuck => exact h
  | err c L' => exact fun H' O' C e m' => h H' O' C e (m.trans0 m')
  | ok b L' => exact fun H' O' A' m' => h H' O' A' (m.trans0 m')
theorem Mid.bare {A : List Addr} (m : Mid K H O H1 F σ L1 O1 A) : Mid K H O H1 F σ L1 O1 [] := m.drop (fun a z => by cases z) .nil
theorem onB_aft {t : T} {x y : Out α} {S : α → Slots → Hp → List Addr → List Addr → Prop} (h : Aft K mg W σ F O H (onB t x y) S) : ∃ c, t = .bl c ∧ Aft K mg W σ F O H (if c then x else y) S := by
  cases t with
  | bl c => exact ⟨c, rfl, by cases c <;> exact h⟩
  | _ => exact h.elim
/-- a test, then this or that -/
theorem Aft.test {x y : Slots → Out α} {S : α → Slots → Hp → List Addr → List Addr → Prop} (h : Aft K mg W σ F O H ((ev Φ sg m L).bind fun t L1 => onB t (x L1) (y L1)) S) :
    Aft K mg W σ F O H (evb Φ sg m L) fun b L1 _ _ _ => Aft K mg W σ F O H (if b then x L1 else y L1) S := by
  unfold evb
  cases q : ev Φ sg m L with
  | stuck => rw [q] at h; exact h
  | err c L' => rw [q] at h; exact h
  | ok t L1 =>
    rw [q] at h
    obtain ⟨c, e, h⟩ := onB_aft h
    subst e
    cases c <;> exact fun _ _ _ _ => h
/-- a test's word, of the value's -/
theorem tT_D {Q : Bool → Hp → Prop} (h : tT K mg W (evb Φ sg m) σ H Q) : tD K mg W (ev Φ sg m) σ H fun x H1 => ∃ c, x = .bl c ∧ Q c H1 := by
  obtain ⟨F, L, O, st, a⟩ := h
  refine ⟨F, L, O, st, (Aft.bind2 a).mono fun t L1 H1 O1 A1 _ mid a v _ r => ?_⟩
  obtain ⟨c, e, a⟩ := onB_aft a
  subst e
  refine ⟨c, r.1, ?_⟩
  cases c <;> exact a H1 O1 A1 mid
theorem opD {o : Op} {es : Exs} (h : tD K mg W (ev Φ sg (.op o es)) σ H Q) : tQs K mg W (evq Φ sg es) σ H fun vs H' => rOp K o vs H' Q := by
  obtain ⟨F, L, O, st, a⟩ := h
  refine ⟨F, L, O, st, (Aft.bind2 (x := evq Φ sg es L) a).mono fun ps L1 H1 O1 A1 _ mid a vs r => ?_⟩
  obtain ⟨⟨t, L2⟩, e, a⟩ := Aft.onO a
  have a : Aft K mg W σ F O H (if isLkd t then .stuck else .ok t L2) _ := a
  by_cases hk : isLkd t = true
  · rw [if_pos hk] at a; exact a.elim
  · rw [if_neg hk] at a
    exact opRun_sound mid r e fun v H' O' A' m' r' => a H' O' A' m' v (by simpa using hk) r'
end
theorem bltB_of {x : Str} (C : CxOk Γ X W) (h : bltB Γ X.env.scope x = true) : Gl X x ∧ (x == ("__debug__" : Str)) = false ∧ X.mg x = none := by
  unfold bltB at h
  rw [Bool.and_eq_true] at h
  obtain ⟨h1, h2⟩ := glB_gl h.1
  exact ⟨h1, h2, C.gb _ (of_decide_eq_true h.2)⟩
theorem plainIx_ok {b : Expr} (h : plainIx b = true) : PlainIx b := by
  intro o i
  cases b <;> first | rfl | cases h
theorem notCall_ok {c : Expr} {m : Str} {env : Env} {w : Sem Value} (h : notCall c = true) : attributeBase c m env w = w := by
  cases c <;> first | rfl | cases h
theorem ty_ok {n : String} (h : n ∈ tyNames) : bootBuiltins (Str.ofString n) = some (.type n) ∧ Str.ofString n ≠ "__name__" := by
  unfold tyNames at h
  simp only [List.mem_cons, List.not_mem_nil, or_false] at h
  rcases h with rfl | rfl | rfl | rfl | rfl | rfl <;> exact ⟨by decide +kernel, by decide +kernel⟩
theorem m2_ok {c k d : Expr} {apos cpos : Pos} {m : Str} (hc : notCall c = true) (h1 : notStar k = true) (h2 : notStar d = true) (hl : (apos.endLine == cpos.line) = true) : M2 X c m apos k d cpos := by
  refine ⟨notCall_ok hc, ?_, hl, ?_⟩
  · rw [star_cons h1, star_cons h2]; rfl
  · rw [star_cons h1, star_cons h2]; rfl
theorem mats_cons {sc : Scope} {e : Expr} {es : List Expr} {ms : Exs} (h : mats rec sc (e :: es) ms = true) : ∃ m ms', ms = .cons m ms' ∧ rec sc e m = true ∧ notStar e = true ∧ mats rec sc es ms' = true := by
  cases ms with
  | nil => cases h
  | cons m ms =>
    have h : (rec sc e m && notStar e && mats rec sc es ms) = true := h
    rw [Bool.and_eq_true, Bool.and_eq_true] at h
    exact ⟨m, ms, rfl, h.1.1, h.1.2, h.2⟩
theorem mats_nil {sc : Scope} {ms : Exs} (h : mats rec sc [] ms = true) : ms = .nil := by
  cases ms with
  | nil => rfl
  | cons m ms => cases h
/-- d.get(k, x) -/
theorem get_pe (C : CxOk Γ X W) (S : Snd Γ X W Φ sg rec) {c k d : Expr} {apos cpos : Pos} {es : Exs} (hc : notCall c = true) (hl : (apos.endLine == cpos.line) = true) (hs : simpEs es = true) (h : mats rec X.env.scope [c, k, d] es = true) :
    PE X (.Call (.Attribute c "get" apos) [k, d] [] cpos) (tD X.K X.mg W (ev Φ sg (.op .get es))) := by
  obtain ⟨m1, ms1, e1, r1, n1, h⟩ := mats_cons h
  obtain ⟨m2, ms2, e2, r2, n2, h⟩ := mats_cons h
  obtain ⟨m3, ms3, e3, r3, n3, h⟩ := mats_cons h
  have e4 := mats_nil h
  subst e1 e2 e3 e4
  have hs : (simp1 m1 && (simp1 m2 && (simp1 m3 && true))) = true := hs
  simp only [Bool.and_eq_true, Bool.and_true] at hs
  have hu := C.un
  refine (pe_dget2 (by omega) (mSimp_sound (Φ := Φ) (sg := sg) C (S.sm _ _ r1 hs.1)) (mSimp_sound (Φ := Φ) (sg := sg) C (S.sm _ _ r2 hs.2.1)) (mSimp_sound (Φ := Φ) (sg := sg) C (S.sm _ _ r3 hs.2.2)) (m2_ok hc n2 n3 hl)).to fun σ H Q ⟨F, L, O, st, a⟩ => ?_
  replace a := Aft.bind2 (x := evq Φ sg (.cons m1 (.cons m2 (.cons m3 .nil))) L) a
  have s3 : simpEs (.cons m3 .nil) = true := by show (simp1 m3 && true) = true; rw [hs.2.2]; rfl
  have s2 : simpEs (.cons m2 (.cons m3 .nil)) = true := by show (simp1 m2 && simpEs (.cons m3 .nil)) = true; rw [hs.2.1, s3]; rfl
  rw [evq_c0, s2] at a
  rcases evo_simp (Φ := Φ) (sg := sg) hs.1 (L := L) with ⟨p1, e1⟩ | e1
  · rw [e1, Out.bind_ok, evq_c0, s3] at a
    rcases evo_simp (Φ := Φ) (sg := sg) hs.2.1 (L := L) with ⟨p2, e2⟩ | e2
    · rw [e2, Out.bind_ok, evq_c0, show simpEs Exs.nil = true from rfl] at a
      rcases evo_simp (Φ := Φ) (sg := sg) hs.2.2 (L := L) with ⟨p3, e3⟩ | e3
      · rw [e3] at a
        replace a : Aft X.K X.mg W σ F O H (.ok [p1, p2, p3] L) _ := a
        obtain ⟨⟨t, L2⟩, e, a⟩ := Aft.onO (a H O [] (Mid.start st))
        have a : Aft X.K X.mg W σ F O H (if isLkd t then .stuck else .ok t L2) _ := a
        have fin : ∀ x y z, SimV X.K H σ p1 x → SimV X.K H σ p2 y → SimV X.K H σ p3 z → rOp X.K .get [x, y, z] H Q := fun x y z hx hy hz => by
          by_cases hk : isLkd t = true
          · rw [if_pos hk] at a; exact a.elim
          · rw [if_neg hk] at a
            exact opRun_sound (Mid.start st) (ps := [p1, p2, p3]) (SimVs.rep (ps := [p1, p2, p3]) ⟨x, _, rfl, hx, y, _, rfl, hy, z, _, rfl, hz, rfl⟩) e fun v H' O' A' m' r' => a H' O' A' m' v (by simpa using hk) r'
        refine ⟨F, L, O, p1, st, e1, fun x hx => ?_⟩
        have dic : ∃ o ks xs, rd L p1 = some (.dic o ks xs) := by
          unfold opRun at e
          cases q1 : rd L p1 with
          | none => rw [rds, q1] at e; cases e
          | some u1 =>
            cases q2 : rd L p2 with
            | none => rw [rds, q1, rds, q2] at e; cases e
            | some u2 =>
              cases q3 : rd L p3 with
              | none => rw [rds, q1, rds, q2, rds, q3] at e; cases e
              | some u3 =>
                rw [rds, q1, rds, q2, rds, q3] at e
                replace e : opK .get [u1, u2, u3] [p1, p2, p3] L = some (t, L2) := e
                cases u1 <;> first | exact ⟨_, _, _, rfl⟩ | cases e
        obtain ⟨o, ks, xs, ed⟩ := dic
        obtain ⟨b, vs, ex, hb, _⟩ := (hx.rep (Z := fun _ => False)).read st ed
        refine ⟨b, ex, .inl ⟨_, .inl hb⟩, F, L, O, p2, st, e2, fun y hy => ⟨F, L, O, p3, st, e3, fun z hz => ?_⟩⟩
        obtain ⟨x', y', z', ev, a', o', ea, g, q⟩ := fin x y z hx hy hz
        cases ev
        rw [ea] at ex
        cases ex
        exact ⟨o', g, q⟩
      · rw [e3] at a; exact a.elim
    · rw [e2] at a; exact a.elim
  · rw [e1] at a; exact a.elim
theorem isi_pe (C : CxOk Γ X W) (S : Snd Γ X W Φ sg rec) {a : Expr} {x y : Str} {p1 p2 pos : Pos} {n : String} {es : Exs} (hx : x = ("isinstance" : Str)) (bx : bltB Γ X.env.scope x = true) (hy : y = Str.ofString n) (hn : n ∈ tyNames) (by_ : bltB Γ X.env.scope y = true) (h : mats rec X.env.scope [a] es = true) :
    PE X (.Call (.Name x p1) [a, .Name y p2] [] pos) (tD X.K X.mg W (ev Φ sg (.op (.isi n) es))) := by
  subst hx hy
  obtain ⟨gx, dx, mx⟩ := bltB_of C bx
  obtain ⟨gy, dy, my⟩ := bltB_of C by_
  obtain ⟨tb, tn⟩ := ty_ok hn
  have P := evq_sound C S h
  have na : notStar a = true := P.1
  obtain ⟨ta, pa, w⟩ := P.one
  refine (pe_callB call_isi gx mx (by decide +kernel) (pa_cons pa (pa_cons (pe_bltn (v := .ty n) gy my tb rfl tn dy) pa_nil rfl) (star_cons na)) (by decide +kernel) dx (star_cons na) rfl).to fun σ H Q q => ?_
  obtain ⟨F, L, O, st, a'⟩ := opD q
  exact w σ H (fun vs H1 => rIsi X.K (vs ++ [.ty n]) H1 Q) ⟨F, L, O, st, a'.mono fun ps L1 H1 O1 A1 _ _ k vs r => by
    obtain ⟨x, ev, t, b, h1, h2, h3⟩ := k vs r
    subst ev
    exact ⟨x, .ty n, t, .type n, b, rfl, .ty n, h1, h2, h3⟩⟩
theorem fn_pe (C : CxOk Γ X W) (S : Snd Γ X W Φ sg rec) {a : Expr} {as : List Expr} {x : Str} {p1 pos : Pos} {o : Op} {f : Value} {es : Exs} (ho : fnV o = some (x, f)) (bx : bltB Γ X.env.scope x = true) (h : mats rec X.env.scope (a :: as) es = true) :
    PE X (.Call (.Name x p1) (a :: as) [] pos) (tD X.K X.mg W (ev Φ sg (.op o es))) := by
  obtain ⟨gx, dx, mx⟩ := bltB_of C bx
  have P := evq_sound C S h
  have na : notStar a = true := P.1
  have hcall := fnCall C.calm (by have := C.un; omega) ho
  obtain ⟨hv, hn, _, hi⟩ := fnBoot ho
  have st : (backTo pos (starEach as X.env)).any (·.1) = false := by
    obtain ⟨_, te, ts, _, h2, _⟩ := P
    exact h2.star
  have w : ∀ σ H Q, tD X.K X.mg W (ev Φ sg (.op o es)) σ H Q → tCB (rFn X.K o) (tQs X.K X.mg W (evq Φ sg es)) σ H Q := fun σ H Q q => by
    have q := opD q
    cases o <;> first | exact q | cases ho
  rcases hi with ⟨i, rfl⟩ | ⟨i, rfl⟩
  · exact (pe_callB hcall gx mx hv P.pa hn dx (star_cons na) st).to w
  · exact (pe_callTy hcall gx mx hv P.pa hn dx (star_cons na) st).to w
theorem slc_pe (C : CxOk Γ X W) (S : Snd Γ X W Φ sg rec) {a : Expr} {l u : Option Expr} {p2 pos : Pos} {lo hi : Bool} {as : List Expr} {es : Exs} (hm : mSlc lo hi a l u = some as) (h : mats rec X.env.scope as es = true) :
    PE X (.Subscript a (.Slice l u none p2) pos) (tD X.K X.mg W (ev Φ sg (.op (.slc lo hi) es))) := by
  have P := evq_sound C S h
  unfold mSlc at hm
  split at hm
  · cases hm
    obtain ⟨ta, tb, pa, pb, w⟩ := P.two
    refine (pe_slice slAll pa po_none (po_some pb)).to fun σ H Q q => ?_
    obtain ⟨F, L, O, st, a'⟩ := opD q
    exact w σ H (fun vs H2 => ∃ i, vs.getD 1 .non = .int i ∧ rSlc X.K (vs.getD 0 .non) none (some i) H2 Q) ⟨F, L, O, st, a'.mono fun ps L1 H1 O1 A1 _ _ k vs r => by
      obtain ⟨x, j, ev, h1⟩ := k vs r
      subst ev
      exact ⟨j, rfl, h1⟩⟩
  · cases hm
    obtain ⟨ta, tb, pa, pb, w⟩ := P.two
    refine (pe_slice slAll pa (po_some pb) po_none).to fun σ H Q q => ?_
    obtain ⟨F, L, O, st, a'⟩ := opD q
    exact w σ H (fun vs H2 => ∃ i, vs.getD 1 .non = .int i ∧ rSlc X.K (vs.getD 0 .non) (some i) none H2 Q) ⟨F, L, O, st, a'.mono fun ps L1 H1 O1 A1 _ _ k vs r => by
      obtain ⟨x, j, ev, h1⟩ := k vs r
      subst ev
      exact ⟨j, rfl, h1⟩⟩
  · cases hm
/-- a comparison's reading, as a value and as a test -/
theorem cmp_to {q : CmpOp} {es : Exs} {a b : Expr} {ta tb : TE} (w : ∀ σ H R, tQs X.K X.mg W (evq Φ sg es) σ H R → ta σ H fun x H1 => tb σ H1 fun y H2 => R [x, y] H2) (σ : Sg) (H : Hp) (Q : VK)
    (h : tD X.K X.mg W (ev Φ sg (.op (.cmp q) es)) σ H Q) : tOp (rCmp X.K q) ta tb σ H Q := by
  obtain ⟨F, L, O, st, a'⟩ := opD h
  exact w σ H (fun vs H2 => rCmp X.K q (vs.getD 0 .non) (vs.getD 1 .non) H2 Q) ⟨F, L, O, st, a'.mono fun ps L1 H1 O1 A1 _ _ k vs r => by
    obtain ⟨x, y, ev, h1⟩ := k vs r
    subst ev
    exact h1⟩
theorem srtset_pe (C : CxOk Γ X W) (S : Snd Γ X W Φ sg rec) {a : Expr} {x y : Str} {p1 p2 q0 pos : Pos} {es : Exs} (hx : x = ("sorted" : Str)) (bx : bltB Γ X.env.scope x = true) (hy : y = ("set" : Str)) (by_ : bltB Γ X.env.scope y = true) (h : mats rec X.env.scope [a] es = true) :
    PE X (.Call (.Name x p1) [.Call (.Name y p2) [a] [] q0] [] pos) (tD X.K X.mg W (ev Φ sg (.op .sortset es))) := by
  subst hx hy
  obtain ⟨gx, dx, mx⟩ := bltB_of C bx
  obtain ⟨gy, dy, my⟩ := bltB_of C by_
  have P := evq_sound C S h
  have na : notStar a = true := P.1
  obtain ⟨ta, pa, w⟩ := P.one
  have inner := pe_callTy (cr_tset C.calm) gy my (by decide +kernel) (pa_cons pa pa_nil (star_cons na)) (by decide +kernel) dy (star_cons na) rfl (pos := q0) (p := p2)
  refine (pe_callB (cr_sortedTS C.calm) gx mx (by decide +kernel) (pa_cons inner pa_nil rfl) (by decide +kernel) dx rfl rfl).to fun σ H Q q => ?_
  obtain ⟨F, L, O, st, a'⟩ := opD q
  exact w σ H (fun vs H1 => rTxSet X.K X.w vs H1 fun v H2 => rSortedTS X.w [v] H2 Q) ⟨F, L, O, st, a'.mono fun ps L1 H1 O1 A1 _ _ k vs r => by
    obtain ⟨l, xs, ev, sl, few, q⟩ := k vs r
    subst ev
    refine ⟨l, xs, rfl, sl, by omega, fun a ha => ⟨a, xs.reverse, rfl, ?_, by rw [List.length_reverse]; exact few, fun ys p so nd mem hp => ?_⟩⟩
    · unfold upd; rw [if_pos rfl]
    · exact q ys a p _ so nd (fun k => by rw [mem, List.mem_reverse]) ha hp⟩
theorem lrg1_pe (C : CxOk Γ X W) (S : Snd Γ X W Φ sg rec) {a : Expr} {x y : Str} {p1 p2 q0 pos : Pos} {es : Exs} (hx : x = ("list" : Str)) (bx : bltB Γ X.env.scope x = true) (hy : y = ("range" : Str)) (by_ : bltB Γ X.env.scope y = true) (h : mats rec X.env.scope [a] es = true) :
    PE X (.Call (.Name x p1) [.Call (.Name y p2) [a] [] q0] [] pos) (tD X.K X.mg W (ev Φ sg (.op .lrng es))) := by
  subst hx hy
  obtain ⟨gx, dx, mx⟩ := bltB_of C bx
  obtain ⟨gy, dy, my⟩ := bltB_of C by_
  have P := evq_sound C S h
  have na : notStar a = true := P.1
  obtain ⟨ta, pa, w⟩ := P.one
  refine (pe_listRg C.calm gx mx (prg_1 (p := p2) (pos := q0) gy my (peM pa) (star_cons na))).to fun σ H Q q => ?_
  refine ⟨_, w σ H (fun vs H1 => rLrg vs H1 Q) (opD q), fun x H1 z => ?_⟩
  obtain ⟨i, j, ev, ok, q⟩ := z
  rcases ev with ⟨ev, e0⟩ | ev
  · cases ev; subst e0; exact ⟨j, rfl, ok, q⟩
  · cases ev
theorem lrg2_pe (C : CxOk Γ X W) (S : Snd Γ X W Φ sg rec) {a b : Expr} {x y : Str} {p1 p2 q0 pos : Pos} {es : Exs} (hx : x = ("list" : Str)) (bx : bltB Γ X.env.scope x = true) (hy : y = ("range" : Str)) (by_ : bltB Γ X.env.scope y = true) (h : mats rec X.env.scope [a, b] es = true) :
    PE X (.Call (.Name x p1) [.Call (.Name y p2) [a, b] [] q0] [] pos) (tD X.K X.mg W (ev Φ sg (.op .lrng es))) := by
  subst hx hy
  obtain ⟨gx, dx, mx⟩ := bltB_of C bx
  obtain ⟨gy, dy, my⟩ := bltB_of C by_
  have P := evq_sound C S h
  have na : notStar a = true := P.1
  have nb : notStar b = true := by obtain ⟨_, _, _, _, h2, _⟩ := P; exact h2.1
  obtain ⟨ta, tb, pa, pb, w⟩ := P.two
  refine (pe_listRg C.calm gx mx (prg_2 (p := p2) (pos := q0) gy my (peM pa) (peM pb) (star_cons na) (star_cons nb) (by rw [star_cons nb]; rfl))).to fun σ H Q q => ?_
  refine ⟨_, w σ H (fun vs H1 => rLrg vs H1 Q) (opD q), fun x H1 z => ⟨_, z, fun y H2 z => ?_⟩⟩
  obtain ⟨i, j, ev, ok, q⟩ := z
  rcases ev with ⟨ev, e0⟩ | ev
  · cases ev
  · cases ev; exact ⟨i, j, rfl, rfl, ok, q⟩
theorem op_pe (C : CxOk Γ X W) (S : Snd Γ X W Φ sg rec) {o : Op} {es : Exs} {e : Expr} (h : mOp Γ rec X.env.scope o es e = true) : PE X e (tD X.K X.mg W (ev Φ sg (.op o es))) := by
  have hu := C.un
  unfold mOp at h
  split at h
  · split at h
    · rw [Bool.and_eq_true] at h
      have e1 := of_decide_eq_true h.1
      subst e1
      obtain ⟨ta, tb, pa, pb, w⟩ := (evq_sound C S h.2).two
      refine (pe_op (opBin _) pa pb).to fun σ H Q q => ?_
      obtain ⟨F, L, O, st, a'⟩ := opD q
      exact w σ H (fun vs H2 => rBin X.K _ (vs.getD 0 .non) (vs.getD 1 .non) H2 Q) ⟨F, L, O, st, a'.mono fun ps L1 H1 O1 A1 _ _ k vs r => by
        obtain ⟨x, y, ev, h1⟩ := k vs r
        subst ev
        exact h1⟩
    · cases h
  · split at h
    · rw [Bool.and_eq_true, Bool.and_eq_true] at h
      have e1 := of_decide_eq_true h.1.1
      subst e1
      obtain ⟨ta, tb, pa, pb, w⟩ := (evq_sound C S h.2).two
      exact (pe_cmpR (opCmp _ (by omega)) pa pb (by simpa using h.1.2)).to fun σ H Q q => cmp_to (a := .Name "" default) (b := .Name "" default) w σ H Q q
    · cases h
  · split at h
    · obtain ⟨ta, pa, w⟩ := (evq_sound C S h).one
      refine (pe_un un_neg pa).to fun σ H Q q => ?_
      obtain ⟨F, L, O, st, a'⟩ := opD q
      exact w σ H (fun vs H2 => rU (fun i => .int (-i)) (vs.getD 0 .non) H2 Q) ⟨F, L, O, st, a'.mono fun ps L1 H1 O1 A1 _ _ k vs r => by
        obtain ⟨x, ev, h1⟩ := k vs r
        subst ev
        exact h1⟩
    · cases h
  · split at h
    · obtain ⟨ta, pa, w⟩ := (evq_sound C S h).one
      refine (pe_un un_inv pa).to fun σ H Q q => ?_
      obtain ⟨F, L, O, st, a'⟩ := opD q
      exact w σ H (fun vs H2 => rU (fun i => .int (Builtin.bitNot i)) (vs.getD 0 .non) H2 Q) ⟨F, L, O, st, a'.mono fun ps L1 H1 O1 A1 _ _ k vs r => by
        obtain ⟨x, ev, h1⟩ := k vs r
        subst ev
        exact h1⟩
    · cases h
  · split at h
    · split at h
      · exact slc_pe C S (by assumption) h
      · cases h
    · cases h
  · split at h
    · rw [Bool.and_eq_true] at h
      obtain ⟨ta, tb, pa, pb, w⟩ := (evq_sound C S h.2).two
      refine (pe_ix (ixAll (by omega)) pa pb (plainIx_ok h.1)).to fun σ H Q q => ?_
      obtain ⟨F, L, O, st, a'⟩ := opD q
      exact w σ H (fun vs H2 => rIdx X.K (vs.getD 0 .non) (vs.getD 1 .non) H2 Q) ⟨F, L, O, st, a'.mono fun ps L1 H1 O1 A1 _ _ k vs r => by
        obtain ⟨x, y, ev, h1⟩ := k vs r
        subst ev
        exact h1⟩
    · cases h
  · split at h
    · simp only [Bool.and_eq_true] at h
      have e1 := of_decide_eq_true h.1.1.1.1
      subst e1
      exact get_pe C S h.1.1.1.2 h.1.1.2 h.1.2 h.2
    · cases h
  · split at h
    · split at h
      · simp only [Bool.and_eq_true] at h
        exact isi_pe C S (of_decide_eq_true h.1.1.1.1.1) h.1.1.1.1.2 (of_decide_eq_true h.1.1.1.2) (of_decide_eq_true h.1.1.2) h.1.2 h.2
      · cases h
    · split at h
      · simp only [Bool.and_eq_true] at h
        exact srtset_pe C S (of_decide_eq_true h.1.1.1.1) h.1.1.1.2 (of_decide_eq_true h.1.1.2) h.1.2 h.2
      · cases h
    · split at h
      · simp only [Bool.and_eq_true] at h
        exact lrg1_pe C S (of_decide_eq_true h.1.1.1.1) h.1.1.1.2 (of_decide_eq_true h.1.1.2) h.1.2 h.2
      · simp only [Bool.and_eq_true] at h
        exact lrg2_pe C S (of_decide_eq_true h.1.1.1.1) h.1.1.1.2 (of_decide_eq_true h.1.1.2) h.1.2 h.2
      · cases h
    · split at h
      · cases h
      · split at h
        · simp only [Bool.and_eq_true] at h
          have e1 := of_decide_eq_true h.1.1
          subst e1
          exact fn_pe C S (by assumption) h.1.2 h.2
        · cases h
  · cases h
end
end TV

set_option Elab.async false
set_option linter.all false
set_option maxRecDepth 100000
set_option maxHeartbeats 4000000
/-! TV16: displays, truths. -/
namespace TV
open PySem PySem.Spec PyProof.Rows L2

/-- and, or, of the text, nested to the right -/
def mBo (rec : Rc) (sc : Scope) (c : Bool) : List Expr → Ex → Bool
  | [], _ => false
  | [e], m => rec sc e m && !isIf e
  | e :: f :: es, m => match m with
    | .and a b => c && (rec sc e a && !isIf e) && mBo rec sc c (f :: es) b
    | .or a b => !c && (rec sc e a && !isIf e) && mBo rec sc c (f :: es) b
    | _ => false
section
variable {Γ : Gm} {X : Cx} {W : WX} {Φ : Funs} {sg : String → List Bool} {rec : Rc}
section
variable {K : PySem.W.Frag} {mg : Str → Option Value} {σ : Sg} {F : Fb} {O A1 : List Addr} {H H1 : Hp} {L L1 : Slots} {O1 : List Addr} {α β : Type} {m : Ex} {Q : VK}
/-- the rest of an expression, after a truth -/
theorem tD_rest {m : Ex} {S : Unit} (mid : Mid K H O H1 F σ L1 O1 A1) (a : Aft K mg W σ F O H (ev Φ sg m L1) fun t L' H' O' A => ∀ v, isLkd t = false → RepO K H' (Zz O' A F) t v A → Q v H') : tD K mg W (ev Φ sg m) σ H1 Q :=
  ⟨F, L1, O1, mid.bare.done, Aft.step0 mid.bare a⟩
theorem tT_rest {m : Ex} {Q : Bool → Hp → Prop} (mid : Mid K H O H1 F σ L1 O1 A1) (a : Aft K mg W σ F O H (evb Φ sg m L1) fun b L' H' O' A => Q b H') : tT K mg W (evb Φ sg m) σ H1 Q :=
  ⟨F, L1, O1, mid.bare.done, Aft.step0 mid.bare a⟩
end
/-- items in a row -/
theorem evs_sound (C : CxOk Γ X W) (S : Snd Γ X W Φ sg rec) : ∀ {es : List Expr} {ms : Exs}, mats rec X.env.scope es ms = true → PEs X es (tVs X.K X.mg W (evs Φ sg ms))
  | [], .nil, _ => fun σ H R ⟨F, L, O, st, a⟩ => a H O [] (Mid.start st) [] ⟨rfl, rfl⟩
  | [], .cons _ _, h => by cases h
  | _ :: _, .nil, h => by cases h
  | e :: es, .cons m ms, h => by
    have h : (rec X.env.scope e m && notStar e && mats rec X.env.scope es ms) = true := h
    rw [Bool.and_eq_true, Bool.and_eq_true] at h
    refine ⟨h.1.2, _, _, S.pe e m h.1.1, evs_sound C S h.2, fun σ H R ⟨F, L, O, st, a⟩ => ⟨F, L, O, st, ?_⟩⟩
    refine (Aft.bind2 (x := ev Φ sg m L) a).mono fun t L1 H1 O1 A1 _ mid a v hk r => ⟨_, L1, O1, mid.st, ?_⟩
    refine (Aft.step mid a).bind2.mono fun ts L2 H2 O2 A2 _ mid2 a vs rs => ?_
    refine a H2 O2 A2 mid2 (v :: vs) ⟨v, vs, A1, A2, rfl, rfl, hk, RepO.later (mid2.later mid.st) t v A1 (fun b hb o e => mid2.kept mid.st b hb o e) r, rs.later1 fun b z => ?_⟩
    rcases z with z | z | z
    · exact .inl z
    · exact (List.mem_append.mp z).elim (fun z => .inr (.inr (.inl z))) fun z => .inr (.inl z)
    · exact .inr (.inr (.inr z))
theorem lst_pe (C : CxOk Γ X W) (S : Snd Γ X W Φ sg rec) {es : List Expr} {ms : Exs} {pos : Pos} (h : mats rec X.env.scope es ms = true) : PE X (.List es pos) (tD X.K X.mg W (ev Φ sg (.lst ms))) :=
  (pe_lst (evs_sound C S h).pa).to fun σ H Q ⟨F, L, O, st, a⟩ => ⟨F, L, O, st, (Aft.bind2 (x := evs Φ sg ms L) a).mono fun ts L1 H1 O1 A1 _ mid a vs r => by
    unfold dspRun at a
    by_cases hl : ts.length ≤ LINE
    · rw [if_pos hl] at a
      refine ⟨by rw [← r.length]; exact hl, fun p hp => ?_⟩
      obtain ⟨m', r'⟩ := alloc_lst mid r (fun _ z => z) mid.nd hp
      exact a _ O1 _ m' _ rfl r'
    · rw [if_neg hl] at a; exact a.elim⟩
theorem tup_pe (C : CxOk Γ X W) (S : Snd Γ X W Φ sg rec) {es : List Expr} {ms : Exs} {k : Nat} {pos : Pos} (h : mats rec X.env.scope es ms = true) : PE X (.Tuple es k pos) (tD X.K X.mg W (ev Φ sg (.tup ms))) :=
  (pe_tup (evs_sound C S h).pa).to fun σ H Q ⟨F, L, O, st, a⟩ => ⟨F, L, O, st, (Aft.bind2 (x := evs Φ sg ms L) a).mono fun ts L1 H1 O1 A1 _ mid a vs r => by
    unfold dspRun at a
    by_cases hl : ts.length ≤ LINE
    · rw [if_pos hl] at a
      refine ⟨by rw [← r.length]; exact hl, fun p hp => ?_⟩
      obtain ⟨m', r'⟩ := alloc_tup mid r (fun _ z => z) mid.nd hp
      exact a _ O1 _ m' _ rfl r'
    · rw [if_neg hl] at a; exact a.elim⟩
theorem dic_pe {pos : Pos} : PE X (.Dict [] [] pos) (tD X.K X.mg W (ev Φ sg (.dic .nil .nil))) :=
  pe_dnewK.to fun σ H Q ⟨F, L, O, st, a⟩ p hp => by
    obtain ⟨m', r'⟩ := alloc_dic (ks := []) (xs := []) (vs := []) (B := []) rfl (Mid.start st) ⟨rfl, rfl⟩ (fun _ z => z) .nil hp
    exact a _ O _ m' _ rfl r'
theorem dit_pe {pos : Pos} : PE X (.Dict [] [] pos) (tD X.K X.mg W (ev Φ sg .dit0)) :=
  pe_dnewT.to fun σ H Q ⟨F, L, O, st, a⟩ p hp =>
    a _ O [p] ((Mid.start st).alloc hp (B := []) (fun _ z => z) .nil) _ rfl ⟨p, [], [], rfl, rfl, upd_same, rfl, rfl, rfl⟩

/-! ### truths -/
theorem not_pe {m : Ex} {e : Expr} {pos : Pos} (p : PE X e (tD X.K X.mg W (ev Φ sg m))) : PE X (.UnaryOp .Not e pos) (tD X.K X.mg W (ev Φ sg (.not m))) :=
  (pe_not p).to fun σ H Q ⟨F, L, O, st, a⟩ => ⟨F, L, O, st, (Aft.bind2 (x := ev Φ sg m L) a).mono fun t L1 H1 O1 A1 _ mid a v _ r => by
    obtain ⟨c, e, a⟩ := onB_aft a
    subst e
    refine ⟨c, r.1, ?_⟩
    cases c <;> exact a H1 O1 [] mid.bare _ rfl ⟨rfl, rfl⟩⟩
theorem not_pt {m : Ex} {e : Expr} {pos : Pos} (p : PT X e (tT X.K X.mg W (evb Φ sg m))) : PT X (.UnaryOp .Not e pos) (tT X.K X.mg W (evb Φ sg (.not m))) :=
  (pt_not p).to fun σ H Q ⟨F, L, O, st, a⟩ => ⟨F, L, O, st, by
    have a : Aft X.K X.mg W σ F O H (((ev Φ sg m L).bind fun t L1 => onB t (.ok (.bl false) L1) (.ok (.bl true) L1)).bind fun t L1 => onB t (.ok true L1) (.ok false L1)) _ := a
    unfold evb
    cases q : ev Φ sg m L with
    | stuck => rw [q] at a; exact a
    | err c L' => rw [q] at a; exact a
    | ok t L1 =>
      rw [q] at a
      cases t with
      | bl c => cases c <;> exact a
      | _ => exact a.elim⟩
theorem and_pe {a b : Ex} {e f : Expr} {es : List Expr} {pos : Pos} (pa : PE X e (tD X.K X.mg W (ev Φ sg a))) (pb : PE X (.BoolOp .And (f :: es) pos) (tD X.K X.mg W (ev Φ sg b))) :
    PE X (.BoolOp .And (e :: f :: es) pos) (tD X.K X.mg W (ev Φ sg (.and a b))) :=
  (pe_and pa pb).to fun σ H Q ⟨F, L, O, st, h⟩ => ⟨F, L, O, st, (Aft.bind2 (x := ev Φ sg a L) h).mono fun t L1 H1 O1 A1 _ mid h v _ r => by
    obtain ⟨c, e, h⟩ := onB_aft h
    subst e
    refine ⟨c, r.1, ?_⟩
    cases c with
    | true => exact tD_rest (S := ()) mid h
    | false => exact h H1 O1 [] mid.bare _ rfl ⟨rfl, rfl⟩⟩
theorem or_pe {a b : Ex} {e f : Expr} {es : List Expr} {pos : Pos} (pa : PE X e (tD X.K X.mg W (ev Φ sg a))) (pb : PE X (.BoolOp .Or (f :: es) pos) (tD X.K X.mg W (ev Φ sg b))) :
    PE X (.BoolOp .Or (e :: f :: es) pos) (tD X.K X.mg W (ev Φ sg (.or a b))) :=
  (pe_or pa pb).to fun σ H Q ⟨F, L, O, st, h⟩ => ⟨F, L, O, st, (Aft.bind2 (x := ev Φ sg a L) h).mono fun t L1 H1 O1 A1 _ mid h v _ r => by
    obtain ⟨c, e, h⟩ := onB_aft h
    subst e
    refine ⟨c, r.1, ?_⟩
    cases c with
    | false => exact tD_rest (S := ()) mid h
    | true => exact h H1 O1 [] mid.bare _ rfl ⟨rfl, rfl⟩⟩
theorem evb_and {a b : Ex} {L : Slots} : evb Φ sg (.and a b) L = (evb Φ sg a L).bind fun c L1 => if c then evb Φ sg b L1 else .ok false L1 := by
  show (((ev Φ sg a L).bind fun t L1 => onB t (ev Φ sg b L1) (.ok (.bl false) L1)).bind fun t L1 => onB t (.ok true L1) (.ok false L1)) = _
  unfold evb
  cases ev Φ sg a L with
  | stuck => rfl
  | err c L' => rfl
  | ok t L1 =>
    cases t with
    | bl c => cases c <;> rfl
    | _ => rfl
theorem evb_or {a b : Ex} {L : Slots} : evb Φ sg (.or a b) L = (evb Φ sg a L).bind fun c L1 => if c then .ok true L1 else evb Φ sg b L1 := by
  show (((ev Φ sg a L).bind fun t L1 => onB t (.ok (.bl true) L1) (ev Φ sg b L1)).bind fun t L1 => onB t (.ok true L1) (.ok false L1)) = _
  unfold evb
  cases ev Φ sg a L with
  | stuck => rfl
  | err c L' => rfl
  | ok t L1 =>
    cases t with
    | bl c => cases c <;> rfl
    | _ => rfl
theorem PW.to {e : Expr} {t t' : TT} (h : PW X e t) (w : ∀ σ H Q, t' σ H Q → t σ H Q) : PW X e t' := ⟨fun wh pins s σ H Q I q => h.run wh pins s σ H Q I (w σ H Q q)⟩
theorem and_pw {a b : Ex} {e f : Expr} {es : List Expr} {pos : Pos} (pa : PT X e (tT X.K X.mg W (evb Φ sg a))) (pb : PW X (.BoolOp .And (f :: es) pos) (tT X.K X.mg W (evb Φ sg b))) :
    PW X (.BoolOp .And (e :: f :: es) pos) (tT X.K X.mg W (evb Φ sg (.and a b))) :=
  PW.to (pw_and pa pb) fun σ H Q ⟨F, L, O, st, h⟩ => ⟨F, L, O, st, by
    rw [evb_and] at h
    refine (Aft.bind2 h).mono fun c L1 H1 O1 A1 _ mid h => ?_
    cases c with
    | true => exact tT_rest mid h
    | false => exact h H1 O1 A1 mid⟩
theorem or_pw {a b : Ex} {e f : Expr} {es : List Expr} {pos : Pos} (pa : PT X e (tT X.K X.mg W (evb Φ sg a))) (pb : PW X (.BoolOp .Or (f :: es) pos) (tT X.K X.mg W (evb Φ sg b))) :
    PW X (.BoolOp .Or (e :: f :: es) pos) (tT X.K X.mg W (evb Φ sg (.or a b))) :=
  PW.to (pw_or pa pb) fun σ H Q ⟨F, L, O, st, h⟩ => ⟨F, L, O, st, by
    rw [evb_or] at h
    refine (Aft.bind2 h).mono fun c L1 H1 O1 A1 _ mid h => ?_
    cases c with
    | false => exact tT_rest mid h
    | true => exact h H1 O1 A1 mid⟩
theorem bo_and (S : Snd Γ X W Φ sg rec) {pos : Pos} : ∀ {es : List Expr} {m : Ex}, mBo rec X.env.scope true es m = true →
    PE X (.BoolOp .And es pos) (tD X.K X.mg W (ev Φ sg m)) ∧ PW X (.BoolOp .And es pos) (tT X.K X.mg W (evb Φ sg m))
  | [], _, h => by cases h
  | [e], m, h => by
    have h : (rec X.env.scope e m && !isIf e) = true := h
    rw [Bool.and_eq_true] at h
    exact ⟨pe_one (S.pe e m h.1), pw_and1 (S.pt e m h.1 (by simpa using h.2))⟩
  | e :: f :: es, m, h => by
    cases m <;> first | cases h | skip
    · rename_i a b
      have h : (true && (rec X.env.scope e a && !isIf e) && mBo rec X.env.scope true (f :: es) b) = true := h
      simp only [Bool.and_eq_true] at h
      obtain ⟨g1, g2⟩ := bo_and S (pos := pos) h.2
      exact ⟨and_pe (S.pe e a h.1.2.1) g1, and_pw (S.pt e a h.1.2.1 (by simpa using h.1.2.2)) g2⟩
theorem bo_or (S : Snd Γ X W Φ sg rec) {pos : Pos} : ∀ {es : List Expr} {m : Ex}, mBo rec X.env.scope false es m = true →
    PE X (.BoolOp .Or es pos) (tD X.K X.mg W (ev Φ sg m)) ∧ PW X (.BoolOp .Or es pos) (tT X.K X.mg W (evb Φ sg m))
  | [], _, h => by cases h
  | [e], m, h => by
    have h : (rec X.env.scope e m && !isIf e) = true := h
    rw [Bool.and_eq_true] at h
    exact ⟨pe_one (S.pe e m h.1), pw_or1 (S.pt e m h.1 (by simpa using h.2))⟩
  | e :: f :: es, m, h => by
    cases m <;> first | cases h | skip
    · rename_i a b
      have h : (true && (rec X.env.scope e a && !isIf e) && mBo rec X.env.scope false (f :: es) b) = true := h
      simp only [Bool.and_eq_true] at h
      obtain ⟨g1, g2⟩ := bo_or S (pos := pos) h.2
      exact ⟨or_pe (S.pe e a h.1.2.1) g1, or_pw (S.pt e a h.1.2.1 (by simpa using h.1.2.2)) g2⟩
theorem ite_pe {c a b : Ex} {ec ea eb : Expr} {pos : Pos} (pc : PT X ec (tT X.K X.mg W (evb Φ sg c))) (pa : PE X ea (tD X.K X.mg W (ev Φ sg a))) (pb : PE X eb (tD X.K X.mg W (ev Φ sg b))) :
    PE X (.IfExp ec ea eb pos) (tD X.K X.mg W (ev Φ sg (.ite c a b))) :=
  (pe_ifExp pc pa pb).to fun σ H Q ⟨F, L, O, st, h⟩ => ⟨F, L, O, st, (Aft.test (m := c) (x := fun L1 => ev Φ sg a L1) (y := fun L1 => ev Φ sg b L1) h).mono fun d L1 H1 O1 A1 _ mid h => by
    cases d with
    | true => exact tD_rest (S := ()) mid h
    | false => exact tD_rest (S := ()) mid h⟩
end
end TV

set_option Elab.async false
set_option linter.all false
set_option maxRecDepth 100000
set_option maxHeartbeats 4000000
/-! TV17: calls. -/
namespace TV
open PySem PySem.Spec PyProof.Rows L2

/-- the values of the parameters that are changed -/
def mutV : List Bool → List V → List V
  | true :: ms, v :: vs => v :: mutV ms vs
  | false :: ms, _ :: vs => mutV ms vs
  | _, _ => []
/-- what a def promises, by its run over trees -/
def spF (K : PySem.W.Frag) (mg : Str → Option Value) (ms : List Bool) (φ : List T → FOut) : Sp := fun vs H Q E =>
  ∃ (F : Fb) (ts us : List T) (B : List Addr), argS ms ts = some us ∧ ts.length = vs.length ∧ StOk K H F (vs.map some) (us.map some) B ∧
    match φ ts with
    | .stuck => False
    | .err c => ∀ H' C, mg (Str.ofString c) = some (.ref C) → Grow H H' B [] → E (.ref C) none H'
    | .ok r outs => ∀ v H' B' A', RepOs K H' (Zz B' A' F) outs (mutV ms vs) B' → isLkd r = false → RepO K H' (Zz B' A' F) r v A' → (B' ++ A').Nodup → (∀ a ∈ B' ++ A', ¬ F a) → Grow H H' B (B' ++ A') → Q v H'

section
variable {K : PySem.W.Frag} {H H' : Hp} {Z Z' F : Fb} {σ : Sg} {L : Slots} {O A B : List Addr}
mutual
theorem RepS.unfrz : ∀ (t : T) (v : V), RepS K H Z (frz t) v → RepS K H Z t v
  | .non, _, h => h
  | .bl _, _, h => h
  | .int _, _, h => h
  | .str _, _, h => h
  | .scr _, _, h => h
  | .lkd _ _, _, h => h
  | .lst _ xs, _, ⟨a, vs, e, h1, n, h2⟩ => ⟨a, vs, e, h1, n, RepSs.unfrz xs vs h2⟩
  | .tup _ xs, _, ⟨a, vs, e, h1, n, h2⟩ => ⟨a, vs, e, h1, n, RepSs.unfrz xs vs h2⟩
  | .dic _ _ xs, _, ⟨a, vs, e, h1, n, hl, h2⟩ => ⟨a, vs, e, h1, n, hl, RepSs.unfrz xs vs h2⟩
  | .dit _ _ xs, _, ⟨a, vs, e, h1, n, hl, h2⟩ => ⟨a, vs, e, h1, n, hl, RepSs.unfrz xs vs h2⟩
theorem RepSs.unfrz : ∀ (ts : List T) (vs : List V), RepSs K H Z (frzs ts) vs → RepSs K H Z ts vs
  | [], _, h => h
  | t :: ts, _, ⟨v, vr, e, hk, h1, h2⟩ => ⟨v, vr, e, by rw [← isLkd_frz]; exact hk, RepS.unfrz t v h1, RepSs.unfrz ts vr h2⟩
end
mutual
theorem RepO.cln : ∀ (t : T) (v : V) (A : List Addr), cln t = true → RepO K H Z t v A → RepO K H Z' t v A
  | .non, _, _, _, h => h
  | .bl _, _, _, _, h => h
  | .int _, _, _, _, h => h
  | .str _, _, _, _, h => h
  | .scr _, _, _, c, _ => by cases c
  | .lkd _ _, _, _, c, _ => by cases c
  | .lst true xs, _, _, c, ⟨a, vs, B, e, eA, h1, h2⟩ => ⟨a, vs, B, e, eA, h1, RepOs.cln xs vs B (by simpa [TV.cln] using c) h2⟩
  | .tup true xs, _, _, c, ⟨a, vs, B, e, eA, h1, h2⟩ => ⟨a, vs, B, e, eA, h1, RepOs.cln xs vs B (by simpa [TV.cln] using c) h2⟩
  | .dic true _ xs, _, _, c, ⟨a, vs, B, e, eA, h1, hl, h2⟩ => ⟨a, vs, B, e, eA, h1, hl, RepOs.cln xs vs B (by simpa [TV.cln] using c) h2⟩
  | .dit true _ xs, _, _, c, ⟨a, vs, B, e, eA, h1, hl, h2⟩ => ⟨a, vs, B, e, eA, h1, hl, RepOs.cln xs vs B (by simpa [TV.cln] using c) h2⟩
  | .lst false _, _, _, c, _ => by simp [TV.cln] at c
  | .tup false _, _, _, c, _ => by simp [TV.cln] at c
  | .dic false _ _, _, _, c, _ => by simp [TV.cln] at c
  | .dit false _ _, _, _, c, _ => by simp [TV.cln] at c
theorem RepOs.cln : ∀ (ts : List T) (vs : List V) (A : List Addr), clns ts = true → RepOs K H Z ts vs A → RepOs K H Z' ts vs A
  | [], _, _, _, h => h
  | t :: ts, _, _, c, ⟨v, vr, A1, A2, e, eA, hk, h1, h2⟩ => by
    simp only [clns, Bool.and_eq_true] at c
    exact ⟨v, vr, A1, A2, e, eA, hk, RepO.cln t v A1 c.1 h1, RepOs.cln ts vr A2 c.2 h2⟩
end
/-- slots taken out -/
def RepIs (K : PySem.W.Frag) (H : Hp) (Z : Fb) (σ : Sg) (L : Slots) : List Nat → List V → List Addr → Prop
  | [], vs, B => vs = [] ∧ B = []
  | i :: is, vs, B => ∃ t v vr B1 B2, vs = v :: vr ∧ B = B1 ++ B2 ∧ slot L i = some t ∧ σ[i]? = some (some v) ∧ RepO K H Z t v B1 ∧ RepIs K H Z σ L is vr B2
theorem RepIs.later1 (w : ∀ a, Z' a → Z a) : ∀ {is : List Nat} {vs : List V} {B : List Addr}, RepIs K H Z σ L is vs B → RepIs K H Z' σ L is vs B
  | [], _, _, h => h
  | i :: is, _, _, ⟨t, v, vr, B1, B2, e1, e2, e3, e4, h1, h2⟩ => ⟨t, v, vr, B1, B2, e1, e2, e3, e4, h1.later1 w, h2.later1 w⟩
theorem wipeL_out {L : Slots} : ∀ {is : List Nat} {j : Nat}, is.contains j = false → (wipeL L is)[j]? = L[j]?
  | [], _, _ => rfl
  | i :: is, j, h => by
    simp only [List.contains_cons, Bool.or_eq_false_iff] at h
    show ((wipeL L is).set i none)[j]? = _
    rw [List.getElem?_set_ne (by intro e; subst e; simp at h), wipeL_out h.2]
theorem wipeL_length {L : Slots} : ∀ {is : List Nat}, (wipeL L is).length = L.length
  | [] => rfl
  | i :: is => by
    show ((wipeL L is).set i none).length = _
    rw [List.length_set, wipeL_length]
theorem slot_wipe {L : Slots} {is : List Nat} {j : Nat} (h : is.contains j = false) : slot (wipeL L is) j = slot L j := by
  unfold slot; rw [wipeL_out h]
theorem StOk.takeIs (h : StOk K H F σ L O) : ∀ {is : List Nat}, noDup is = true → (∀ i ∈ is, ∃ t, slot L i = some t) →
    ∃ vs B O', O.Perm (B ++ O') ∧ B.Nodup ∧ (∀ a ∈ B, ¬ F a ∧ a ∉ O') ∧ RepIs K H (Zz O' B F) σ L is vs B ∧ StOk K H (Fa B F) σ (wipeL L is) O'
  | [], _, _ => ⟨[], [], O, .refl _, .nil, (fun _ z => by cases z), ⟨rfl, rfl⟩, (by rw [Fa_nil]; exact h)⟩
  | i :: is, nd, hs => by
    have nd : (!is.contains i && noDup is) = true := nd
    simp only [Bool.and_eq_true, Bool.not_eq_true'] at nd
    obtain ⟨vs, B, O', p, n, d, r, st⟩ := h.takeIs nd.2 fun j hj => hs j (List.mem_cons_of_mem _ hj)
    obtain ⟨t, et⟩ := hs i List.mem_cons_self
    have e2 := slot_get et
    rw [← wipeL_out (L := L) nd.1] at e2
    obtain ⟨v, A, O2, h1, p2, r2, st2, n2, d2⟩ := st.take e2
    have sub : ∀ a, (a ∈ A ∨ a ∈ O2) → a ∈ O' := fun a z => p2.mem_iff.mpr (List.mem_append.mpr z)
    refine ⟨v :: vs, A ++ B, O2, ?_, ?_, fun a ha => ?_, ⟨t, v, vs, A, B, rfl, rfl, et, h1, r2.later1 fun b z => ?_, r.later1 fun b z => ?_⟩, st2.less fun a z => ?_⟩
    · refine p.trans ((p2.append_left B).trans ?_)
      rw [← List.append_assoc]
      exact List.Perm.append_right O2 List.perm_append_comm
    · rw [List.nodup_append]
      exact ⟨n2, n, fun a ha b hb e => by subst e; exact (d a hb).2 (sub a (.inl ha))⟩
    · rcases List.mem_append.mp ha with ha | ha
      · exact ⟨fun z => d2 a ha (.inr z), fun z => st2.df a z (.inl ha)⟩
      · exact ⟨(d a ha).1, fun z => (d a ha).2 (sub a (.inr z))⟩
    · rcases z with z | z | z
      · exact .inl z
      · exact (List.mem_append.mp z).elim (fun z => .inr (.inl z)) fun z => .inr (.inr (.inl z))
      · exact .inr (.inr (.inr z))
    · rcases z with z | z | z
      · exact .inl (sub b (.inr z))
      · exact (List.mem_append.mp z).elim (fun z => .inl (sub b (.inl z))) fun z => .inr (.inl z)
      · exact .inr (.inr z)
    · rcases z with z | z
      · exact (List.mem_append.mp z).imp id .inl
      · exact .inr (.inr z)
/-- what is lent is no longer held alone -/
theorem frzO_sound : ∀ {ms : List Bool} {ps : List Opd} {L L' : Slots} {O : List Addr}, StOk K H F σ L O → frzO ms ps L = some L' →
    ∃ O', (∀ a ∈ O', a ∈ O) ∧ StOk K H F σ L' O' ∧ (∀ j, (lent ms ps).contains j = false → L'[j]? = L[j]?) ∧
      (∀ j t, slot L j = some t → shr t = true → slot L' j = some t) ∧ ∀ j ∈ lent ms ps, ∃ t, slot L j = some t ∧ slot L' j = some (TV.frz t) ∧ shr (TV.frz t) = true
  | _, [], L, L', O, st, e => by
    have e : L' = L := by cases ‹List Bool› with
      | nil => cases e; rfl
      | cons b ms => cases b <;> cases e <;> rfl
    subst e
    exact ⟨O, fun _ z => z, st, fun _ _ => rfl, fun _ _ h _ => h, fun j z => by
      cases ‹List Bool› with
      | nil => cases z
      | cons b ms => cases b <;> cases z⟩
  | ms, .v t :: ps, L, L', O, st, e => by
    cases ms with
    | nil => exact frzO_sound (ms := []) (ps := ps) st e
    | cons b ms => cases b <;> exact frzO_sound (ms := ms) (ps := ps) st e
  | ms, .s i ks :: ps, L, L', O, st, e => by
    have step : ∀ ms', frzO ms (.s i ks :: ps) L = (match slot L i with | some t => if ks = [] then (if isLkd t then none else frzO ms' ps (L.set i (some (frz t)))) else if shr t then frzO ms' ps L else none | none => none) →
        lent ms (.s i ks :: ps) = i :: lent ms' ps →
        ∃ O', (∀ a ∈ O', a ∈ O) ∧ StOk K H F σ L' O' ∧ (∀ j, (lent ms (.s i ks :: ps)).contains j = false → L'[j]? = L[j]?) ∧
          (∀ j t, slot L j = some t → shr t = true → slot L' j = some t) ∧ ∀ j ∈ lent ms (.s i ks :: ps), ∃ t, slot L j = some t ∧ slot L' j = some (TV.frz t) ∧ shr (TV.frz t) = true := fun ms' e1 e2 => by
      rw [e1] at e
      rw [e2]
      cases q : slot L i with
      | none => rw [q] at e; cases e
      | some t =>
        rw [q] at e
        replace e : (if ks = [] then (if isLkd t then none else frzO ms' ps (L.set i (some (frz t)))) else if shr t then frzO ms' ps L else none) = some L' := e
        by_cases hk : ks = []
        · rw [if_pos hk] at e
          by_cases hl : isLkd t = true
          · rw [if_pos hl] at e; cases e
          · rw [if_neg hl] at e
            obtain ⟨v, O2, h1, h2, h3, h4⟩ := st.freeze q (by simpa using hl)
            have hi : i < L.length := (List.getElem?_eq_some_iff.mp (slot_get q)).1
            have hf : slot (L.set i (some (frz t))) i = some (frz t) := by unfold slot; rw [List.getElem?_set_self hi]; rfl
            have hs : shr (frz t) = true := by obtain ⟨w, _, rs⟩ := st.slotv q; exact RepS.shrF _ _ rs (by simpa using hl)
            obtain ⟨O', g1, g2, g3, g4, g5⟩ := frzO_sound (ms := ms') h3 e
            refine ⟨O', fun a ha => h2 a (g1 a ha), g2, fun j hj => ?_, fun j u hj hu => ?_, fun j hj => ?_⟩
            · simp only [List.contains_cons, Bool.or_eq_false_iff] at hj
              rw [g3 j hj.2, List.getElem?_set_ne (by intro e; subst e; simp at hj)]
            · by_cases hji : j = i
              · subst hji
                rw [q] at hj; cases hj
                exact g4 _ _ (by rw [hf, frz_shr _ hu]) hu
              · exact g4 j u (by unfold slot at hj ⊢; rw [List.getElem?_set_ne (fun e => hji e.symm)]; exact hj) hu
            · by_cases hji : j = i
              · subst hji; exact ⟨t, q, g4 _ _ hf hs, hs⟩
              · rcases List.mem_cons.mp hj with hj | hj
                · exact absurd hj hji
                · obtain ⟨u, u1, u2, u3⟩ := g5 j hj
                  exact ⟨u, by unfold slot at u1 ⊢; rw [List.getElem?_set_ne (fun e => hji e.symm)] at u1; exact u1, u2, u3⟩
        · rw [if_neg hk] at e
          by_cases hs : shr t = true
          · rw [if_pos hs] at e
            obtain ⟨O', g1, g2, g3, g4, g5⟩ := frzO_sound (ms := ms') st e
            refine ⟨O', g1, g2, fun j hj => ?_, g4, fun j hj => ?_⟩
            · simp only [List.contains_cons, Bool.or_eq_false_iff] at hj
              exact g3 j hj.2
            · rcases List.mem_cons.mp hj with hj | hj
              · subst hj; exact ⟨t, q, by rw [frz_shr _ hs]; exact g4 _ _ q hs, by rw [frz_shr _ hs]; exact hs⟩
              · exact g5 j hj
          · rw [if_neg hs] at e; cases e
    cases ms with
    | nil => exact step [] rfl rfl
    | cons b ms => cases b with
      | false => exact step ms rfl rfl
      | true => exact frzO_sound (ms := ms) (ps := ps) st e
end
end TV

set_option Elab.async false
set_option linter.all false
set_option maxRecDepth 100000
set_option maxHeartbeats 4000000
/-! TV18: a call is served. -/
namespace TV
open PySem PySem.Spec PyProof.Rows L2

section
variable {K : PySem.W.Frag} {H H' : Hp} {Z Z1 Z2 Z3 F G : Fb} {σ : Sg} {L L0 : Slots} {O A B : List Addr}
theorem rdS {i : Nat} : rd L (.s i []) = slot L i := by
  show (slot L i).bind (fun t => pathT t []) = slot L i
  cases slot L i with
  | none => rfl
  | some t => cases t <;> rfl
theorem args_rep (h32 : ∀ a, Z3 a → Z2 a) (dB : ∀ a ∈ B, True) (hv : ∀ t v Aj, (∀ a ∈ Aj, a ∈ A) → RepO K H Z1 t v Aj → RepS K H Z3 t v) :
    ∀ {ps : List Opd} {ms : List Bool} {vs : List V} {ts us : List T} {is : List Nat} {Av : List Addr} {vm : List V} {B : List Addr},
    (∀ i ∈ lent ms ps, ∀ t, slot L i = some t → ∃ v, σ[i]? = some (some v) ∧ RepS K H Z3 t v) → rds L ps = some ts → argS ms ts = some us → mutsOf ms ps = some is → RepQs K H Z1 σ ps vs Av → (∀ a ∈ Av, a ∈ A) →
    RepIs K H Z2 σ L0 is vm B → (∀ i ∈ is, slot L0 i = slot L i) → RepL K H Z3 (us.map some) (vs.map some) B ∧ vm = mutV ms vs ∧ ts.length = vs.length
  | [], ms, vs, ts, us, is, Av, vm, B, _, e1, e2, e3, r, _, ri, _ => by
    cases e1
    have hu : us = [] := by cases ms with
      | nil => cases e2; rfl
      | cons b ms => cases b <;> cases e2 <;> rfl
    have hi : is = [] := by cases ms with
      | nil => cases e3; rfl
      | cons b ms => cases b <;> cases e3 <;> rfl
    subst hu hi
    obtain ⟨e4, _⟩ := r
    obtain ⟨e5, e6⟩ := ri
    subst e4 e5 e6
    refine ⟨.nil, ?_, rfl⟩
    cases ms with
    | nil => rfl
    | cons b ms => cases b <;> rfl
  | p :: ps, ms, vs, ts, us, is, Av, vm, B, hl, e1, e2, e3, ⟨v, vr, A1, A2, ev, eA, r1, r2⟩, sA, ri, hs => by
    subst ev eA
    have e1 : (rd L p).bind (fun t => (rds L ps).bind fun ts => some (t :: ts)) = some ts := e1
    cases q1 : rd L p with
    | none => rw [q1] at e1; cases e1
    | some t =>
      rw [q1] at e1
      cases q2 : rds L ps with
      | none => rw [q2] at e1; cases e1
      | some ts' =>
        rw [q2] at e1
        have e1 : t :: ts' = ts := Option.some.inj e1
        subst e1
        -- what is only lent
        have plain : ∀ ms' : List Bool, (∀ i ks, p = .s i ks → i ∈ lent ms (p :: ps)) → (∀ j ∈ lent ms' ps, j ∈ lent ms (p :: ps)) → argS ms (t :: ts') = (if isLkd t then none else (argS ms' ts').map (frz t :: ·)) → mutsOf ms' ps = some is → mutV ms (v :: vr) = mutV ms' vr →
            RepL K H Z3 (us.map some) ((v :: vr).map some) B ∧ vm = mutV ms (v :: vr) ∧ (t :: ts').length = (v :: vr).length := fun ms' g1 g2 g3 g4 g5 => by
          rw [g3] at e2
          by_cases hk : isLkd t = true
          · rw [if_pos hk] at e2; cases e2
          · rw [if_neg hk] at e2
            cases q3 : argS ms' ts' with
            | none => rw [q3] at e2; cases e2
            | some us' =>
              rw [q3] at e2
              have e2 : frz t :: us' = us := Option.some.inj e2
              subst e2
              obtain ⟨rl, ev, el⟩ := args_rep h32 dB hv (fun i hi => hl i (g2 i hi)) q2 q3 g4 r2 (fun a ha => sA a (List.mem_append_right _ ha)) ri hs
              have rs : RepS K H Z3 t v := by
                cases p with
                | v u =>
                  have e : u = t := Option.some.inj q1
                  subst e
                  exact hv u v A1 (fun a ha => sA a (List.mem_append_left _ ha)) r1
                | s i ks =>
                  obtain ⟨_, v0, hv0, pv⟩ := r1
                  have q1 : (slot L i).bind (fun t => pathT t ks) = some t := q1
                  cases q4 : slot L i with
                  | none => rw [q4] at q1; cases q1
                  | some u =>
                    rw [q4] at q1
                    obtain ⟨w, hw, rw'⟩ := hl i (g1 i ks rfl) u q4
                    rw [hv0] at hw; cases hw
                    exact RepS.path ks rw' q1 pv
              exact ⟨RepL.held (A := []) (rs.held (by simpa using hk)) rl, by rw [g5]; exact ev, by simpa using el⟩
        cases ms with
        | nil =>
          refine plain [] (fun i ks e => ?_) (fun j hj => ?_) rfl ?_ rfl
          · subst e; exact List.mem_cons_self
          · cases p with
            | v u => exact hj
            | s i ks => exact List.mem_cons_of_mem _ hj
          · cases e3; cases ps <;> rfl
        | cons b ms =>
          cases b with
          | false =>
            refine plain ms (fun i ks e => ?_) (fun j hj => ?_) rfl e3 rfl
            · subst e; exact List.mem_cons_self
            · cases p with
              | v u => exact hj
              | s i ks => exact List.mem_cons_of_mem _ hj
          | true =>
            cases p with
            | v u => cases e3
            | s i ks =>
              cases ks with
              | cons k ks => cases e3
              | nil =>
                have e3 : (mutsOf ms ps).map (i :: ·) = some is := e3
                cases q3 : mutsOf ms ps with
                | none => rw [q3] at e3; cases e3
                | some is' =>
                  rw [q3] at e3
                  have e3 : i :: is' = is := Option.some.inj e3
                  subst e3
                  have e2 : (if (isOwn t && !isLkd t) = true then (argS ms ts').map (t :: ·) else none) = some us := e2
                  by_cases ho : (isOwn t && !isLkd t) = true
                  · rw [if_pos ho] at e2
                    cases q5 : argS ms ts' with
                    | none => rw [q5] at e2; cases e2
                    | some us' =>
                      rw [q5] at e2
                      have e2 : t :: us' = us := Option.some.inj e2
                      subst e2
                      obtain ⟨t', v', vr', B1, B2, e4, e5, e6, e7, ro, ri'⟩ := ri
                      subst e4 e5
                      obtain ⟨rl, ev, el⟩ := args_rep (ps := ps) (ms := ms) h32 dB hv (fun j hj => hl j hj) q2 q5 q3 r2 (fun a ha => sA a (List.mem_append_right _ ha)) ri' fun j hj => hs j (List.mem_cons_of_mem _ hj)
                      have et : t' = t := by
                        rw [hs i List.mem_cons_self, ← rdS] at e6
                        rw [q1] at e6; exact (Option.some.inj e6).symm
                      obtain ⟨_, v0, hv0, pv⟩ := r1
                      have pv : v = v0 := pv
                      rw [hv0] at e7; cases e7
                      subst et pv
                      exact ⟨RepL.held (ro.later1 h32) rl, by rw [ev]; rfl, by simpa using el⟩
                  · rw [if_neg ho] at e2; cases e2
def SigIs (σ : Sg) : List Nat → List V → Prop
  | [], vs => vs = []
  | i :: is, vs => ∃ v vr, vs = v :: vr ∧ σ[i]? = some (some v) ∧ SigIs σ is vr
theorem RepIs.sig : ∀ {is : List Nat} {vm : List V} {B : List Addr}, RepIs K H Z σ L is vm B → SigIs σ is vm
  | [], _, _, h => h.1
  | i :: is, _, _, ⟨t, v, vr, B1, B2, e1, _, _, e4, _, h2⟩ => ⟨v, vr, e1, e4, h2.sig⟩
theorem Fa_app {A B : List Addr} : Fa (A ++ B) F = Fa A (Fa B F) := funext fun a => propext ⟨fun z => z.elim (fun z => (List.mem_append.mp z).imp id .inl) fun z => .inr (.inr z), fun z => z.elim (fun z => .inl (List.mem_append_left _ z)) fun z => z.elim (fun z => .inl (List.mem_append_right _ z)) .inr⟩
theorem putIs : ∀ {is : List Nat} {outs : List T} {vm : List V} {B : List Addr} {L L2 : Slots} {O : List Addr}, StOk K H (Fa B G) σ L O → RepOs K H Z outs vm B → (∀ a, Zz O B G a → Z a) → B.Nodup → (∀ a ∈ B, ¬ G a) →
    SigIs σ is vm → (∀ i ∈ is, i < L.length) → setOuts is outs L = some L2 → ∃ O2, (∀ a ∈ O2, a ∈ B ∨ a ∈ O) ∧ StOk K H G σ L2 O2
  | [], [], vm, B, L, L2, O, st, r, w, nd, df, sg, hi, e => by
    cases e
    obtain ⟨_, e2⟩ := r
    subst e2
    exact ⟨O, fun a z => .inr z, by rw [Fa_nil] at st; exact st⟩
  | [], _ :: _, _, _, _, _, _, _, _, _, _, _, _, _, e => by cases e
  | _ :: _, [], _, _, _, _, _, _, _, _, _, _, _, _, e => by cases e
  | i :: is, t :: outs, vm, B, L, L2, O, st, ⟨v, vr, A1, A2, e1, e2, hk, r1, r2⟩, w, nd, df, sg, hi, e => by
    subst e1 e2
    obtain ⟨v', vr', e3, e4, sg'⟩ := sg
    cases e3
    rw [List.nodup_append] at nd
    rw [Fa_app] at st
    obtain ⟨O1, s1, st1⟩ := st.put (i := i) (t := t) (v := v) (hi i List.mem_cons_self) (r1.later1 fun a z => w a (by
      rcases z with z | z | z | z
      · exact .inl z
      · exact .inr (.inl (List.mem_append_left _ z))
      · exact .inr (.inl (List.mem_append_right _ z))
      · exact .inr (.inr z))) nd.1 fun a ha z => z.elim (fun z => nd.2.2 a ha a z rfl) (df a (List.mem_append_left _ ha))
    rw [set_self e4] at st1
    obtain ⟨O2, s2, st2⟩ := putIs st1 r2 (fun a z => w a (by
      rcases z with z | z | z
      · exact (s1 a z).elim (fun z => .inr (.inl (List.mem_append_left _ z))) .inl
      · exact .inr (.inl (List.mem_append_right _ z))
      · exact .inr (.inr z))) nd.2.1 (fun a ha => df a (List.mem_append_right _ ha)) sg' (fun j hj => by rw [List.length_set]; exact hi j (List.mem_cons_of_mem _ hj)) e
    refine ⟨O2, fun a ha => ?_, st2⟩
    rcases s2 a ha with z | z
    · exact .inl (List.mem_append_right _ z)
    · exact (s1 a z).imp (List.mem_append_left _) id
theorem setOuts_eq : ∀ {is : List Nat} {outs : List T} {L M : Slots}, L.length = M.length → (∀ k, is.contains k = false → L[k]? = M[k]?) → setOuts is outs L = setOuts is outs M
  | [], [], L, M, _, h => congrArg some (List.ext_getElem? fun k => h k rfl)
  | [], _ :: _, _, _, _, _ => rfl
  | _ :: _, [], _, _, _, _ => rfl
  | i :: is, t :: outs, L, M, hl, h => setOuts_eq (is := is) (outs := outs) (by simpa using hl) fun k hk => by
    by_cases e : i = k
    · subst e
      by_cases hi : i < L.length
      · rw [List.getElem?_set_self hi, List.getElem?_set_self (by omega)]
      · rw [List.getElem?_eq_none (by simpa using hi), List.getElem?_eq_none (by simp; omega)]
    · rw [List.getElem?_set_ne e, List.getElem?_set_ne e]
      exact h k (by simp only [List.contains_cons, Bool.or_eq_false_iff]; exact ⟨by simpa using fun q => e q.symm, hk⟩)
end
end TV

set_option Elab.async false
set_option linter.all false
set_option maxRecDepth 100000
set_option maxHeartbeats 4000000
/-! TV19: a call is served, joined. -/
namespace TV
open PySem PySem.Spec PyProof.Rows L2

section
variable {Φ : Funs} {sg : String → List Bool} {W : WX} {mg : Str → Option Value}
section
variable {K : PySem.W.Frag} {H H0 : Hp} {F : Fb} {σ : Sg} {L : Slots} {O A O0 : List Addr} {f : String} {ps : List Opd} {vs : List V} {Q : VK}
theorem mutsOf_in : ∀ {ps : List Opd} {ms : List Bool} {is : List Nat} {ts : List T}, mutsOf ms ps = some is → rds L ps = some ts → ∀ i ∈ is, ∃ t, slot L i = some t
  | [], ms, is, ts, e, _ => by
    have : is = [] := by cases ms with
      | nil => cases e; rfl
      | cons b ms => cases b <;> cases e <;> rfl
    subst this
    exact fun i z => by cases z
  | p :: ps, ms, is, ts, e, e2 => by
    have e2 : (rd L p).bind (fun t => (rds L ps).bind fun ts => some (t :: ts)) = some ts := e2
    cases q1 : rd L p with
    | none => rw [q1] at e2; cases e2
    | some t =>
      rw [q1] at e2
      cases q2 : rds L ps with
      | none => rw [q2] at e2; cases e2
      | some ts' =>
        cases ms with
        | nil => cases e; exact fun i z => by cases z
        | cons b ms => cases b with
          | false => exact mutsOf_in (ms := ms) e q2
          | true => cases p with
            | v u => cases e
            | s i ks => cases ks with
              | cons k ks => cases e
              | nil =>
                have e : (mutsOf ms ps).map (i :: ·) = some is := e
                cases q3 : mutsOf ms ps with
                | none => rw [q3] at e; cases e
                | some is' =>
                  rw [q3] at e
                  have e : i :: is' = is := Option.some.inj e
                  subst e
                  intro j hj
                  rcases List.mem_cons.mp hj with hj | hj
                  · subst hj; exact ⟨t, by rw [← rdS]; exact q1⟩
                  · exact mutsOf_in (ms := ms) q3 q2 j hj
/-- behind the call: what was taken out goes back in -/
theorem call_back {is : List Nat} {vm : List V} {B O' B' A' : List Addr} {L0 L2 : Slots} {outs : List T} {H' : Hp} {Z' : Fb} (m : Mid K H0 O0 H F σ L O A) (pO : ∀ a, a ∈ B ∨ a ∈ O' → a ∈ O) (dB : ∀ a ∈ B, ¬ Fa A F a ∧ a ∉ O')
    (st : StOk K H (Fa B (Fa A F)) σ (wipeL L0 is) O') (hi : ∀ i ∈ is, i < L0.length) (sg : SigIs σ is vm) (ro : RepOs K H' Z' outs vm B') (wO : ∀ a, Zz O' B' (Fa A' F) a → Z' a) (nd : (B' ++ A').Nodup) (df : ∀ a ∈ B' ++ A', ¬ F a)
    (th : ∀ a ∈ A', H' a ≠ none) (g : Grow H H' B (B' ++ A')) (e : setOuts is outs L0 = some L2) :
    ∃ O2, (∀ a ∈ O2, a ∈ B' ∨ a ∈ O') ∧ Mid K H0 O0 H' F σ L2 O2 A' := by
  have fF : ∀ a, F a → H a ≠ none := fun a z => st.fth a (.inr (.inr z))
  have kp : ∀ a o, a ∉ B → H a = some o → H' a = some o := g.keep
  rw [List.nodup_append] at nd
  have st1 : StOk K H' (Fa B' (Fa A' F)) σ (wipeL L0 is) O' := by
    refine st.later (fun a o z e => kp a o (fun y => z (.inl y)) e) (fun a z => ?_) fun a z => ?_
    · rcases z with z | z | z
      · exact (g.new a (List.mem_append_left _ z)).imp .inl id
      · exact (g.new a (List.mem_append_right _ z)).imp .inl id
      · exact .inl (.inr (.inr z))
    · rcases z with z | z | z
      · exact ro.there _ _ _ a z
      · exact th a z
      · cases q : H a with
        | none => exact absurd q (fF a z)
        | some o => rw [kp a o (fun y => (dB a y).1 (.inr z)) q]; exact fun e => nomatch e
  rw [setOuts_eq (M := wipeL L0 is) wipeL_length.symm fun k hk => (wipeL_out hk).symm] at e
  obtain ⟨O2, s2, st2⟩ := putIs st1 ro wO nd.1 (fun a ha z => z.elim (fun z => nd.2.2 a ha a z rfl) (df a (List.mem_append_left _ ha))) sg (fun i h => by rw [wipeL_length]; exact hi i h) e
  refine ⟨O2, s2, st2, nd.2.1, fun a ha => df a (List.mem_append_right _ ha), fun a o ha e => kp a o (fun z => ?_) (m.gr.keep a o ha e), fun a ha => ?_, fun a o u e => g.fz a o u (m.gr.fz a o u e)⟩
  · exact (m.gr.new a (List.mem_append_left _ (pO a (.inl z)))).elim ha fun q => by rw [q] at e; cases e
  · have : a ∈ O' ∨ a ∈ B' ++ A' := by
      rcases List.mem_append.mp ha with ha | ha
      · exact (s2 a ha).elim (fun z => .inr (List.mem_append_left _ z)) .inl
      · exact .inr (List.mem_append_right _ ha)
    rcases this with z | z
    · exact m.gr.new a (List.mem_append_left _ (pO a (.inr z)))
    · rcases g.new a z with z | z
      · exact m.gr.new a (List.mem_append_left _ (pO a (.inl z)))
      · exact m.gr.free z
theorem call_sound (m : Mid K H0 O0 H F σ L O A) (r : RepQs K H (Zz O A F) σ ps vs A)
    (a : Aft K mg W σ F O0 H0 (callRun Φ sg f ps L) fun t L' H' O' A => ∀ v, isLkd t = false → RepO K H' (Zz O' A F) t v A → Q v H')
    (ha : ∀ ts, Φ f ts ≠ .stuck → ∃ us, argS (sg f) ts = some us) : spF K mg (sg f) (Φ f) vs H Q (WE W σ) := by
  obtain ⟨ts, e1, a⟩ := Aft.onO a
  obtain ⟨is, e2, a⟩ := Aft.onO a
  by_cases hc : (noDup is && is.all (fun i => !(lent (sg f) ps).contains i)) = true
  · rw [if_pos hc] at a
    rw [Bool.and_eq_true] at hc
    obtain ⟨us, eu⟩ := ha ts fun q => by rw [q] at a; exact a.elim
    have dis : ∀ i ∈ is, (lent (sg f) ps).contains i = false := fun i hi => by simpa using List.all_eq_true.mp hc.2 i hi
    have dis' : ∀ i ∈ lent (sg f) ps, is.contains i = false := fun i hi => by
      cases q : is.contains i with
      | false => rfl
      | true => rw [List.contains_iff_mem] at q; have := dis i q; rw [List.contains_iff_mem.mpr hi] at this; cases this
    have inL := mutsOf_in e2 e1
    have hv : ∀ (Z3 : Fb), (∀ a, Z3 a → a ∈ O ∨ F a) → ∀ t v Aj, (∀ a ∈ Aj, a ∈ A) → RepO K H (Zz O A F) t v Aj → RepS K H Z3 t v := fun Z3 hz t v Aj sj ro =>
      ro.read (fun a z => (hz a z).imp id .inr) t v Aj fun a ha z => (hz a z).elim (fun z => m.st.df a z (.inl (sj a ha))) fun z => m.df a (sj a ha) z
    -- both ways: L0 with O' stays, B goes
    have go : ∀ (L0 : Slots) (vm : List V) (B O' : List Addr) (F' : Fb), (∀ a, F' a → a ∈ O' ∨ F a) → (∀ a, F a → F' a) → (∀ a, a ∈ B ∨ a ∈ O' → a ∈ O) → B.Nodup → (∀ a ∈ B, ¬ Fa A F a ∧ a ∉ O') → RepIs K H (Zz O' B (Fa A F)) σ L0 is vm B → StOk K H (Fa B (Fa A F)) σ (wipeL L0 is) O' →
        (∀ i ∈ is, slot L0 i = slot L i) → (∀ i ∈ lent (sg f) ps, ∀ t, slot L i = some t → ∃ v, σ[i]? = some (some v) ∧ RepS K H (Zo B F') t v) →
        (∀ c, Φ f ts = .err c → ∀ H' O2 C, mg (Str.ofString c) = some (.ref C) → Mid K H0 O0 H' F σ (wipeL L0 is) O2 [] → W (.ref C) none σ H') → (Φ f ts ≠ .stuck) →
        (∀ rr outs, Φ f ts = .ok rr outs → isLkd rr = false ∧ (∀ B' A' H' v, RepO K H' (Zz B' A' F') rr v A' → ∀ O2, (∀ a ∈ O2, a ∈ B' ∨ a ∈ O') → RepO K H' (Zz O2 A' F) rr v A') ∧
          (∀ B' A' H', RepOs K H' (Zz B' A' F') outs vm B' → ∃ Z', (∀ a, Zz O' B' (Fa A' F) a → Z' a) ∧ RepOs K H' Z' outs vm B') ∧
          ∃ L2, setOuts is outs L0 = some L2 ∧ ∀ H' O2 A' v, Mid K H0 O0 H' F σ L2 O2 A' → RepO K H' (Zz O2 A' F) rr v A' → Q v H') → spF K mg (sg f) (Φ f) vs H Q (WE W σ) := fun L0 vm B O' F' f1 f2 pO nB dB ri st same hl herr hst hok => by
      have hz : ∀ a, Zo B F' a → a ∈ O ∨ F a := fun a z => z.elim (fun z => .inl (pO a (.inl z))) fun z => (f1 a z).imp (fun z => pO a (.inr z)) id
      obtain ⟨rl, ev, el⟩ := args_rep (A := A) (B := B) (Z2 := Zz O' B (Fa A F)) (Z3 := Zo B F') (fun a z => z.elim (fun z => .inr (.inl z)) fun z => (f1 a z).imp id fun z => .inr (.inr z)) (fun _ _ => trivial) (hv _ hz) hl e1 eu e2 r (fun _ z => z) ri same
      have ia : ∀ i ∈ is, i < L0.length := fun i hi => by
        obtain ⟨t, et⟩ := inL i hi
        rw [← same i hi] at et
        exact (List.getElem?_eq_some_iff.mp (slot_get et)).1
      have stF : ∀ a, F' a → H a ≠ none := fun a z => (f1 a z).elim (fun z => st.there a z) fun z => st.fth a (.inr (.inr z))
      refine ⟨F', ts, us, B, eu, el, ⟨B, .refl _, rl, nB, fun a ha z => (f1 a z).elim (dB a ha).2 fun z => (dB a ha).1 (.inr z), stF⟩, ?_⟩
      cases q : Φ f ts with
      | stuck => exact hst q
      | err c =>
        intro H' C eC g
        obtain ⟨O2, _, mid⟩ := call_back (B' := []) (A' := []) (outs := []) (vm := []) (is := []) (L0 := wipeL L0 is) (L2 := wipeL L0 is) (Z' := fun _ => True) m pO dB st (fun _ z => by cases z) rfl ⟨rfl, rfl⟩ (fun _ _ => trivial) .nil (fun _ z => by cases z) (fun _ z => by cases z) g rfl
        exact herr c q H' O2 C eC mid
      | ok rr outs =>
        intro v H' B' A' ro hk rr' nd df g
        obtain ⟨_, h2, h3, L2, h4, h5⟩ := hok rr outs q
        rw [← ev] at ro
        obtain ⟨Z', wZ, ro'⟩ := h3 B' A' H' ro
        obtain ⟨O2, s2, mid⟩ := call_back m pO dB st ia ri.sig ro' wZ nd (fun a ha z => df a ha (f2 a z)) (RepO.there _ _ _ rr') g h4
        exact h5 H' O2 A' v mid (h2 B' A' H' v rr' O2 s2)
    cases q : Φ f ts with
    | stuck => rw [q] at a; exact a.elim
    | err c =>
      rw [q] at a
      obtain ⟨vm, B, O', p, nB, dB, ri, st⟩ := m.st.takeIs hc.1 inL
      refine go L vm B O' F (fun _ z => .inr z) (fun _ z => z) (fun a z => p.mem_iff.mpr (List.mem_append.mpr z)) nB dB ri st (fun _ _ => rfl) (fun i hi t et => ?_) (fun c' e => ?_) (fun e => by rw [q] at e; cases e) fun _ _ e => by rw [q] at e; cases e
      · rw [← slot_wipe (dis' i hi)] at et
        obtain ⟨v, C, h1, h2, h3⟩ := st.at et
        exact ⟨v, h1, h3.read (fun a z => z.elim (fun z => .inr (.inl z)) fun z => .inr (.inr (.inr z))) t v C fun a ha z => st.df a (h2 a ha) (z.imp id .inr)⟩
      · rw [q] at e; cases e
        exact fun H' O2 C eC mid => a H' O2 C eC mid
    | ok rr outs =>
      rw [q] at a
      replace a : Aft K mg W σ F O0 H0 (if isLkd rr = true then .stuck else if (cln rr && clns outs) = true then onO (setOuts is outs L) fun L1 => .ok rr L1 else onO (frzO (sg f) ps L) fun L0 => onO (setOuts is outs L0) fun L1 => .ok rr L1) _ := a
      by_cases hk : isLkd rr = true
      · rw [if_pos hk] at a; exact a.elim
      · rw [if_neg hk] at a
        have hk' : isLkd rr = false := by simpa using hk
        by_cases hcl : (cln rr && clns outs) = true
        · rw [if_pos hcl] at a
          rw [Bool.and_eq_true] at hcl
          obtain ⟨L2, e3, a⟩ := Aft.onO a
          obtain ⟨vm, B, O', p, nB, dB, ri, st⟩ := m.st.takeIs hc.1 inL
          refine go L vm B O' F (fun _ z => .inr z) (fun _ z => z) (fun a z => p.mem_iff.mpr (List.mem_append.mpr z)) nB dB ri st (fun _ _ => rfl) (fun i hi t et => ?_) (fun c' e => by rw [q] at e; cases e) (fun e => by rw [q] at e; cases e) fun r2 o2 e => ?_
          · rw [← slot_wipe (dis' i hi)] at et
            obtain ⟨v, C, h1, h2, h3⟩ := st.at et
            exact ⟨v, h1, h3.read (fun a z => z.elim (fun z => .inr (.inl z)) fun z => .inr (.inr (.inr z))) t v C fun a ha z => st.df a (h2 a ha) (z.imp id .inr)⟩
          · rw [q] at e; cases e
            exact ⟨hk', fun B' A' H' v h O2 _ => h.cln _ _ _ hcl.1, fun B' A' H' h => ⟨fun _ => True, fun _ _ => trivial, h.cln _ _ _ hcl.2⟩, L2, e3, fun H' O2 A' v mid h => a H' O2 A' mid v hk' h⟩
        · rw [if_neg hcl] at a
          obtain ⟨L0, e0, a⟩ := Aft.onO a
          obtain ⟨L2, e3, a⟩ := Aft.onO a
          obtain ⟨Of, s0, st0, g1, g2, g3⟩ := frzO_sound m.st e0
          have same : ∀ i ∈ is, slot L0 i = slot L i := fun i hi => by unfold slot; rw [g1 i (dis i hi)]
          obtain ⟨vm, B, O', p, nB, dB, ri, st⟩ := st0.takeIs hc.1 fun i hi => by rw [same i hi]; exact inL i hi
          refine go L0 vm B O' (fun a => a ∈ O' ∨ F a) (fun _ z => z) (fun _ z => .inr z) (fun a z => s0 a (p.mem_iff.mpr (List.mem_append.mpr z))) nB dB ri st same (fun i hi t et => ?_) (fun c' e => by rw [q] at e; cases e) (fun e => by rw [q] at e; cases e) fun r2 o2 e => ?_
          · obtain ⟨u, eu', et', sh'⟩ := g3 i hi
            rw [et] at eu'; cases eu'
            rw [← slot_wipe (dis' i hi)] at et'
            obtain ⟨v, C, h1, h2, h3⟩ := st.at et'
            obtain ⟨_, h4, _⟩ := h3.nil (shr_own sh')
            exact ⟨v, h1, RepS.unfrz t v (h4.later1 fun a z => by
              rcases z with z | z | z
              · exact .inr (.inl z)
              · exact .inl z
              · exact .inr (.inr (.inr z)))⟩
          · rw [q] at e; cases e
            refine ⟨hk', fun B' A' H' v h O2 s2 => h.later1 fun b z => ?_, fun B' A' H' h => ⟨_, fun b z => ?_, h⟩, L2, e3, fun H' O2 A' v mid h => a H' O2 A' mid v hk' h⟩
            · rcases z with z | z | z
              · exact (s2 b z).imp id fun z => .inr (.inl z)
              · exact .inr (.inl z)
              · exact .inr (.inr (.inr z))
            · rcases z with z | z | z | z
              · exact .inr (.inr (.inl z))
              · exact .inl z
              · exact .inr (.inl z)
              · exact .inr (.inr (.inr z))
  · rw [if_neg hc] at a; exact a.elim
end
end
end TV

set_option Elab.async false
set_option linter.all false
set_option maxRecDepth 100000
set_option maxHeartbeats 4000000
/-! TV20: what a comprehension's block does to the slots; targets. -/
namespace TV
open PySem PySem.Spec PyProof.Rows L2

section
variable {K : PySem.W.Frag} {H H' : Hp} {Z Z' F G : Fb} {σ : Sg} {L : Slots} {O A B : List Addr}
/-- the block's own slots taken out -/
def RepJs (K : PySem.W.Frag) (H : Hp) (Z : Fb) (σ : Sg) (L : Slots) : List Nat → List Addr → Prop
  | [], B => B = []
  | j :: js, B => ∃ B1 B2, B = B1 ++ B2 ∧ ((slot L j = none ∧ B1 = []) ∨ ∃ t v, slot L j = some t ∧ σ[j]? = some (some v) ∧ RepO K H Z t v B1) ∧ RepJs K H Z σ L js B2
theorem RepJs.later (l : Later H H' Z Z') : ∀ {js : List Nat} {B : List Addr}, (∀ a ∈ B, ∀ o, H a = some o → H' a = some o) → RepJs K H Z σ L js B → RepJs K H' Z' σ L js B
  | [], _, _, h => h
  | j :: js, _, k, ⟨B1, B2, e, h1, h2⟩ => by
    subst e
    exact ⟨B1, B2, rfl, h1.imp id fun ⟨t, v, e1, e2, r⟩ => ⟨t, v, e1, e2, RepO.later l _ _ _ (fun a ha => k a (List.mem_append_left _ ha)) r⟩, h2.later l fun a ha => k a (List.mem_append_right _ ha)⟩
theorem RepJs.there : ∀ {js : List Nat} {B : List Addr}, RepJs K H Z σ L js B → ∀ a ∈ B, H a ≠ none
  | [], _, h, a, z => by rw [show _ = [] from h] at z; cases z
  | j :: js, _, ⟨B1, B2, e, h1, h2⟩, a, z => by
    subst e
    rcases List.mem_append.mp z with z | z
    · rcases h1 with ⟨_, e⟩ | ⟨t, v, _, _, r⟩
      · rw [e] at z; cases z
      · exact r.there _ _ _ a z
    · exact h2.there a z
theorem wipe_out {σ : Sg} : ∀ {js : List Nat} {j : Nat}, js.contains j = false → (wipe σ js)[j]? = σ[j]?
  | [], _, _ => rfl
  | i :: is, j, h => by
    simp only [List.contains_cons, Bool.or_eq_false_iff] at h
    show ((wipe σ is).set i none)[j]? = _
    rw [List.getElem?_set_ne (by intro e; subst e; simp at h), wipe_out h.2]
theorem slot_none {i : Nat} (hi : i < L.length) (h : slot L i = none) : L[i]? = some none := by
  unfold slot at h
  rw [List.getElem?_eq_getElem hi] at h ⊢
  exact congrArg some h
theorem set_none_self {j : Nat} (h : slot L j = none) : L.set j none = L := by
  by_cases hi : j < L.length
  · exact set_self (slot_none hi h)
  · exact List.set_eq_of_length_le (by omega)
theorem StOk.setNone (h : StOk K H F σ L O) {j : Nat} (y : Option V) : ∃ O', (∀ a ∈ O', a ∈ O) ∧ StOk K H F (σ.set j y) (L.set j none) O' := by
  obtain ⟨O', s, st⟩ := h.drop j
  by_cases hi : j < L.length
  · exact ⟨O', s, st.reset (by simp [hi])⟩
  · exact ⟨O', s, by rw [List.set_eq_of_length_le (by rw [← h.length]; omega : σ.length ≤ j)]; exact st⟩
theorem StOk.takeJs (h : StOk K H F σ L O) : ∀ {js : List Nat}, noDup js = true →
    ∃ B O', (∀ a, a ∈ B ∨ a ∈ O' ↔ a ∈ O) ∧ B.Nodup ∧ (∀ a ∈ B, ¬ F a ∧ a ∉ O') ∧ RepJs K H (Zz O' B F) σ L js B ∧ StOk K H (Fa B F) (wipe σ js) (wipeL L js) O'
  | [], _ => ⟨[], O, fun a => ⟨fun z => z.elim (fun q => by cases q) id, .inr⟩, .nil, (fun _ z => by cases z), rfl, (by rw [Fa_nil]; exact h)⟩
  | j :: js, nd => by
    have nd : (!js.contains j && noDup js) = true := nd
    simp only [Bool.and_eq_true, Bool.not_eq_true'] at nd
    obtain ⟨B, O', p, n, d, r, st⟩ := h.takeJs nd.2
    cases q : slot L j with
    | none =>
      have q2 : slot (wipeL L js) j = none := by rw [slot_wipe nd.1]; exact q
      have st2 : StOk K H (Fa B F) ((wipe σ js).set j none) ((wipeL L js).set j none) O' := by
        rw [set_none_self q2]
        by_cases hj : j < (wipeL L js).length
        · exact st.reset (slot_none hj q2)
        · rw [List.set_eq_of_length_le (by rw [← st.length]; omega)]; exact st
      exact ⟨B, O', p, n, d, ⟨[], B, rfl, .inl ⟨q, rfl⟩, r⟩, st2⟩
    | some t =>
      have e2 := slot_get q
      rw [← wipeL_out (L := L) nd.1] at e2
      obtain ⟨v, A, O2, h1, p2, r2, st2, n2, d2⟩ := st.take e2
      have sub : ∀ a, (a ∈ A ∨ a ∈ O2) → a ∈ O' := fun a z => p2.mem_iff.mpr (List.mem_append.mpr z)
      rw [wipe_out nd.1] at h1
      have st3 := st2.reset (i := j) (y := none) (by
        have hj : j < (wipeL L js).length := (List.getElem?_eq_some_iff.mp e2).1
        simp [hj])
      refine ⟨A ++ B, O2, fun a => ⟨fun z => ?_, fun z => ?_⟩, ?_, fun a ha => ?_, ⟨A, B, rfl, .inr ⟨t, v, q, h1, r2.later1 fun b z => ?_⟩, r.later (later_less fun b z => ?_) fun _ _ _ e => e⟩, st3.less fun a z => ?_⟩
      · rcases z with z | z
        · rcases List.mem_append.mp z with z | z
          · exact (p a).mp (.inr (sub a (.inl z)))
          · exact (p a).mp (.inl z)
        · exact (p a).mp (.inr (sub a (.inr z)))
      · rcases (p a).mpr z with z | z
        · exact .inl (List.mem_append_right _ z)
        · exact (List.mem_append.mp (p2.mem_iff.mp z)).imp (List.mem_append_left _) id
      · rw [List.nodup_append]
        exact ⟨n2, n, fun a ha b hb e => by subst e; exact (d a hb).2 (sub a (.inl ha))⟩
      · rcases List.mem_append.mp ha with ha | ha
        · exact ⟨fun z => d2 a ha (.inr z), fun z => st2.df a z (.inl ha)⟩
        · exact ⟨(d a ha).1, fun z => (d a ha).2 (sub a (.inr z))⟩
      · rcases z with z | z | z
        · exact .inl z
        · exact (List.mem_append.mp z).elim (fun z => .inr (.inl z)) fun z => .inr (.inr (.inl z))
        · exact .inr (.inr (.inr z))
      · rcases z with z | z | z
        · exact .inl (sub b (.inr z))
        · exact (List.mem_append.mp z).elim (fun z => .inl (sub b (.inl z))) fun z => .inr (.inl z)
        · exact .inr (.inr z)
      · rcases z with z | z
        · exact (List.mem_append.mp z).imp id .inl
        · exact .inr (.inr z)
theorem backL_set {L0 : Slots} : ∀ {js : List Nat} {j : Nat} {x : Option T} {L : Slots}, js.contains j = false → (backL L0 L js).set j x = backL L0 (L.set j x) js
  | [], _, _, _, _ => rfl
  | i :: is, j, x, L, h => by
    simp only [List.contains_cons, Bool.or_eq_false_iff] at h
    show ((backL L0 L is).set i _).set j x = (backL L0 (L.set j x) is).set i _
    rw [← backL_set h.2, List.set_comm _ _ (by intro e; subst e; simp at h)]
theorem StOk.putJs {L0 : Slots} : ∀ {js : List Nat} {B : List Addr} {L : Slots} {O : List Addr}, noDup js = true → StOk K H (Fa B G) (wipe σ js) L O → RepJs K H Z σ L0 js B → (∀ a, Zz O B G a → Z a) → B.Nodup → (∀ a ∈ B, ¬ G a) →
    ∃ O2, (∀ a ∈ O2, a ∈ B ∨ a ∈ O) ∧ StOk K H G σ (backL L0 L js) O2
  | [], B, L, O, _, st, r, _, _, _ => by
    have e : B = [] := r
    subst e
    exact ⟨O, fun _ z => .inr z, by rw [Fa_nil] at st; exact st⟩
  | j :: js, B, L, O, nd, st, ⟨B1, B2, e, h1, h2⟩, w, nB, df => by
    have nd : (!js.contains j && noDup js) = true := nd
    simp only [Bool.and_eq_true, Bool.not_eq_true'] at nd
    subst e
    rw [List.nodup_append] at nB
    have st : StOk K H (Fa (B1 ++ B2) G) ((wipe σ js).set j none) L O := st
    show ∃ O2, _ ∧ StOk K H G σ ((backL L0 L js).set j (slot L0 j)) O2
    rw [backL_set nd.1]
    have hw := wipe_out (σ := σ) nd.1
    rcases h1 with ⟨q, e⟩ | ⟨t, v, q, hv, r⟩
    · subst e
      obtain ⟨O1, s1, st1⟩ := st.setNone (j := j) ((wipe σ js)[j]?.bind id)
      rw [List.set_set] at st1
      have e1 : (wipe σ js).set j ((wipe σ js)[j]?.bind id) = wipe σ js := by
        cases q2 : (wipe σ js)[j]? with
        | none => exact List.set_eq_of_length_le (List.getElem?_eq_none_iff.mp q2)
        | some y => exact set_self (by rw [q2]; rfl)
      rw [e1] at st1
      obtain ⟨O2, s2, st2⟩ := StOk.putJs (L0 := L0) nd.2 (st1.less (F' := Fa B2 G) fun a z => z.imp (List.mem_append_right _) id) h2 (fun a z => w a (z.imp (s1 a) fun z => z.imp (List.mem_append_right _) id)) nB.2.1 fun a ha => df a (List.mem_append_right _ ha)
      refine ⟨O2, fun a ha => (s2 a ha).imp (List.mem_append_right _) (s1 a), by rw [q]; exact st2⟩
    · rw [Fa_app] at st
      have hj : j < L.length := by
        rw [st.length, List.length_set]
        have := (List.getElem?_eq_some_iff.mp hv).1
        rw [wipe_length]; exact this
      obtain ⟨O1, s1, st1⟩ := st.put (i := j) (t := t) (v := v) hj (r.later1 fun a z => w a (by
        rcases z with z | z | z | z
        · exact .inl z
        · exact .inr (.inl (List.mem_append_left _ z))
        · exact .inr (.inl (List.mem_append_right _ z))
        · exact .inr (.inr z))) nB.1 fun a ha z => z.elim (fun z => nB.2.2 a ha a z rfl) (df a (List.mem_append_left _ ha))
      rw [List.set_set, set_self (by rw [hw]; exact hv)] at st1
      obtain ⟨O2, s2, st2⟩ := StOk.putJs (L0 := L0) nd.2 st1 h2 (fun a z => w a (by
        rcases z with z | z | z
        · exact (s1 a z).elim (fun z => .inr (.inl (List.mem_append_left _ z))) .inl
        · exact .inr (.inl (List.mem_append_right _ z))
        · exact .inr (.inr z))) nB.2.1 fun a ha => df a (List.mem_append_right _ ha)
      refine ⟨O2, fun a ha => ?_, by rw [q]; exact st2⟩
      rcases s2 a ha with z | z
      · exact .inl (List.mem_append_right _ z)
      · exact (s1 a z).imp (List.mem_append_left _) id
end
end TV

set_option Elab.async false
set_option linter.all false
set_option maxRecDepth 100000
set_option maxHeartbeats 4000000
/-! TV21: targets; comprehensions. -/
namespace TV
open PySem PySem.Spec PyProof.Rows L2

def setMany (σ : Sg) (ps : List (Nat × V)) : Sg := ps.foldl (fun σ p => σ.set p.1 (some p.2)) σ
def gEnt (K : PySem.W.Frag) (tg : Tg) : TG := fun v σ H Q => match tg with
  | .one j => Q (σ.set j (some v)) H
  | .many js => ∃ a xs, v = .ref a ∧ (SqT K H a xs ∨ SqL K H a xs) ∧ xs.length = js.length ∧ Q (setMany σ (js.zip xs)) H
def mNms (Γ : Gm) (lo : Str → Bool) : List Nat → List Expr → Bool
  | [], [] => true
  | j :: js, .Name x _ :: es => decide (Γ.N[j]? = some x) && lo x && mNms Γ lo js es
  | _, _ => false
def mTg (Γ : Gm) (lo : Str → Bool) (tg : Tg) (e : Expr) : Bool :=
  match tg with
  | .one j => match e with
    | .Name x _ => decide (Γ.N[j]? = some x) && lo x
    | _ => false
  | .many js => match e with
    | .Tuple es _ _ => mNms Γ lo js es
    | _ => false
section
variable {Γ : Gm} {X : Cx} {lo : Str → Bool}
def LoOk (X : Cx) (lo : Str → Bool) : Prop := ∀ x, lo x = true → Loc X.env.scope x ∧ (X.fn x = true ∨ X.env.scope.names.lookup x = some .local)
def gAll (js : List Nat) : TGs := fun vs σ H Q => vs.length = js.length ∧ Q (setMany σ (js.zip vs)) H
theorem PGs.to {es : List Expr} {t t' : TGs} (h : PGs X es t) (w : ∀ vs σ H Q, t' vs σ H Q → t vs σ H Q) : PGs X es t' := ⟨fun pins s σ H vs us Q I r q => h.run pins s σ H vs us Q I r (w _ _ _ _ q)⟩
theorem PG.to {e : Expr} {t t' : TG} (h : PG X e t) (w : ∀ v σ H Q, t' v σ H Q → t v σ H Q) : PG X e t' := ⟨fun pins s σ H v u Q I r q => h.run pins s σ H v u Q I r (w _ _ _ _ q)⟩
theorem mNms_sound (hN : X.N = Γ.N) (nd : X.N.Nodup) (hl : LoOk X lo) : ∀ {js : List Nat} {es : List Expr}, mNms Γ lo js es = true →
    PGs X es (gAll js) ∧ (assignEach es X.env).length = js.length ∧ (assignEach es X.env).findIdx? (·.1) = none
  | [], [], _ => by
    refine ⟨PGs.to pgs_nil fun vs σ H Q q => ?_, rfl, rfl⟩
    obtain ⟨h1, h2⟩ := q
    cases vs with
    | nil => exact ⟨rfl, h2⟩
    | cons _ _ => cases h1
  | [], _ :: _, h => by cases h
  | _ :: _, [], h => by cases h
  | j :: js, e :: es, h => by
    cases e <;> first | cases h | skip
    rename_i x p
    have h : (decide (Γ.N[j]? = some x) && lo x && mNms Γ lo js es) = true := h
    simp only [Bool.and_eq_true] at h
    obtain ⟨p1, p2, p3⟩ := mNms_sound hN nd hl h.2
    obtain ⟨l1, l2⟩ := hl x h.1.2
    refine ⟨PGs.to (pgs_cons (pg_name nd (by rw [hN]; exact of_decide_eq_true h.1.1) l1 l2) p1 rfl) fun vs σ H Q ⟨h1, h2⟩ => ?_, by show _ + 1 = _ + 1; rw [p2], ?_⟩
    · cases vs with
      | nil => cases h1
      | cons v vs => exact ⟨v, vs, rfl, Nat.succ.inj h1, h2⟩
    · show ((false, assign (.Name x p) X.env) :: assignEach es X.env).findIdx? (·.1) = none
      rw [List.findIdx?_cons, p3]; rfl
theorem mTg_sound (hN : X.N = Γ.N) (nd : X.N.Nodup) (hc : X.calm = true) (hl : LoOk X lo) {tg : Tg} {e : Expr} (h : mTg Γ lo tg e = true) : PG X e (gEnt X.K tg) := by
  unfold mTg at h
  split at h
  · split at h
    · rw [Bool.and_eq_true] at h
      obtain ⟨l1, l2⟩ := hl _ h.2
      exact PG.to (pg_name nd (by rw [hN]; exact of_decide_eq_true h.1) l1 l2) fun v σ H Q q => q
    · cases h
  · split at h
    · obtain ⟨p1, p2, p3⟩ := mNms_sound hN nd hl h
      refine ⟨fun pins s σ H v u Q I r ⟨a, xs, e, hq, hn, q⟩ => ?_⟩
      rcases hq with hq | hq
      · exact (pg_tup hc p1 p2 p3).run pins s σ H v u Q I r ⟨a, xs, e, hq, hn, hn, q⟩
      · exact (pg_lst hc p1 p2 p3).run pins s σ H v u Q I r ⟨a, xs, e, hq, hn, hn, q⟩
    · cases h
end
section
variable {K : PySem.W.Frag} {H H' : Hp} {Z Z' F G : Fb} {σ : Sg} {L : Slots} {O A B : List Addr}
theorem StOk.setOne (h : StOk K H F σ L O) {j : Nat} {t : T} {v : V} (r : RepO K H (Zo O F) t v []) : ∃ O', (∀ a ∈ O', a ∈ O) ∧ StOk K H F (σ.set j (some v)) (L.set j (some t)) O' := by
  by_cases hj : j < L.length
  · obtain ⟨O', s, st⟩ := StOk.put (A := []) (F := F) (by rw [Fa_nil]; exact h) hj (r.later1 fun a z => z.imp id fun z => z.elim (fun q => by cases q) id) .nil (fun _ z => by cases z)
    exact ⟨O', fun a ha => (s a ha).elim (fun q => by cases q) id, st⟩
  · rw [List.set_eq_of_length_le (by omega : L.length ≤ j), List.set_eq_of_length_le (by rw [← h.length]; omega : σ.length ≤ j)]
    exact ⟨O, fun _ z => z, h⟩
def setManyT (L : Slots) (ps : List (Nat × T)) : Slots := ps.foldl (fun L p => L.set p.1 (some p.2)) L
theorem StOk.setMany : ∀ {js : List Nat} {ts : List T} {vs : List V} {σ : Sg} {L : Slots} {O : List Addr}, StOk K H F σ L O → RepSs K H (Zo O F) ts vs → shrs ts = true →
    ∃ O', (∀ a ∈ O', a ∈ O) ∧ StOk K H F (setMany σ (js.zip vs)) (setManyT L (js.zip ts)) O' ∧ (setMany σ (js.zip vs)).length = σ.length ∧ ∀ k, js.contains k = false → (setMany σ (js.zip vs))[k]? = σ[k]?
  | [], _, _, _, _, O, st, _, _ => ⟨O, fun _ z => z, st, rfl, fun _ _ => rfl⟩
  | j :: js, [], vs, _, _, O, st, r, _ => by
    have e : vs = [] := r
    subst e
    exact ⟨O, fun _ z => z, st, rfl, fun _ _ => rfl⟩
  | j :: js, t :: ts, _, σ, L, O, st, ⟨v, vr, e, hk, r1, r2⟩, sh => by
    subst e
    simp only [shrs, Bool.and_eq_true] at sh
    obtain ⟨O1, s1, st1⟩ := st.setOne (j := j) (r1.held0 sh.1)
    obtain ⟨O2, s2, st2, hl, hk⟩ := StOk.setMany (js := js) st1 (r2.later1 fun a z => z.imp (s1 a) id) sh.2
    refine ⟨O2, fun a ha => s1 a (s2 a ha), st2, hl.trans List.length_set, fun k hk' => ?_⟩
    simp only [List.contains_cons, Bool.or_eq_false_iff] at hk'
    have := hk k hk'.2
    rw [List.getElem?_set_ne (by intro e; subst e; simp at hk')] at this
    exact this
/-- an item enters -/
theorem ent_sound (st : StOk K H F σ L O) {tg : Tg} {t : T} {x : V} {L' : Slots} (r : RepS K H (Zo O F) t x) (sh : shr t = true) (e : entT tg t L = some L') {Q : Sg → Hp → Prop}
    (k : ∀ σ' O', (∀ a ∈ O', a ∈ O) → StOk K H F σ' L' O' → σ'.length = σ.length → (∀ k, (tgs tg).contains k = false → σ'[k]? = σ[k]?) → Q σ' H) : gEnt K tg x σ H Q := by
  cases tg with
  | one j =>
    cases e
    obtain ⟨O', s, st'⟩ := st.setOne (j := j) (r.held0 sh)
    exact k _ O' s st' (by simp) fun i hi => by
      simp only [tgs, List.contains_cons, Bool.or_eq_false_iff] at hi
      rw [List.getElem?_set_ne (by intro e; subst e; simp at hi)]
  | many js =>
    have fin : ∀ {xs : List T} {vs : List V} {a : Addr}, x = .ref a → (SqT K H a vs ∨ SqL K H a vs) → RepSs K H (Zo O F) xs vs → shrs xs = true → (if xs.length = js.length then some (setManyT L (js.zip xs)) else none) = some L' → gEnt K (.many js) x σ H Q :=
      fun {xs vs a} ex hq rs sh e => by
        by_cases hl : xs.length = js.length
        · rw [if_pos hl] at e
          cases e
          obtain ⟨O', s, st', h1, h2⟩ := st.setMany (js := js) rs sh
          exact ⟨a, vs, ex, hq, by rw [← rs.length]; exact hl, k _ O' s st' h1 h2⟩
        · rw [if_neg hl] at e; cases e
    cases t with
    | tup o xs =>
      obtain ⟨a, vs, ex, h1, n, rs⟩ := r
      exact fin ex (.inl (.inl (.inl h1))) rs (by simp [shr] at sh; exact sh.2) e
    | lst o xs =>
      obtain ⟨a, vs, ex, h1, n, rs⟩ := r
      exact fin ex (.inr (.inl (.inl h1))) rs (by simp [shr] at sh; exact sh.2) e
    | _ => cases e
theorem setManyT_eq : ∀ {js : List Nat} {ts : List T} {L M : Slots}, js.length = ts.length → L.length = M.length → (∀ k, js.contains k = false → L[k]? = M[k]?) → setManyT L (js.zip ts) = setManyT M (js.zip ts)
  | [], _, L, M, _, _, h => List.ext_getElem? fun k => h k rfl
  | _ :: _, [], _, _, h, _, _ => by cases h
  | i :: is, t :: ts, L, M, hn, hl, h => setManyT_eq (js := is) (ts := ts) (L := L.set i (some t)) (M := M.set i (some t)) (Nat.succ.inj hn) (by simpa using hl) fun k hk => by
    by_cases e : i = k
    · subst e
      by_cases hi : i < L.length
      · rw [List.getElem?_set_self hi, List.getElem?_set_self (by omega)]
      · rw [List.getElem?_eq_none (by simpa using hi), List.getElem?_eq_none (by simp; omega)]
    · rw [List.getElem?_set_ne e, List.getElem?_set_ne e]
      exact h k (by simp only [List.contains_cons, Bool.or_eq_false_iff]; exact ⟨by simpa using fun q => e q.symm, hk⟩)
theorem ent_wipe {tg : Tg} {t : T} {L : Slots} : entT tg t (wipeL L (tgs tg)) = entT tg t L := by
  cases tg with
  | one j =>
    show some ((L.set j none).set j (some t)) = some (L.set j (some t))
    rw [List.set_set]
  | many js =>
    have key : ∀ xs : List T, (if xs.length = js.length then some (setManyT (wipeL L js) (js.zip xs)) else none) = if xs.length = js.length then some (setManyT L (js.zip xs)) else none := fun xs => by
      by_cases hl : xs.length = js.length
      · rw [if_pos hl, if_pos hl, setManyT_eq hl.symm wipeL_length fun k hk => wipeL_out hk]
      · rw [if_neg hl, if_neg hl]
    cases t with
    | tup o xs => exact key xs
    | lst o xs => exact key xs
    | _ => rfl
theorem wipe_in {σ : Sg} : ∀ {js : List Nat} {k : Nat}, js.contains k = true → (wipe σ js)[k]? = if k < σ.length then some none else none
  | [], _, h => by cases h
  | i :: is, k, h => by
    show ((wipe σ is).set i none)[k]? = _
    by_cases e : i = k
    · subst e
      by_cases hi : i < σ.length
      · rw [if_pos hi, List.getElem?_set_self (by rw [wipe_length]; exact hi)]
      · rw [if_neg hi, List.getElem?_eq_none (by rw [List.length_set, wipe_length]; omega)]
    · rw [List.getElem?_set_ne e]
      simp only [List.contains_cons, Bool.or_eq_true] at h
      exact wipe_in (h.resolve_left (by simpa using fun q => e q.symm))
theorem wipe_eq {σ σ' : Sg} {js : List Nat} (hl : σ'.length = σ.length) (h : ∀ k, js.contains k = false → σ'[k]? = σ[k]?) : wipe σ' js = wipe σ js :=
  List.ext_getElem? fun k => by
    cases q : js.contains k with
    | true => rw [wipe_in q, wipe_in q, hl]
    | false => rw [wipe_out q, wipe_out q, h k q]
theorem wipe_wipe {σ : Sg} {js : List Nat} : wipe (wipe σ js) js = wipe σ js := wipe_eq (wipe_length σ js) fun k hk => wipe_out hk
theorem backL_wipe {L0 L : Slots} : ∀ {js : List Nat}, noDup js = true → backL L0 (wipeL L js) js = backL L0 L js
  | [], _ => rfl
  | j :: js, nd => by
    have nd : (!js.contains j && noDup js) = true := nd
    simp only [Bool.and_eq_true, Bool.not_eq_true'] at nd
    show (backL L0 ((wipeL L js).set j none) js).set j _ = (backL L0 L js).set j _
    rw [← backL_set nd.1, List.set_set, backL_wipe nd.2]
end
end TV

set_option Elab.async false
set_option linter.all false
set_option maxRecDepth 100000
set_option maxHeartbeats 4000000
/-! TV22: a comprehension is served. -/
namespace TV
open PySem PySem.Spec PyProof.Rows L2

/-- a walk over the items ts, none of them held alone; Fx: what they are none of -/
structure ItR (K : PySem.W.Frag) (J : It) (Fx : Fb) (ts : List T) (Gd : Hp → List Addr → Prop) : Prop where
  goes : ∀ i H O, i < ts.length → Gd H O → J.go i H
  stops : ∀ H O, Gd H O → J.stop ts.length H
  yld : ∀ i H O x H' t, ts[i]? = some t → Gd H O → (∀ a, Zo O Fx a → H a ≠ none) → J.yld i H x H' → (∀ a o, H a = some o → H' a = some o) ∧ RepS K H' (Zo O Fx) t x ∧ Gd H' O
  sh : shrs ts = true
  grow : ∀ H H' O O', Grow H H' O O' → Gd H O → Gd H' O'
/-- what goes back into its slot behind the walk -/
def BackR (K : PySem.W.Frag) (H : Hp) (σ : Sg) (Z : Fb) (A : List Addr) (r : Option (Nat × T)) : Prop :=
  match r with
  | none => True
  | some (i, t) => ∃ v B, σ[i]? = some (some v) ∧ (∀ a ∈ B, a ∈ A) ∧ B.Nodup ∧ RepO K H Z t v B
def tI (K : PySem.W.Frag) (mg : Str → Option Value) (W : WX) (e : Slots → Out (List T × Option (Nat × T))) : TI := fun σ H R =>
  ∃ F L O, StOk K H F σ L O ∧ Aft K mg W σ F O H (e L) fun r L' H' O' A => ∀ J Gd, ItR K J (Fa A F) r.1 Gd → Gd H' O' → BackR K H' σ (Zz O' A F) A r.2 → R J H'
def tCond (K : PySem.W.Frag) (mg : Str → Option Value) (W : WX) (Φ : Funs) (sg : String → List Bool) : Exs → TT
  | .nil => tYes
  | .cons c _ => tT K mg W (evb Φ sg c)
def condOk : Exs → Bool
  | .nil => true
  | .cons _ .nil => true
  | _ => false
abbrev W0 : WX := fun _ _ _ _ => False
section
variable {K : PySem.W.Frag} {mg : Str → Option Value} {Φ : Funs} {sg : String → List Bool} {H H' H1 H2 : Hp} {Z Z' F G : Fb} {σ : Sg} {L : Slots} {O O1 O2 A B R : List Addr} {W : WX}
theorem StOk.wipes (h : StOk K H F σ L O) : ∀ {js : List Nat}, ∃ O', (∀ a ∈ O', a ∈ O) ∧ StOk K H F (wipe σ js) (wipeL L js) O'
  | [] => ⟨O, fun _ z => z, h⟩
  | j :: js => by
    obtain ⟨O1, s1, st1⟩ := h.wipes (js := js)
    obtain ⟨O2, s2, st2⟩ := st1.setNone (j := j) none
    exact ⟨O2, fun a ha => s1 a (s2 a ha), st2⟩
theorem Grow.step (g : Grow H1 H O1 (O ++ R)) (s : Grow H H2 O O2) : Grow H1 H2 O1 (O2 ++ R) :=
  ⟨fun a o ha e => s.keep a o (fun z => (g.new a (List.mem_append_left _ z)).elim ha fun q => by rw [q] at e; cases e) (g.keep a o ha e), fun a ha => by
    rcases List.mem_append.mp ha with z | z
    · rcases s.new a z with z | z
      · exact g.new a (List.mem_append_left _ z)
      · exact g.free z
    · exact g.new a (List.mem_append_right _ z), fun a o u e => s.fz a o u (g.fz a o u e)⟩
theorem noErr_ok' {α β : Type} {x : Out α} {k : α → Slots → Out β} {b : β} {L' : Slots} (h : noErr x k = .ok b L') : ∃ a L1, x = .ok a L1 ∧ k a L1 = .ok b L' := by
  cases x with
  | ok a L1 => exact ⟨a, L1, rfl, h⟩
  | _ => cases h
theorem cond_ok {cond : Exs} (hc : condOk cond = true) {b : Bool} {L' : Slots} (e : evt Φ sg cond L = .ok b L') (st : StOk K H F σ L O) {Q : Bool → Hp → Prop}
    (k : ∀ H' O' A, Mid K H O H' F σ L' O' A → Q b H') : tCond K mg W Φ sg cond σ H Q := by
  cases cond with
  | nil =>
    cases e
    exact k H O [] (Mid.start st)
  | cons c cs =>
    cases cs with
    | cons _ _ => cases hc
    | nil =>
      have e2 : evb Φ sg c L = .ok b L' := e
      exact ⟨F, L, O, st, by rw [e2]; exact k⟩
/-- from H to H2, what isn't in Z is kept, and what is reserved -/
theorem later_grow {Ac : List Addr} {G : Fb} (s : Grow H H2 O O2) : Later H H2 (Zz O Ac G) (Zz O2 Ac G) :=
  ⟨fun a o z e => s.keep a o (fun y => z (.inl y)) e, fun a z => by
    rcases z with z | z
    · exact (s.new a z).imp .inl id
    · exact .inl (.inr z)⟩
/-- what holds at turn i of a comprehension -/
structure LcP (K : PySem.W.Frag) (ent : T → Slots → Option Slots) (cnd : Slots → Out Bool) (el : Slots → Out T) (ts : List T) (L2 : Slots) (ysA : List T) (σ : Sg) (js : List Nat) (G : Fb) (B : List Addr) (D : Addr) (H1 : Hp) (O1 : List Addr) (i : Nat) (H : Hp) : Prop where
  ex : ∃ Li ys ysR acc Ac O2, compRun ent cnd el (ts.drop i) Li = .ok ysR L2 ∧ ysA = ys ++ ysR ∧ ys.length ≤ i ∧ StOk K H (Fa (D :: Ac) G) (wipe σ js) (wipeL Li js) O2 ∧ H D = some (.lst acc) ∧
    RepOs K H (Zz O2 (D :: Ac) G) ys acc Ac ∧ (D :: Ac).Nodup ∧ (∀ a ∈ D :: Ac, ¬ G a) ∧ Grow H1 H O1 (O2 ++ (D :: Ac ++ B)) ∧ ∀ a o, G a → H1 a = some o → H a = some o
theorem ext_grow {H H' : Hp} {O O' : List Addr} (k : ∀ a o, H a = some o → H' a = some o) (s : ∀ a ∈ O', a ∈ O) : Grow H H' O O' := ⟨fun a o _ e => k a o e, fun a ha => .inl (s a ha), fun a o u e => k a _ e⟩
theorem StOk.ext (h : StOk K H F σ L O) (k : ∀ a o, H a = some o → H' a = some o) : StOk K H' F σ L O :=
  h.later (fun a o _ e => k a o e) (fun a z => .inl z) fun a z q => by
    cases e : H a with
    | none => exact h.fth a z e
    | some o => rw [k a o e] at q; cases q
theorem comp_turn {tg : Tg} {cond : Exs} {elt : Ex} {ts : List T} {L2 : Slots} {ysA : List T} {G Fx : Fb} {D : Addr} {J : It} {Gd : Hp → List Addr → Prop} {i : Nat} {x : V} (hc : condOk cond = true) (hl : ts.length ≤ LINE) (it : ItR K J Fx ts Gd) (gd : Gd H1 O1)
    (hG : ∀ a, G a → a ∈ B ∨ Fx a) (hG2 : ∀ a, a ∈ B ∨ Fx a → G a) (hD : H1 D = none) (hi : i < ts.length) (p : LcP K (entT tg) (evt Φ sg cond) (ev Φ sg elt) ts L2 ysA σ (tgs tg) G B D H1 O1 i H) (y : J.yld i H x H') :
    gEnt K tg x (wipe σ (tgs tg)) H' fun σ2 H2 => wipe σ2 (tgs tg) = wipe σ (tgs tg) ∧ tCond K mg W0 Φ sg cond σ2 H2 fun b H3 =>
      if b = true then tD K mg W0 (ev Φ sg elt) σ2 H3 fun y H4 => ∃ acc, H4 D = some (.lst acc) ∧ acc.length < sizeLine ∧ LcP K (entT tg) (evt Φ sg cond) (ev Φ sg elt) ts L2 ysA σ (tgs tg) G B D H1 O1 (i + 1) (upd H4 D (.lst (acc ++ [y])))
      else LcP K (entT tg) (evt Φ sg cond) (ev Φ sg elt) ts L2 ysA σ (tgs tg) G B D H1 O1 (i + 1) H3 := by
  obtain ⟨Li, ys, ysR, acc, Ac, O2, run, eA, hy, st, hDc, rep, nd, df, gr, kb⟩ := p
  have et : ts[i]? = some ts[i] := List.getElem?_eq_getElem hi
  generalize ts[i] = t at et
  have gdH := it.grow _ _ _ _ gr gd
  obtain ⟨ext, rs, _⟩ := it.yld i H _ x H' t et gdH (fun a z => by
    rcases z with z | z
    · rcases List.mem_append.mp z with z | z
      · exact st.there a z
      · rcases List.mem_append.mp z with z | z
        · exact st.fth a (.inl z)
        · exact st.fth a (.inr (hG2 a (.inl z)))
    · exact st.fth a (.inr (hG2 a (.inr z)))) y
  have sht : shr t = true := by
    have := it.sh
    rw [shrs_all] at this
    exact List.all_eq_true.mp this t (List.mem_of_getElem? et)
  have edrop : ts.drop i = t :: ts.drop (i + 1) := by
    rw [List.drop_eq_getElem_cons hi]
    rw [List.getElem?_eq_getElem hi] at et
    rw [Option.some.inj et]
  rw [edrop] at run
  obtain ⟨Le, ee, run⟩ := onO_inv (show onO (entT tg t Li) _ = _ from run)
  obtain ⟨b, Lc, ec, run⟩ := noErr_ok' run
  rw [← ent_wipe] at ee
  have st' := st.ext ext
  have rs' : RepS K H' (Zo O2 (Fa (D :: Ac) G)) t x := rs.later1 fun a z => by
    rcases z with z | z | z
    · exact .inl (List.mem_append_left _ z)
    · exact .inl (List.mem_append_right _ (List.mem_append_left _ z))
    · exact (hG a z).imp (fun z => List.mem_append_right _ (List.mem_append_right _ z)) id
  refine ent_sound st' rs' sht ee fun σ' Oe sO ste hlen hk => ⟨?_, ?_⟩
  · rw [← wipe_wipe (σ := σ)]
    exact wipe_eq hlen hk
  have ew : wipe σ' (tgs tg) = wipe σ (tgs tg) := by
    rw [← wipe_wipe (σ := σ)]
    exact wipe_eq hlen hk
  refine cond_ok hc ec ste fun H3 O3 A3 mid => ?_
  have mid := mid.bare
  have s3 : Grow H H3 O2 O3 := ⟨fun a o ha e => mid.gr.keep a o (fun z => ha (sO a z)) (ext a o e), fun a ha => by
    rcases mid.gr.new a (List.mem_append_left _ ha) with z | z
    · exact .inl (sO a z)
    · right
      cases q : H a with
      | none => rfl
      | some o => (rw [ext a o q] at z; cases z), fun a o u e => mid.gr.fz a o u (ext a _ e)⟩
  have dO2 : ∀ a ∈ D :: Ac, a ∉ O2 := fun a ha z => st.df a z (.inl ha)
  have D3 : H3 D = some (.lst acc) := s3.keep D _ (dO2 D List.mem_cons_self) hDc
  have rep3 : RepOs K H3 (Zz O3 (D :: Ac) G) ys acc Ac := rep.later (later_grow s3) _ _ _ fun a ha o e => s3.keep a o (dO2 a (List.mem_cons_of_mem _ ha)) e
  have kb3 : ∀ a o, G a → H1 a = some o → H3 a = some o := fun a o z e => s3.keep a o (fun y => st.df a y (.inr z)) (kb a o z e)
  cases b with
  | false =>
    replace run : compRun (entT tg) (evt Φ sg cond) (ev Φ sg elt) (ts.drop (i + 1)) Lc = .ok ysR L2 := run
    show LcP K (entT tg) (evt Φ sg cond) (ev Φ sg elt) ts L2 ysA σ (tgs tg) G B D H1 O1 (i + 1) H3
    obtain ⟨O4, s4, st4⟩ := mid.done.wipes (js := tgs tg)
    rw [ew] at st4
    exact ⟨Lc, ys, ysR, acc, Ac, O4, run, eA, by omega, st4, D3, rep3.later1 fun a z => z.imp (s4 a) id, nd, df, gr.step ⟨s3.keep, fun a ha => s3.new a (s4 a ha), s3.fz⟩, kb3⟩
  | true =>
    replace run : noErr (ev Φ sg elt Lc) (fun y L3 => noErr (compRun (entT tg) (evt Φ sg cond) (ev Φ sg elt) (ts.drop (i + 1)) L3) fun ys L4 => .ok (y :: ys) L4) = .ok ysR L2 := run
    obtain ⟨ty, Ly, ey, run⟩ := noErr_ok' run
    obtain ⟨ysR', L4, er, run⟩ := noErr_ok' run
    cases run
    show tD K mg W0 (ev Φ sg elt) σ' H3 _
    refine ⟨_, Lc, O3, mid.done, ?_⟩
    rw [ey]
    intro H4 O4 A4 m4 v hkv rv
    have s4 : Grow H3 H4 O3 (O4 ++ A4) := m4.gr
    have dO3 : ∀ a ∈ D :: Ac, a ∉ O3 := fun a ha z => mid.done.df a z (.inl ha)
    have D4 : H4 D = some (.lst acc) := s4.keep D _ (dO3 D List.mem_cons_self) D3
    have lenA : acc.length = ys.length := rep.length.symm
    refine ⟨acc, D4, by rw [lenA]; exact Nat.lt_of_lt_of_le (Nat.lt_of_le_of_lt hy hi) hl, ?_⟩
    obtain ⟨O5, s5, st5⟩ := m4.st.wipes (js := tgs tg)
    rw [ew] at st5
    have nd' := List.nodup_cons.mp nd
    have dA4 : ∀ a ∈ A4, a ∉ D :: Ac ∧ ¬ G a := fun a ha => ⟨fun z => m4.df a ha (.inl z), fun z => m4.df a ha (.inr z)⟩
    have g4 : Grow H3 H4 O3 O4 := ⟨s4.keep, fun a ha => s4.new a (List.mem_append_left _ ha), s4.fz⟩
    have rep4 : RepOs K H4 (Zz O4 (D :: Ac) G) ys acc Ac := rep3.later (later_grow g4) _ _ _ fun a ha o e => s4.keep a o (dO3 a (List.mem_cons_of_mem _ ha)) e
    -- into the new list
    have rep5 : RepOs K H4 (Zz O4 (D :: (Ac ++ A4)) G) (ys ++ [ty]) (acc ++ [v]) (Ac ++ A4) := by
      refine RepOs.append (rep3.later ⟨fun a o z e => s4.keep a o (fun y => z (.inl y)) e, fun a z => ?_⟩ _ _ _ fun a ha o e => s4.keep a o (dO3 a (List.mem_cons_of_mem _ ha)) e) ⟨v, [], A4, [], rfl, by simp, hkv, rv.later1 fun a z => ?_, rfl, rfl⟩
      · rcases z with z | z | z
        · exact (s4.new a (List.mem_append_left _ z)).imp .inl id
        · rcases List.mem_cons.mp z with z | z
          · subst z; exact .inl (.inr (.inl List.mem_cons_self))
          · rcases List.mem_append.mp z with z | z
            · exact .inl (.inr (.inl (List.mem_cons_of_mem _ z)))
            · exact (s4.new a (List.mem_append_right _ z)).imp .inl id
        · exact .inl (.inr (.inr z))
      · rcases z with z | z | z
        · exact .inl z
        · rcases List.mem_cons.mp z with z | z
          · subst z; exact .inr (.inr (.inl List.mem_cons_self))
          · rcases List.mem_append.mp z with z | z
            · exact .inr (.inr (.inl (List.mem_cons_of_mem _ z)))
            · exact .inr (.inl z)
        · exact .inr (.inr (.inr z))
    refine ⟨Ly, ys ++ [ty], ysR', acc ++ [v], Ac ++ A4, O5, er, by rw [eA, List.append_assoc]; rfl, by rw [List.length_append]; show ys.length + 1 ≤ _; omega, ?_, upd_same, ?_, ?_, ?_, ?_, fun a o z e => ?_⟩
    · refine st5.later (fun a o z e => ?_) (fun a z => ?_) fun a z => ?_
      · rw [upd_ne (fun q => z (by subst q; exact .inr (.inl List.mem_cons_self)))]; exact e
      · rcases z with z | z
        · rcases List.mem_cons.mp z with z | z
          · subst z; exact .inl (.inr (.inl List.mem_cons_self))
          · rcases List.mem_append.mp z with z | z
            · exact .inl (.inr (.inl (List.mem_cons_of_mem _ z)))
            · exact .inl (.inl z)
        · exact .inl (.inr (.inr z))
      · by_cases q : a = D
        · subst q; rw [upd_same]; exact fun e => nomatch e
        · rw [upd_ne q]
          refine st5.fth a ?_
          rcases z with z | z
          · rcases List.mem_cons.mp z with z | z
            · exact absurd z q
            · rcases List.mem_append.mp z with z | z
              · exact .inr (.inl (List.mem_cons_of_mem _ z))
              · exact .inl z
          · exact .inr (.inr z)
    · refine RepOs.later ⟨fun a o z e => ?_, fun a z => .inl (z.imp (s5 a) id)⟩ _ _ _ (fun a ha o e => ?_) rep5
      · rw [upd_ne (fun q => z (by subst q; exact .inr (.inl List.mem_cons_self)))]; exact e
      · rw [upd_ne (fun q => ?_)]
        · exact e
        · subst q
          rcases List.mem_append.mp ha with z | z
          · exact nd'.1 z
          · exact (dA4 _ z).1 List.mem_cons_self
    · refine List.nodup_cons.mpr ⟨fun z => ?_, ?_⟩
      · rcases List.mem_append.mp z with z | z
        · exact nd'.1 z
        · exact (dA4 _ z).1 List.mem_cons_self
      · rw [List.nodup_append]
        exact ⟨nd'.2, m4.nd, fun a ha b hb e => by subst e; exact (dA4 a hb).1 (List.mem_cons_of_mem _ ha)⟩
    · intro a ha
      rcases List.mem_cons.mp ha with z | z
      · subst z; exact df _ List.mem_cons_self
      · rcases List.mem_append.mp z with z | z
        · exact df a (List.mem_cons_of_mem _ z)
        · exact (dA4 a z).2
    · have g3 := gr.step s3
      have g4' : Grow H1 H4 O1 ((O4 ++ A4) ++ (D :: Ac ++ B)) := g3.step s4
      refine ⟨fun a o ha e => ?_, fun a ha => ?_, fun a o u e => by rw [upd_ne (fun q => by subst q; rw [hD] at e; cases e)]; exact g4'.fz a o u e⟩
      · rw [upd_ne (fun q => by subst q; rw [hD] at e; cases e)]
        exact g4'.keep a o ha e
      · refine g4'.new a ?_
        simp only [List.mem_append, List.mem_cons] at ha ⊢
        rcases ha with z | (z | z | z) | z
        · exact .inl (.inl (s5 a z))
        · exact .inr (.inl (.inl z))
        · exact .inr (.inl (.inr z))
        · exact .inl (.inr z)
        · exact .inr (.inr z)
    · rw [upd_ne (fun q => by subst q; rw [hD] at e; cases e)]
      exact s4.keep a o (fun y => mid.done.df a y (.inr z)) (kb3 a o z e)
end
end TV

set_option Elab.async false
set_option linter.all false
set_option maxRecDepth 100000
set_option maxHeartbeats 4000000
/-! TV23: a comprehension is served, joined; what is walked. -/
namespace TV
open PySem PySem.Spec PyProof.Rows L2

section
variable {K : PySem.W.Frag} {mg : Str → Option Value} {Φ : Funs} {sg : String → List Bool} {H H' H0 H1 H2 : Hp} {Z Z' F G : Fb} {σ : Sg} {L : Slots} {O O0 O1 O2 A B R : List Addr} {W : WX}
theorem Mid.put {Lb L3 : Slots} {r : Option (Nat × T)} {A' : List Addr} (m : Mid K H0 O0 H F σ Lb O (A' ++ A)) (d : ∀ a ∈ A', a ∉ A) (nA : A'.Nodup) (b : BackR K H σ (Zz O (A' ++ A) F) A r) (e : backS r Lb = some L3) : ∃ O3, (∀ a ∈ O3, a ∈ A ∨ a ∈ O) ∧ Mid K H0 O0 H F σ L3 O3 A' := by
  cases r with
  | none =>
    cases e
    exact ⟨O, fun a z => .inr z, m.drop (fun a ha => List.mem_append_left _ ha) nA⟩
  | some q =>
    obtain ⟨i, t⟩ := q
    obtain ⟨v, B, hv, sB, nB, rv⟩ := b
    have e2 : L3 = Lb.set i (some t) := by
      unfold backS at e
      simp only at e
      split at e <;> first | (split at e <;> first | (cases e; rfl) | cases e) | cases e
    have hi : i < Lb.length := by rw [m.st.length]; exact (List.getElem?_eq_some_iff.mp hv).1
    have st : StOk K H (Fa B (Fa A' F)) σ Lb O := m.st.less fun a z => by
      rcases z with z | z | z
      · exact .inl (List.mem_append_right _ (sB a z))
      · exact .inl (List.mem_append_left _ z)
      · exact .inr z
    obtain ⟨O3, s3, st3⟩ := st.put hi (rv.later1 fun a z => by
      rcases z with z | z | z | z
      · exact .inl z
      · exact .inr (.inl (List.mem_append_right _ (sB a z)))
      · exact .inr (.inl (List.mem_append_left _ z))
      · exact .inr (.inr z)) nB fun a ha z => by
      rcases z with z | z
      · exact d a z (sB a ha)
      · exact m.df a (List.mem_append_right _ (sB a ha)) z
    rw [set_self hv] at st3
    subst e2
    refine ⟨O3, fun a ha => (s3 a ha).imp (sB a) id, st3, nA, fun a ha => m.df a (List.mem_append_left _ ha), m.gr.mono fun a ha => ?_⟩
    rcases List.mem_append.mp ha with z | z
    · rcases s3 a z with z | z
      · exact List.mem_append_right _ (List.mem_append_right _ (sB a z))
      · exact List.mem_append_left _ z
    · exact List.mem_append_right _ (List.mem_append_left _ z)
theorem BackR.later {r : Option (Nat × T)} (l : Later H H' Z Z') (k : ∀ a ∈ A, ∀ o, H a = some o → H' a = some o) (h : BackR K H σ Z A r) : BackR K H' σ Z' A r := by
  cases r with
  | none => trivial
  | some q =>
    obtain ⟨i, t⟩ := q
    obtain ⟨v, B, hv, sB, nB, rv⟩ := h
    exact ⟨v, B, hv, sB, nB, RepO.later l _ _ _ (fun a ha => k a (sB a ha)) rv⟩
theorem wipeL_in {L : Slots} : ∀ {js : List Nat} {k : Nat}, js.contains k = true → (wipeL L js)[k]? = if k < L.length then some none else none
  | [], _, h => by cases h
  | i :: is, k, h => by
    show ((wipeL L is).set i none)[k]? = _
    by_cases e : i = k
    · subst e
      by_cases hi : i < L.length
      · rw [if_pos hi, List.getElem?_set_self (by rw [wipeL_length]; exact hi)]
      · rw [if_neg hi, List.getElem?_eq_none (by rw [List.length_set, wipeL_length]; omega)]
    · rw [List.getElem?_set_ne e]
      simp only [List.contains_cons, Bool.or_eq_true] at h
      exact wipeL_in (h.resolve_left (by simpa using fun q => e q.symm))
theorem wipeL_wipeL {L : Slots} {js : List Nat} : wipeL (wipeL L js) js = wipeL L js := List.ext_getElem? fun k => by
  cases qk : js.contains k with
  | false => rw [wipeL_out qk]
  | true => rw [wipeL_in qk, wipeL_in qk, wipeL_length]
/-- from where the walk is opened -/
theorem comp_core {elt : Ex} {tg : Tg} {cond : Exs} {Q : VK} {ts : List T} {bk : Option (Nat × T)} {J : It} {Gd : Hp → List Addr → Prop} {L1 : Slots} (hc : condOk cond = true) (nd : noDup (tgs tg) = true)
    (mid : Mid K H O H1 F σ L1 O1 A) (it : ItR K J (Fa A F) ts Gd) (gd : Gd H1 O1) (back : BackR K H1 σ (Zz O1 A F) A bk)
    (a : Aft K mg W σ F O H (if LINE < ts.length then .stuck else noErr (compRun (entT tg) (evt Φ sg cond) (ev Φ sg elt) ts (wipeL L1 (tgs tg))) fun ys L2 => onO (backS bk (backL L1 L2 (tgs tg))) fun L3 => .ok (.lst true ys) L3)
      fun t L' H' O' A => ∀ v, isLkd t = false → RepO K H' (Zz O' A F) t v A → Q v H') :
    tLc (fun _ _ R => R J H1) (gEnt K tg) (tCond K mg W0 Φ sg cond) (tD K mg W0 (ev Φ sg elt)) (tgs tg) σ H1 Q := by
  intro D hD
  by_cases hl : LINE < ts.length
  · rw [if_pos hl] at a; exact a.elim
  · rw [if_neg hl] at a
    have hl : ts.length ≤ LINE := by omega
    cases q : compRun (entT tg) (evt Φ sg cond) (ev Φ sg elt) ts (wipeL L1 (tgs tg)) with
    | stuck => rw [q] at a; exact a.elim
    | err c L' => rw [q] at a; exact a.elim
    | ok ysA L2 =>
      rw [q] at a
      obtain ⟨L3, eb, a⟩ := Aft.onO a
      obtain ⟨B, O', s1, nB, dB, rj, stB⟩ := mid.st.takeJs nd
      have hDO : D ∉ O1 := fun z => mid.st.there D z hD
      have hDF : ¬ Fa A F D := fun z => mid.st.fth D z hD
      refine lc_it (J := J) (n := ts.length) (G := fun H => ∃ O, Gd H O) (Y := J.yld) ⟨fun i H hi ⟨O, g⟩ => it.goes i H O hi g, fun H ⟨O, g⟩ => it.stops H O g, fun _ _ _ _ _ _ y => y⟩
        (LcP K (entT tg) (evt Φ sg cond) (ev Φ sg elt) ts L2 ysA σ (tgs tg) (Fa B (Fa A F)) B D H1 O1) ?_ (fun i H _ p => ?_) (fun i x H H' hi p y => ?_) fun Hf p => ?_
      · refine ⟨wipeL L1 (tgs tg), [], ysA, [], [], O', q, rfl, Nat.zero_le _, ?_, upd_same, ⟨rfl, rfl⟩, by simp, fun a ha => ?_, ⟨fun a o ha e => ?_, fun a ha => ?_, fun a o u e => by rw [upd_ne (ne_of_none e hD)]; exact e⟩, fun a o z e => by rw [upd_ne (ne_of_none e hD)]; exact e⟩
        · rw [wipeL_wipeL]
          refine stB.later (fun a o _ e => by rw [upd_ne (ne_of_none e hD)]; exact e) (fun a z => ?_) fun a z => ?_
          · rcases z with z | z
            · rw [List.mem_singleton.mp z]; exact .inr hD
            · exact .inl z
          · by_cases qa : a = D
            · subst qa; rw [upd_same]; exact fun e => nomatch e
            · rw [upd_ne qa]
              exact stB.fth a (z.resolve_left fun z => qa (List.mem_singleton.mp z))
        · rw [List.mem_singleton.mp ha]
          exact fun z => z.elim (fun z => hDO ((s1 D).mp (.inl z))) hDF
        · rw [upd_ne (ne_of_none e hD)]; exact e
        · simp only [List.mem_append, List.mem_singleton] at ha
          rcases ha with z | z | z
          · exact .inl ((s1 a).mp (.inr z))
          · subst z; exact .inr hD
          · exact .inl ((s1 a).mp (.inl z))
      · obtain ⟨_, _, _, _, Ac, O2, _, _, _, _, _, _, _, _, gr, _⟩ := p
        exact ⟨_, it.grow _ _ _ _ gr gd⟩
      · exact comp_turn hc hl it gd (fun a z => z) (fun a z => z) hD hi p y
      · obtain ⟨Ln, ys, ysR, acc, Ac, O2, run, eA, hy, stn, hDc, rep, ndD, df, gr, kb⟩ := p
        rw [List.drop_length] at run
        cases run
        rw [List.append_nil] at eA
        subst eA
        have swap : StOk K Hf (Fa B (Fa (D :: Ac) (Fa A F))) (wipe σ (tgs tg)) (wipeL L2 (tgs tg)) O2 := stn.less fun a z => by
          rcases z with z | z | z
          · exact .inr (.inl z)
          · exact .inl z
          · exact .inr (.inr z)
        have dBD : ∀ a ∈ B, a ∉ D :: Ac := fun a ha z => df a z (.inl ha)
        have inO : ∀ a, a ∈ O1 → a ∈ O' ∨ a ∈ B := fun a z => ((s1 a).mpr z).symm
        have rj2 : RepJs K Hf (Zz O2 B (Fa (D :: Ac) (Fa A F))) σ L1 (tgs tg) B := rj.later ⟨fun a o z e => gr.keep a o (fun y => z ((inO a y).imp id .inl)) e, fun a z => by
          have key : a ∈ O1 ∨ H1 a = none → Zz O' B (Fa A F) a ∨ H1 a = none := fun z => z.imp (fun z => (inO a z).imp id .inl) id
          rcases z with z | z | z | z
          · exact key (gr.new a (List.mem_append_left _ z))
          · exact .inl (.inr (.inl z))
          · exact key (gr.new a (List.mem_append_right _ (List.mem_append_left _ z)))
          · exact .inl (.inr (.inr z))⟩ fun a ha o e => kb a o (.inl ha) e
        obtain ⟨O3, s3, st3⟩ := StOk.putJs (L0 := L1) nd swap rj2 (fun _ z => z) nB fun a ha z => z.elim (dBD a ha) (dB a ha).1
        rw [backL_wipe nd] at st3
        have new : ∀ a, a ∈ O3 ∨ a ∈ D :: Ac → a ∈ O1 ∨ H1 a = none := fun a z => by
          rcases z with z | z
          · rcases s3 a z with z | z
            · exact .inl ((s1 a).mp (.inl z))
            · exact gr.new a (List.mem_append_left _ z)
          · exact gr.new a (List.mem_append_right _ (List.mem_append_left _ z))
        have dA : ∀ a ∈ D :: Ac, a ∉ A := fun a ha z => df a ha (.inr (.inl z))
        have m3 : Mid K H O Hf F σ (backL L1 L2 (tgs tg)) O3 ((D :: Ac) ++ A) := by
          refine ⟨by rw [Fa_app]; exact st3, ?_, fun a ha z => ?_, fun a o ha e => ?_, fun a ha => ?_, fun a o u e => gr.fz a o u (mid.gr.fz a o u e)⟩
          · rw [List.nodup_append]
            exact ⟨ndD, mid.nd, fun a ha b hb e => by subst e; exact dA a ha hb⟩
          · rcases List.mem_append.mp ha with ha | ha
            · exact df a ha (.inr (.inr z))
            · exact mid.df a ha z
          · exact gr.keep a o (fun y => (mid.gr.new a (List.mem_append_left _ y)).elim ha fun q => by rw [q] at e; cases e) (mid.gr.keep a o ha e)
          · have fin : a ∈ O1 ∨ H1 a = none → a ∈ O ∨ H a = none := fun z => z.elim (fun z => mid.gr.new a (List.mem_append_left _ z)) mid.gr.free
            rcases List.mem_append.mp ha with ha | ha
            · exact fin (new a (.inl ha))
            · rcases List.mem_append.mp ha with ha | ha
              · exact fin (new a (.inr ha))
              · exact mid.gr.new a (List.mem_append_right _ ha)
        have back' : BackR K Hf σ (Zz O3 ((D :: Ac) ++ A) F) A bk := back.later ⟨fun a o z e => gr.keep a o (fun y => z (.inl y)) e, fun a z => by
          rcases z with z | z | z
          · exact (new a (.inl z)).imp .inl id
          · rcases List.mem_append.mp z with z | z
            · exact (new a (.inr z)).imp .inl id
            · exact .inl (.inr (.inl z))
          · exact .inl (.inr (.inr z))⟩ fun a ha o e => kb a o (.inr (.inl ha)) e
        obtain ⟨O4, s4, m4⟩ := m3.put dA ndD back' eb
        refine a Hf O4 (D :: Ac) m4 (.ref D) rfl ⟨D, acc, Ac, rfl, rfl, hDc, rep.later1 fun a z => ?_⟩
        rcases z with z | z | z
        · rcases s4 a z with z | z
          · exact .inr (.inr (.inr (.inl z)))
          · rcases s3 a z with z | z
            · exact .inr (.inr (.inl z))
            · exact .inl z
        · exact .inr (.inl z)
        · exact .inr (.inr (.inr (.inr z)))
theorem comp_to {elt : Ex} {tg : Tg} {it : Itr} {cond : Exs} {Q : VK} (hc : condOk cond = true) (nd : noDup (tgs tg) = true) (h : tD K mg W (ev Φ sg (.comp elt tg it cond)) σ H Q) :
    tLc (tI K mg W (evi Φ sg it)) (gEnt K tg) (tCond K mg W0 Φ sg cond) (tD K mg W0 (ev Φ sg elt)) (tgs tg) σ H Q := by
  obtain ⟨F, L, O, st, a⟩ := h
  exact ⟨F, L, O, st, (Aft.bind2 (x := evi Φ sg it L) a).mono fun r L1 H1 O1 A _ mid a J Gd it gd back => comp_core hc nd mid it gd back a⟩
end
end TV

set_option Elab.async false
set_option linter.all false
set_option maxRecDepth 100000
set_option maxHeartbeats 4000000
/-! TV24: what is walked. -/
namespace TV
open PySem PySem.Spec PyProof.Rows L2

section
variable {K : PySem.W.Frag} {mg : Str → Option Value} {Φ : Funs} {sg : String → List Bool} {H H' H0 H1 H2 : Hp} {Z Z' F G : Fb} {σ : Sg} {L L' : Slots} {O O0 O1 O2 A B R : List Addr} {W : WX}
theorem StOk.freezeFrz (h : StOk K H F σ L O) {i : Nat} {xs : List T} (e : slot L i = some (.lst true xs)) :
    ∃ a vs O2, σ[i]? = some (some (.ref a)) ∧ H a = some (.lst vs) ∧ (∀ a ∈ O2, a ∈ O) ∧ a ∉ O2 ∧ StOk K H F σ (L.set i (some (.lst false (frzs xs)))) O2 ∧ RepSs K H (Zo O2 F) (frzs xs) vs ∧ shrs (frzs xs) = true := by
  obtain ⟨v, A, O', h1, p, r, nd, df, k⟩ := h.swap e
  obtain ⟨a, vs, B, ev, eA, ha, rk⟩ := r
  subst ev eA
  have rs : RepSs K H (Zo O' F) xs vs := RepOs.read (fun b z => z.elim .inl fun z => .inr (.inr z)) xs vs B (fun b hb z => by
    rcases z with z | z
    · exact (df b (List.mem_cons_of_mem _ hb)).2 z
    · exact (df b (List.mem_cons_of_mem _ hb)).1 z) rk
  have sh := RepSs.shrF xs vs rs
  have rf := RepSs.frz xs vs rs
  have da := df a List.mem_cons_self
  refine ⟨a, vs, O', h1, ha, fun b hb => p.mem_iff.mpr (List.mem_append_right _ hb), da.2, k (.lst false (frzs xs)) [] (fun b hb => by cases hb) .nil ⟨⟨a, vs, rfl, ha, fun z => ?_, rf.later1 fun b z => ?_⟩, rfl, sh⟩, rf, sh⟩
  · rcases z with z | z | z
    · exact da.2 z
    · cases z
    · exact da.1 z
  · rcases z with z | z | z
    · exact .inl z
    · cases z
    · exact .inr z
theorem itFrz_sound {fz : Bool} {p : Opd} {x : V} {ts : List T} {bk : Option (Nat × T)} (m : Mid K H0 O0 H F σ L O A) (r : RepQ K H (Zz O A F) σ p x A) (e : itFrz fz p L = some (ts, L', bk)) :
    ∃ a vs A' O', x = .ref a ∧ H a = some (.lst vs) ∧ Mid K H0 O0 H F σ L' O' A' ∧ a ∉ O' ∧ RepSs K H (Zo O' (Fa A' F)) ts vs ∧ shrs ts = true ∧ BackR K H σ (Zz O' A' F) A' bk ∧ ∀ b ∈ O', b ∈ O := by
  cases p with
  | v t =>
    cases t with
    | lst o xs =>
      cases e
      have r : RepO K H (Zz O A F) (.lst o xs) x A := r
      have key : ∀ {a : Addr} {vs : List V} {B : List Addr}, x = .ref a → H a = some (.lst vs) → (a ∈ A ∨ ¬ Zz O A F a) → (∀ b ∈ B, b ∈ A) → RepOs K H (Zz O A F) xs vs B →
          ∃ a vs A' O', x = .ref a ∧ H a = some (.lst vs) ∧ Mid K H0 O0 H F σ L O' A' ∧ a ∉ O' ∧ RepSs K H (Zo O' (Fa A' F)) (frzs xs) vs ∧ shrs (frzs xs) = true ∧ BackR K H σ (Zz O' A' F) A' none ∧ ∀ b ∈ O', b ∈ O := fun {a vs B} ex ha da sB rk => by
        have rs : RepSs K H (Zo O F) xs vs := RepOs.read (fun b z => z.elim .inl fun z => .inr (.inr z)) xs vs B (fun b hb z => by
          rcases z with z | z
          · exact m.st.df b z (.inl (sB b hb))
          · exact m.df b (sB b hb) z) rk
        refine ⟨a, vs, [], O, ex, ha, m.bare, fun z => ?_, (RepSs.frz xs vs rs).later1 fun b z => ?_, RepSs.shrF xs vs rs, trivial, fun _ z => z⟩
        · rcases da with q | q
          · exact m.st.df a z (.inl q)
          · exact q (.inl z)
        · rcases z with z | z | z
          · exact .inl z
          · cases z
          · exact .inr z
      cases o with
      | true =>
        obtain ⟨a, vs, B, ex, eA, ha, rk⟩ := r
        subst eA
        exact key ex ha (.inl List.mem_cons_self) (fun b hb => List.mem_cons_of_mem _ hb) rk
      | false =>
        obtain ⟨⟨a, vs, ex, ha, n, rs⟩, eA, sh⟩ := r
        exact key ex ha (.inr n) (fun b hb => by cases hb) (RepSs.held rs sh)
    | _ => cases e
  | s i ks =>
    obtain ⟨eA, v0, hv, pv⟩ := r
    subst eA
    have e : itFrzS fz i ks L (rd L (.s i ks)) = some (ts, L', bk) := e
    cases q : rd L (.s i ks) with
    | none => rw [q] at e; cases e
    | some t =>
      rw [q] at e
      cases t with
      | lst o xs =>
        cases o with
        | false =>
          cases e
          have q' : (slot L i).bind (fun t => pathT t ks) = some (.lst false ts) := q
          cases q2 : slot L i with
          | none => rw [q2] at q'; cases q'
          | some u =>
            rw [q2] at q'
            obtain ⟨w, C, h1, h2, h3⟩ := m.st.at q2
            rw [hv] at h1; cases h1
            obtain ⟨⟨a, vs, ex, ha, n, rs⟩, sh⟩ := h3.pathShared ks q' rfl pv
            exact ⟨a, vs, [], O, ex, ha, m, fun z => n (.inl z), rs, by simp [shr] at sh; exact sh, trivial, fun _ z => z⟩
        | true =>
          have e : (if ks = [] then (if fz then some (frzs xs, L.set i (some (.lst false (frzs xs))), none) else some (frzs xs, L.set i none, some (i, .lst true (frzs xs)))) else none) = some (ts, L', bk) := e
          by_cases hk : ks = []
          · rw [if_pos hk] at e
            subst hk
            have pv : x = v0 := pv
            subst pv
            rw [rdS] at q
            cases fz with
            | true =>
              cases e
              obtain ⟨a, vs, O2, h1, h2, h3, h4, h5, h6, h7⟩ := m.st.freezeFrz q
              rw [hv] at h1; cases h1
              exact ⟨a, vs, [], O2, rfl, h2, m.shrink h5 h3, h4, h6, h7, trivial, h3⟩
            | false =>
              cases e
              obtain ⟨v, A1, O', h1, p, r, st, nd, df⟩ := m.st.take (slot_get q)
              rw [hv] at h1; cases h1
              obtain ⟨a, vs, B, ev, eA, ha, rk⟩ := r
              subst ev eA
              rw [List.nodup_cons] at nd
              have sB : ∀ b ∈ B, ¬ Zo O' (Fa [a] F) b := fun b hb z => by
                rcases z with z | z | z
                · exact st.df b z (.inl (List.mem_cons_of_mem _ hb))
                · rw [List.mem_singleton.mp z] at hb; exact nd.1 hb
                · exact df b (List.mem_cons_of_mem _ hb) (.inr z)
              have rs : RepSs K H (Zo O' (Fa [a] F)) xs vs := RepOs.read (fun b z => by
                rcases z with z | z | z
                · exact .inl z
                · rw [List.mem_singleton.mp z]; exact .inr (.inl List.mem_cons_self)
                · exact .inr (.inr (.inr z))) xs vs B sB rk
              have sh := RepSs.shrF xs vs rs
              have rf := RepSs.frz xs vs rs
              refine ⟨a, vs, [a], O', rfl, ha, ⟨st.less fun b z => ?_, by simp, fun b hb z => ?_, m.gr.mono fun b hb => ?_⟩, fun z => st.df a z (.inl List.mem_cons_self), rf, sh, ⟨_, [a], hv, fun _ z => z, by simp, a, vs, [], rfl, rfl, ha, (RepSs.held rf sh)⟩, fun b hb => p.mem_iff.mpr (List.mem_append_right _ hb)⟩
              · rcases z with z | z
                · rw [List.mem_singleton.mp z]; exact .inl List.mem_cons_self
                · exact .inr (.inr z)
              · rw [List.mem_singleton.mp hb] at z; exact df a List.mem_cons_self (.inr z)
              · rcases List.mem_append.mp hb with hb | hb
                · exact List.mem_append_left _ (p.mem_iff.mpr (List.mem_append_right _ hb))
                · rw [List.mem_singleton.mp hb]; exact List.mem_append_left _ (p.mem_iff.mpr (List.mem_append_left _ List.mem_cons_self))
          · rw [if_neg hk] at e; cases e
      | _ => cases e
theorem itR_lst {a : Addr} {ts : List T} {vs : List V} {Fx : Fb} (rs : RepSs K H (Zo O Fx) ts vs) (sh : shrs ts = true) :
    ItR K (Itl K a) Fx ts fun H O => H a = some (.lst vs) ∧ a ∉ O ∧ RepSs K H (Zo O Fx) ts vs := by
  have hl := rs.length
  refine ⟨fun i H O hi ⟨h, _, _⟩ => ⟨vs, vs[i]'(by omega), .inl (.inl h), by simp [show i < vs.length by omega]⟩, fun H O ⟨h, _, _⟩ => ⟨vs, .inl (.inl h), by omega⟩, fun i H O x H' t et ⟨h, ha, rs⟩ _ ⟨e1, e2⟩ => ?_, sh, fun H H' O O' g ⟨h, ha, rs⟩ => ?_⟩
  · subst e1
    obtain ⟨v, hv, r⟩ := rs.get et
    have := e2 vs (.inl (.inl h))
    rw [hv] at this; cases this
    exact ⟨fun _ _ e => e, r, h, ha, rs⟩
  · refine ⟨g.keep a _ ha h, (fun z => (g.new a z).elim ha fun q => by rw [h] at q; cases q), RepSs.later ⟨fun b o z e => g.keep b o (fun y => z (.inl y)) e, fun b z => ?_⟩ _ _ rs⟩
    exact z.elim (fun z => (g.new b z).imp .inl id) fun z => .inl (.inr z)
theorem seqFrz_to {fz : Bool} {m : Ex} {R : It → Hp → Prop} (h : tI K mg W (evi Φ sg (.seq .L fz m)) σ H R) : iList K (tQ K mg W (evo m true (ev Φ sg m))) σ H R := by
  obtain ⟨F, L, O, st, a⟩ := h
  refine ⟨F, L, O, st, (Aft.bind2 (x := evo m true (ev Φ sg m) L) a).mono fun p L1 H1 O1 A _ mid a v r => ?_⟩
  obtain ⟨⟨ts, L2, bk⟩, e, a⟩ := Aft.onO a
  obtain ⟨b, vs, A', O', ex, hb, m2, nb, rs, sh, back, _⟩ := itFrz_sound mid r e
  exact ⟨b, ex, ⟨vs, .inl (.inl hb)⟩, a H1 O' A' m2 _ _ (itR_lst rs sh) ⟨hb, nb, rs⟩ back⟩
theorem StOk.freezeTpl (h : StOk K H F σ L O) {i : Nat} {xs : List T} (e : slot L i = some (.tup true xs)) :
    ∃ a vs O2, σ[i]? = some (some (.ref a)) ∧ H a = some (.tup vs) ∧ (∀ a ∈ O2, a ∈ O) ∧ a ∉ O2 ∧ StOk K H F σ (L.set i (some (.tup false (frzs xs)))) O2 ∧ RepSs K H (Zo O2 F) (frzs xs) vs ∧ shrs (frzs xs) = true := by
  obtain ⟨v, A, O', h1, p, r, nd, df, k⟩ := h.swap e
  obtain ⟨a, vs, B, ev, eA, ha, rk⟩ := r
  subst ev eA
  have rs : RepSs K H (Zo O' F) xs vs := RepOs.read (fun b z => z.elim .inl fun z => .inr (.inr z)) xs vs B (fun b hb z => by
    rcases z with z | z
    · exact (df b (List.mem_cons_of_mem _ hb)).2 z
    · exact (df b (List.mem_cons_of_mem _ hb)).1 z) rk
  have sh := RepSs.shrF xs vs rs
  have rf := RepSs.frz xs vs rs
  have da := df a List.mem_cons_self
  refine ⟨a, vs, O', h1, ha, fun b hb => p.mem_iff.mpr (List.mem_append_right _ hb), da.2, k (.tup false (frzs xs)) [] (fun b hb => by cases hb) .nil ⟨⟨a, vs, rfl, ha, fun z => ?_, rf.later1 fun b z => ?_⟩, rfl, sh⟩, rf, sh⟩
  · rcases z with z | z | z
    · exact da.2 z
    · cases z
    · exact da.1 z
  · rcases z with z | z | z
    · exact .inl z
    · cases z
    · exact .inr z
theorem itTpl_sound {fz : Bool} {p : Opd} {x : V} {ts : List T} {bk : Option (Nat × T)} (m : Mid K H0 O0 H F σ L O A) (r : RepQ K H (Zz O A F) σ p x A) (e : itTpl fz p L = some (ts, L', bk)) :
    ∃ a vs A' O', x = .ref a ∧ H a = some (.tup vs) ∧ Mid K H0 O0 H F σ L' O' A' ∧ a ∉ O' ∧ RepSs K H (Zo O' (Fa A' F)) ts vs ∧ shrs ts = true ∧ BackR K H σ (Zz O' A' F) A' bk := by
  cases p with
  | v t =>
    cases t with
    | tup o xs =>
      cases e
      have r : RepO K H (Zz O A F) (.tup o xs) x A := r
      have key : ∀ {a : Addr} {vs : List V} {B : List Addr}, x = .ref a → H a = some (.tup vs) → (a ∈ A ∨ ¬ Zz O A F a) → (∀ b ∈ B, b ∈ A) → RepOs K H (Zz O A F) xs vs B →
          ∃ a vs A' O', x = .ref a ∧ H a = some (.tup vs) ∧ Mid K H0 O0 H F σ L O' A' ∧ a ∉ O' ∧ RepSs K H (Zo O' (Fa A' F)) (frzs xs) vs ∧ shrs (frzs xs) = true ∧ BackR K H σ (Zz O' A' F) A' none := fun {a vs B} ex ha da sB rk => by
        have rs : RepSs K H (Zo O F) xs vs := RepOs.read (fun b z => z.elim .inl fun z => .inr (.inr z)) xs vs B (fun b hb z => by
          rcases z with z | z
          · exact m.st.df b z (.inl (sB b hb))
          · exact m.df b (sB b hb) z) rk
        refine ⟨a, vs, [], O, ex, ha, m.bare, fun z => ?_, (RepSs.frz xs vs rs).later1 fun b z => ?_, RepSs.shrF xs vs rs, trivial⟩
        · rcases da with q | q
          · exact m.st.df a z (.inl q)
          · exact q (.inl z)
        · rcases z with z | z | z
          · exact .inl z
          · cases z
          · exact .inr z
      cases o with
      | true =>
        obtain ⟨a, vs, B, ex, eA, ha, rk⟩ := r
        subst eA
        exact key ex ha (.inl List.mem_cons_self) (fun b hb => List.mem_cons_of_mem _ hb) rk
      | false =>
        obtain ⟨⟨a, vs, ex, ha, n, rs⟩, eA, sh⟩ := r
        exact key ex ha (.inr n) (fun b hb => by cases hb) (RepSs.held rs sh)
    | _ => cases e
  | s i ks =>
    obtain ⟨eA, v0, hv, pv⟩ := r
    subst eA
    have e : itTplS fz i ks L (rd L (.s i ks)) = some (ts, L', bk) := e
    cases q : rd L (.s i ks) with
    | none => rw [q] at e; cases e
    | some t =>
      rw [q] at e
      cases t with
      | tup o xs =>
        cases o with
        | false =>
          cases e
          have q' : (slot L i).bind (fun t => pathT t ks) = some (.tup false ts) := q
          cases q2 : slot L i with
          | none => rw [q2] at q'; cases q'
          | some u =>
            rw [q2] at q'
            obtain ⟨w, C, h1, h2, h3⟩ := m.st.at q2
            rw [hv] at h1; cases h1
            obtain ⟨⟨a, vs, ex, ha, n, rs⟩, sh⟩ := h3.pathShared ks q' rfl pv
            exact ⟨a, vs, [], O, ex, ha, m, fun z => n (.inl z), rs, by simp [shr] at sh; exact sh, trivial⟩
        | true =>
          have e : (if ks = [] then (if fz then some (frzs xs, L.set i (some (.tup false (frzs xs))), none) else some (frzs xs, L.set i none, some (i, .tup true (frzs xs)))) else none) = some (ts, L', bk) := e
          by_cases hk : ks = []
          · rw [if_pos hk] at e
            subst hk
            have pv : x = v0 := pv
            subst pv
            rw [rdS] at q
            cases fz with
            | true =>
              cases e
              obtain ⟨a, vs, O2, h1, h2, h3, h4, h5, h6, h7⟩ := m.st.freezeTpl q
              rw [hv] at h1; cases h1
              exact ⟨a, vs, [], O2, rfl, h2, m.shrink h5 h3, h4, h6, h7, trivial⟩
            | false =>
              cases e
              obtain ⟨v, A1, O', h1, p, r, st, nd, df⟩ := m.st.take (slot_get q)
              rw [hv] at h1; cases h1
              obtain ⟨a, vs, B, ev, eA, ha, rk⟩ := r
              subst ev eA
              rw [List.nodup_cons] at nd
              have sB : ∀ b ∈ B, ¬ Zo O' (Fa [a] F) b := fun b hb z => by
                rcases z with z | z | z
                · exact st.df b z (.inl (List.mem_cons_of_mem _ hb))
                · rw [List.mem_singleton.mp z] at hb; exact nd.1 hb
                · exact df b (List.mem_cons_of_mem _ hb) (.inr z)
              have rs : RepSs K H (Zo O' (Fa [a] F)) xs vs := RepOs.read (fun b z => by
                rcases z with z | z | z
                · exact .inl z
                · rw [List.mem_singleton.mp z]; exact .inr (.inl List.mem_cons_self)
                · exact .inr (.inr (.inr z))) xs vs B sB rk
              have sh := RepSs.shrF xs vs rs
              have rf := RepSs.frz xs vs rs
              refine ⟨a, vs, [a], O', rfl, ha, ⟨st.less fun b z => ?_, by simp, fun b hb z => ?_, m.gr.mono fun b hb => ?_⟩, fun z => st.df a z (.inl List.mem_cons_self), rf, sh, ⟨_, [a], hv, fun _ z => z, by simp, a, vs, [], rfl, rfl, ha, (RepSs.held rf sh)⟩⟩
              · rcases z with z | z
                · rw [List.mem_singleton.mp z]; exact .inl List.mem_cons_self
                · exact .inr (.inr z)
              · rw [List.mem_singleton.mp hb] at z; exact df a List.mem_cons_self (.inr z)
              · rcases List.mem_append.mp hb with hb | hb
                · exact List.mem_append_left _ (p.mem_iff.mpr (List.mem_append_right _ hb))
                · rw [List.mem_singleton.mp hb]; exact List.mem_append_left _ (p.mem_iff.mpr (List.mem_append_left _ List.mem_cons_self))
          · rw [if_neg hk] at e; cases e
      | _ => cases e
theorem itR_tup {a : Addr} {ts : List T} {vs : List V} {Fx : Fb} (rs : RepSs K H (Zo O Fx) ts vs) (sh : shrs ts = true) :
    ItR K (Itt K a) Fx ts fun H O => H a = some (.tup vs) ∧ a ∉ O ∧ RepSs K H (Zo O Fx) ts vs := by
  have hl := rs.length
  refine ⟨fun i H O hi ⟨h, _, _⟩ => ⟨vs, vs[i]'(by omega), .inl (.inl h), by simp [show i < vs.length by omega]⟩, fun H O ⟨h, _, _⟩ => ⟨vs, .inl (.inl h), by omega⟩, fun i H O x H' t et ⟨h, ha, rs⟩ _ ⟨e1, e2⟩ => ?_, sh, fun H H' O O' g ⟨h, ha, rs⟩ => ?_⟩
  · subst e1
    obtain ⟨v, hv, r⟩ := rs.get et
    have := e2 vs (.inl (.inl h))
    rw [hv] at this; cases this
    exact ⟨fun _ _ e => e, r, h, ha, rs⟩
  · refine ⟨g.keep a _ ha h, (fun z => (g.new a z).elim ha fun q => by rw [h] at q; cases q), RepSs.later ⟨fun b o z e => g.keep b o (fun y => z (.inl y)) e, fun b z => ?_⟩ _ _ rs⟩
    exact z.elim (fun z => (g.new b z).imp .inl id) fun z => .inl (.inr z)
theorem seqTpl_to {fz : Bool} {m : Ex} {R : It → Hp → Prop} (h : tI K mg W (evi Φ sg (.seq .T fz m)) σ H R) : iTup K (tQ K mg W (evo m true (ev Φ sg m))) σ H R := by
  obtain ⟨F, L, O, st, a⟩ := h
  refine ⟨F, L, O, st, (Aft.bind2 (x := evo m true (ev Φ sg m) L) a).mono fun p L1 H1 O1 A _ mid a v r => ?_⟩
  obtain ⟨⟨ts, L2, bk⟩, e, a⟩ := Aft.onO a
  obtain ⟨b, vs, A', O', ex, hb, m2, nb, rs, sh, back⟩ := itTpl_sound mid r e
  exact ⟨b, ex, ⟨vs, .inl (.inl hb)⟩, a H1 O' A' m2 _ _ (itR_tup rs sh) ⟨hb, nb, rs⟩ back⟩

/-- a text -/
theorem itR_str {s : Str} {Fx : Fb} (hs : okS s) : ItR K (Its s) Fx (signs s) fun _ _ => True := by
  have hl : (signs s).length = s.cps.size := by simp [signs]
  refine ⟨fun i H O hi _ => by rw [hl] at hi; exact hi, fun H O _ => by rw [hl]; exact Nat.le_refl _, fun i H O x H' t et _ _ ⟨e1, c, hc, ev⟩ => ?_, ?_, fun _ _ _ _ _ _ => trivial⟩
  · subst e1 ev
    have : t = .str ⟨#[c]⟩ := by
      have h : (s.cps.toList.map fun c => T.str ⟨#[c]⟩)[i]? = some t := et
      rw [List.getElem?_map, Array.getElem?_toList, hc] at h
      exact (Option.some.inj h).symm
    subst this
    refine ⟨fun _ _ e => e, ⟨rfl, okS_sub hs fun d hd => ?_⟩, trivial⟩
    have : d = c := by simpa using hd
    subst this
    exact Array.mem_toList_iff.mpr (Array.mem_of_getElem? hc)
  · unfold signs
    rw [shrs_all, List.all_map]; simp [shr]
theorem seqStr_to {fz : Bool} {m : Ex} {R : It → Hp → Prop} (h : tI K mg W (evi Φ sg (.seq .S fz m)) σ H R) : iStr (tQ K mg W (evo m true (ev Φ sg m))) σ H R := by
  obtain ⟨F, L, O, st, a⟩ := h
  refine ⟨F, L, O, st, (Aft.bind2 (x := evo m true (ev Φ sg m) L) a).mono fun p L1 H1 O1 A _ mid a v r => ?_⟩
  obtain ⟨⟨ts, L2, bk⟩, e, a⟩ := Aft.onO a
  have e : itStr p L1 = some (ts, L2, bk) := e
  unfold itStr at e
  split at e
  · rename_i s q
    cases e
    obtain ⟨ev, hs⟩ := (r.read mid.st q : RepS K H1 (fun _ => False) (.str s) v)
    exact ⟨s, ev, a H1 O1 A mid _ _ (itR_str hs) trivial trivial⟩
  · cases e
theorem itR_rng {lo : Int} {n : Nat} {Fx : Fb} : ItR K (L2.Itr lo n) Fx (rngT lo n) fun _ _ => True := by
  have hl : (rngT lo n).length = n := by simp [rngT]
  refine ⟨fun i H O hi _ => by rw [hl] at hi; exact hi, fun H O _ => by rw [hl]; exact Nat.le_refl _, fun i H O x H' t et _ _ ⟨e1, ev⟩ => ?_, ?_, fun _ _ _ _ _ _ => trivial⟩
  · subst e1 ev
    have h : ((List.range n).map fun (k : Nat) => T.int (lo + (k : Int)))[i]? = some t := et
    have hi : i < n := by
      have := (List.getElem?_eq_some_iff.mp et).1
      omega
    rw [List.getElem?_map, List.getElem?_range hi] at h
    cases h
    exact ⟨fun _ _ e => e, rfl, trivial⟩
  · unfold rngT
    rw [shrs_all, List.all_map]; simp [shr]
theorem rng_to {es : Exs} {R : It → Hp → Prop} (h : tI K mg W (evi Φ sg (.rng es)) σ H R) : tQs K mg W (evq Φ sg es) σ H fun vs H1 =>
    (∃ j : Int, vs = [.int j] ∧ -(2 ^ 62) ≤ j ∧ j < 2 ^ 62 ∧ R (L2.Itr 0 j.toNat) H1) ∨ ∃ i j : Int, vs = [.int i, .int j] ∧ (-(2 ^ 62) ≤ i ∧ i < 2 ^ 62 ∧ -(2 ^ 62) ≤ j ∧ j < 2 ^ 62) ∧ R (L2.Itr i (j - i).toNat) H1 := by
  obtain ⟨F, L, O, st, a⟩ := h
  refine ⟨F, L, O, st, (Aft.bind2 (x := evq Φ sg es L) a).mono fun ps L1 H1 O1 A _ mid a vs r => ?_⟩
  obtain ⟨xs, e, a⟩ := Aft.onO a
  cases q : rds L1 ps with
  | none => rw [q] at e; cases e
  | some ts =>
    rw [q] at e
    replace e : rngRun ts = some xs := e
    obtain ⟨vs', ev, pr⟩ := r.read mid.st q
    subst ev
    unfold rngRun at e
    split at e
    · split at e
      · rename_i n hc
        cases e
        cases pr with
        | cons r1 pr =>
          cases pr
          have hb : -(2 ^ 62) ≤ n ∧ n < 2 ^ 62 := of_decide_eq_true hc.2
          exact .inl ⟨n, by rw [show _ = V.int n from r1], hb.1, hb.2, a H1 O1 A mid _ _ itR_rng trivial trivial⟩
      · cases e
    · split at e
      · rename_i i j hc
        cases e
        cases pr with
        | cons r1 pr =>
          cases pr with
          | cons r2 pr =>
            cases pr
            have hi : -(2 ^ 62) ≤ i ∧ i < 2 ^ 62 := of_decide_eq_true hc.2.1
            have hj : -(2 ^ 62) ≤ j ∧ j < 2 ^ 62 := of_decide_eq_true hc.2.2
            exact .inr ⟨i, j, by rw [show _ = V.int i from r1, show _ = V.int j from r2], ⟨hi.1, hi.2, hj.1, hj.2⟩, a H1 O1 A mid _ _ itR_rng trivial trivial⟩
      · cases e
    · cases e
end
end TV

set_option Elab.async false
set_option linter.all false
set_option maxRecDepth 100000
set_option maxHeartbeats 4000000
/-! TV36: enumerate, zip walked. -/
namespace TV
open PySem PySem.Spec PyProof.Rows L2
section
variable {K : PySem.W.Frag} {mg : Str → Option Value} {Φ : Funs} {sg : String → List Bool} {H H' H0 H1 H2 : Hp} {Z Z' F G : Fb} {σ : Sg} {L L' : Slots} {O O0 O1 O2 A B R : List Addr} {W : WX}
theorem enmT_get : ∀ {ts : List T} {n : Int} {i : Nat} {t : T}, (enmT n ts)[i]? = some t → ∃ x, ts[i]? = some x ∧ t = .tup false [.int (n + i), x]
  | [], _, _, _, h => by cases h
  | x :: xs, n, 0, t, h => by
    have h : some (T.tup false [.int n, x]) = some t := h
    cases h
    exact ⟨x, rfl, by simp⟩
  | x :: xs, n, i + 1, t, h => by
    obtain ⟨y, h1, h2⟩ := enmT_get (ts := xs) (n := n + 1) (i := i) (t := t) h
    exact ⟨y, h1, by rw [h2, show n + 1 + (i : Int) = n + ((i + 1 : Nat) : Int) by omega]⟩
theorem enmT_len : ∀ (ts : List T) (n : Int), (enmT n ts).length = ts.length
  | [], _ => rfl
  | x :: xs, n => by show (enmT (n + 1) xs).length + 1 = xs.length + 1; rw [enmT_len]
theorem enmT_shr : ∀ {ts : List T} {n : Int}, shrs ts = true → shrs (enmT n ts) = true
  | [], _, _ => rfl
  | x :: xs, n, h => by
    simp only [shrs, Bool.and_eq_true] at h
    show (shr (.tup false [.int n, x]) && shrs (enmT (n + 1) xs)) = true
    rw [enmT_shr h.2]
    simp [shr, shrs, h.1]
theorem zipT_get : ∀ {ts us : List T} {i : Nat} {t : T}, (zipT ts us)[i]? = some t → ∃ x y, ts[i]? = some x ∧ us[i]? = some y ∧ t = .tup false [x, y]
  | [], _, _, _, h => by cases h
  | _ :: _, [], _, _, h => by cases h
  | x :: xs, y :: ys, 0, t, h => by
    have h : some (T.tup false [x, y]) = some t := h
    cases h
    exact ⟨x, y, rfl, rfl, rfl⟩
  | x :: xs, y :: ys, i + 1, t, h => zipT_get (ts := xs) (us := ys) (i := i) h
theorem zipT_len : ∀ (ts us : List T), (zipT ts us).length = min ts.length us.length
  | [], us => by simp [zipT]
  | _ :: _, [] => by simp [zipT]
  | x :: xs, y :: ys => by show (zipT xs ys).length + 1 = _; rw [zipT_len, List.length_cons, List.length_cons]; omega
theorem zipT_shr : ∀ {ts us : List T}, shrs ts = true → shrs us = true → shrs (zipT ts us) = true
  | [], _, _, _ => rfl
  | _ :: _, [], _, _ => rfl
  | x :: xs, y :: ys, h, h' => by
    simp only [shrs, Bool.and_eq_true] at h h'
    show (shr (.tup false [x, y]) && shrs (zipT xs ys)) = true
    rw [zipT_shr h.2 h'.2]
    simp [shr, shrs, h.1, h'.1]
theorem frz_lst' (o : Bool) (xs : List T) : frz (.lst o xs) = .lst false (frzs xs) := by rw [frz]
/-- items of a list, as the heap grows -/
theorem items_grow {a : Addr} {vs : List V} {ts : List T} {Fx : Fb} (g : Grow H H' O O') (h : H a = some (.lst vs)) (ha : a ∉ O) (rs : RepSs K H (Zo O Fx) ts vs) : H' a = some (.lst vs) ∧ a ∉ O' ∧ RepSs K H' (Zo O' Fx) ts vs := by
  refine ⟨g.keep a _ ha h, (fun z => (g.new a z).elim ha fun q => by rw [h] at q; cases q), RepSs.later ⟨fun b o z e => g.keep b o (fun y => z (.inl y)) e, fun b z => ?_⟩ _ _ rs⟩
  exact z.elim (fun z => (g.new b z).imp .inl id) fun z => .inl (.inr z)
theorem upd_old {p : Addr} {o : HO} (hp : H p = none) : ∀ a u, H a = some u → (upd H p o) a = some u := fun a u e => by
  rw [upd_ne (fun z => by rw [z, hp] at e; cases e)]; exact e
theorem rep_old {p : Addr} {o : HO} (hp : H p = none) {t : T} {v : V} (hz : ¬ Z p) (r : RepS K H Z t v) : RepS K (upd H p o) Z t v :=
  RepS.later ⟨fun a u z e => upd_old hp a u e, fun a z => .inl z⟩ t v r
theorem reps_old {p : Addr} {o : HO} (hp : H p = none) {ts : List T} {vs : List V} (r : RepSs K H Z ts vs) : RepSs K (upd H p o) Z ts vs :=
  RepSs.later ⟨fun a u z e => upd_old hp a u e, fun a z => .inl z⟩ ts vs r
theorem SqL.lst {a : Addr} {vs : List V} (h : H a = some (.lst vs)) : SqL K H a vs := .inl (.inl h)
theorem itR_enm {a : Addr} {ts : List T} {vs : List V} {Fx : Fb} (rs : RepSs K H (Zo O Fx) ts vs) (sh : shrs ts = true) :
    ItR K (Ite K a) Fx (enmT 0 ts) fun H O => H a = some (.lst vs) ∧ a ∉ O ∧ RepSs K H (Zo O Fx) ts vs := by
  have hl := rs.length
  refine ⟨fun i H O hi ⟨h, _, _⟩ => ⟨vs, vs[i]'(by rw [enmT_len] at hi; omega), SqL.lst h, by rw [List.getElem?_eq_getElem]⟩, fun H O ⟨h, _, _⟩ => ⟨vs, SqL.lst h, by rw [enmT_len]; omega⟩, fun i H O x H' t et ⟨h, ha, rs⟩ th ⟨p, y, e1, e2, e3, e4⟩ => ?_, enmT_shr sh, fun H H' O O' g ⟨h, ha, rs⟩ => items_grow g h ha rs⟩
  subst e1 e3
  obtain ⟨x, et', e5⟩ := enmT_get et
  subst e5
  obtain ⟨v, hv, r⟩ := rs.get et'
  have q1 := e4 vs (SqL.lst h)
  rw [hv] at q1
  have q1 := Option.some.inj q1
  subst q1
  have nz : ¬ Zo O Fx p := fun z => th p z e2
  refine ⟨upd_old e2, ⟨p, _, rfl, upd_same, nz, ⟨_, _, rfl, rfl, by rw [Int.zero_add]; rfl, ⟨v, [], rfl, ?_, rep_old e2 nz r, rfl⟩⟩⟩, upd_old e2 a _ h, ha, reps_old e2 rs⟩
  cases x <;> first | rfl | (rw [shrs_all, List.all_eq_true] at sh; exact absurd (sh _ (List.mem_of_getElem? et')) (by show ¬ false = true; decide))
theorem itR_zip {a b : Addr} {ts us : List T} {vs ws : List V} {Fx : Fb} (rs : RepSs K H (Zo O Fx) ts vs) (sh : shrs ts = true) (rs' : RepSs K H (Zo O Fx) us ws) (sh' : shrs us = true) :
    ItR K (Itz K a b) Fx (zipT ts us) fun H O => (H a = some (.lst vs) ∧ a ∉ O ∧ RepSs K H (Zo O Fx) ts vs) ∧ (H b = some (.lst ws) ∧ b ∉ O ∧ RepSs K H (Zo O Fx) us ws) := by
  have hl := rs.length
  have hl' := rs'.length
  have lk : ∀ {zs : List T} {z : T} {i : Nat}, shrs zs = true → zs[i]? = some z → isLkd z = false := fun {zs z i} s e => by
    cases z <;> first | rfl | (rw [shrs_all, List.all_eq_true] at s; exact absurd (s _ (List.mem_of_getElem? e)) (by show ¬ false = true; decide))
  refine ⟨fun i H O hi ⟨⟨h, _, _⟩, h', _, _⟩ => ?_, fun H O ⟨⟨h, _, _⟩, h', _, _⟩ => ⟨vs, ws, SqL.lst h, SqL.lst h', by rw [zipT_len]; omega⟩, fun i H O x H' t et ⟨⟨h, ha, rs⟩, h', ha', rs'⟩ th ⟨p, y, z, e1, e2, e3, e4, e5⟩ => ?_, zipT_shr sh sh', fun H H' O O' g ⟨⟨h, ha, rs⟩, h', ha', rs'⟩ => ⟨items_grow g h ha rs, items_grow g h' ha' rs'⟩⟩
  · rw [zipT_len] at hi
    exact ⟨vs, ws, vs[i]'(by omega), ws[i]'(by omega), SqL.lst h, SqL.lst h', by rw [List.getElem?_eq_getElem], by rw [List.getElem?_eq_getElem]⟩
  · subst e1 e3
    obtain ⟨t1, t2, g1, g2, e6⟩ := zipT_get et
    subst e6
    obtain ⟨v, hv, r⟩ := rs.get g1
    obtain ⟨v', hv', r'⟩ := rs'.get g2
    have q1 := e4 vs (SqL.lst h)
    rw [hv] at q1
    have q1 := Option.some.inj q1
    subst q1
    have q2 := e5 ws (SqL.lst h')
    rw [hv'] at q2
    have q2 := Option.some.inj q2
    subst q2
    have nz : ¬ Zo O Fx p := fun z => th p z e2
    exact ⟨upd_old e2, ⟨p, _, rfl, upd_same, nz, ⟨v, [v'], rfl, lk sh g1, rep_old e2 nz r, ⟨v', [], rfl, lk sh' g2, rep_old e2 nz r', rfl⟩⟩⟩, ⟨upd_old e2 a _ h, ha, reps_old e2 rs⟩, upd_old e2 b _ h', ha', reps_old e2 rs'⟩
theorem enm_to {fz : Bool} {m : Ex} {R : It → Hp → Prop} (h : tI K mg W (evi Φ sg (.enm fz m)) σ H R) : tQ K mg W (evo m true (ev Φ sg m)) σ H fun x H1 => ∃ a xs, [x] = [V.ref a] ∧ SqL K H1 a xs ∧ R (Ite K a) H1 := by
  obtain ⟨F, L, O, st, a⟩ := h
  refine ⟨F, L, O, st, (Aft.bind2 (x := evo m true (ev Φ sg m) L) a).mono fun p L1 H1 O1 A _ mid a v r => ?_⟩
  obtain ⟨⟨ts, L2, bk⟩, e, a⟩ := Aft.onO a
  obtain ⟨b, vs, A', O', ex, hb, m2, nb, rs, sh, back, _⟩ := itFrz_sound mid r e
  subst ex
  exact ⟨b, vs, rfl, SqL.lst hb, a H1 O' A' m2 _ _ (itR_enm rs sh) ⟨hb, nb, rs⟩ back⟩
/-- an operand that is a list, as what is only read -/
theorem RepQ.share {fz : Bool} {p : Opd} {x : V} {C : List Addr} {r0 : List T × Slots × Option (Nat × T)} {M : Slots} (m : Mid K H0 O0 H F σ L O A) (r : RepQ K H (Zz O A F) σ p x C) (s : ∀ a ∈ C, a ∈ A) (e : itFrz fz p M = some r0) :
    ∃ p', RepQ K H (Zz O [] F) σ p' x [] ∧ (∀ O2, (∀ b ∈ O2, b ∈ O) → RepQ K H (Zz O2 [] F) σ p' x []) ∧ itFrz fz p' M = some r0 := by
  cases p with
  | v t =>
    cases t with
    | lst o xs =>
      have r : RepO K H (Zz O A F) (.lst o xs) x C := r
      have rs : RepS K H (Zo O F) (.lst o xs) x := r.read (fun a z => z.elim .inl fun z => .inr (.inr z)) _ _ _ fun a ha z => z.elim (fun z => m.st.df a z (.inl (s a ha))) (m.df a (s a ha))
      have rf := rs.frz
      rw [frz_lst'] at rf
      have sh := RepS.shrF _ _ rs rfl
      rw [frz_lst'] at sh
      have shx : shrs (frzs xs) = true := by simpa [shr] using sh
      have q : ∀ O2, (∀ b ∈ O2, b ∈ O) → RepQ K H (Zz O2 [] F) σ (.v (.lst false (frzs xs))) x [] := fun O2 h2 =>
        (show RepO K H (Zz O2 [] F) (.lst false (frzs xs)) x [] from ⟨rf.later1 fun a z => by
          rcases z with z | z | z
          · exact .inl (h2 a z)
          · cases z
          · exact .inr z, rfl, sh⟩)
      refine ⟨.v (.lst false (frzs xs)), q O fun _ z => z, q, ?_⟩
      have e : some (frzs xs, M, none) = some r0 := e
      show some (frzs (frzs xs), M, none) = some r0
      rw [frzs_shr _ shx]; exact e
    | _ => cases e
  | s i ks =>
    obtain ⟨eC, v0, hv, pv⟩ := r
    exact ⟨.s i ks, ⟨rfl, v0, hv, pv⟩, fun _ _ => ⟨rfl, v0, hv, pv⟩, e⟩
theorem zip_to {es : Exs} {R : It → Hp → Prop} (h : tI K mg W (evi Φ sg (.zip es)) σ H R) : tQs K mg W (evq Φ sg es) σ H fun vs H1 => ∃ a b xs ys, vs = [V.ref a, V.ref b] ∧ SqL K H1 a xs ∧ SqL K H1 b ys ∧ R (Itz K a b) H1 := by
  obtain ⟨F, L, O, st, a⟩ := h
  refine ⟨F, L, O, st, (Aft.bind2 (x := evq Φ sg es L) a).mono fun ps L1 H1 O1 A _ mid a vs r => ?_⟩
  obtain ⟨⟨zs, L2⟩, e, a⟩ := Aft.onO a
  unfold zipRun at e
  split at e
  · rename_i p q _
    cases k1 : itFrz true p L1 with
    | none => rw [k1] at e; cases e
    | some r1 =>
      obtain ⟨ts, L3, b1⟩ := r1
      rw [k1] at e
      replace e : (itFrz true q L3).bind (fun r' => if isDup p q then none else some (zipT ts r'.1, r'.2.1)) = some (zs, L2) := e
      cases k2 : itFrz true q L3 with
      | none => rw [k2] at e; cases e
      | some r2 =>
        obtain ⟨us, L4, b2⟩ := r2
        rw [k2] at e
        replace e : (if isDup p q then none else some (zipT ts us, L4)) = some (zs, L2) := e
        split at e
        · cases e
        · have e1 : zs = zipT ts us := by cases e; rfl
          have e2 : L2 = L4 := by cases e; rfl
          subst e1 e2
          obtain ⟨x, y, C1, C2, ev, eC, h1, h2⟩ := r.two
          subst ev
          have s1 : ∀ a ∈ C1, a ∈ A := fun a ha => by rw [eC]; exact List.mem_append_left _ ha
          have s2 : ∀ a ∈ C2, a ∈ A := fun a ha => by rw [eC]; exact List.mem_append_right _ ha
          obtain ⟨p', r1, _, k1'⟩ := h1.share mid s1 k1
          obtain ⟨q', _, r2, k2'⟩ := h2.share mid s2 k2
          obtain ⟨c, vs, A1, P1, ex, hc, m1, n1, rs1, sh1, _, o1⟩ := itFrz_sound mid.bare r1 k1'
          obtain ⟨d, ws, A2, P2, ey, hd, m2, n2, rs2, sh2, _, o2⟩ := itFrz_sound m1.bare (r2 P1 o1) k2'
          subst ex ey
          refine ⟨c, d, vs, ws, rfl, SqL.lst hc, SqL.lst hd, a H1 P2 [] m2.bare _ _ (itR_zip (H := H1) (O := P2) ?_ sh1 ?_ sh2) ⟨⟨hc, fun z => n1 (o2 c z), ?_⟩, hd, n2, ?_⟩ trivial⟩
          all_goals first
            | exact rs1.later1 fun b z => by
                rcases z with z | z | z
                · exact .inl (o2 b z)
                · cases z
                · exact .inr (.inr z)
            | exact rs2.later1 fun b z => by
                rcases z with z | z | z
                · exact .inl z
                · cases z
                · exact .inr (.inr z)
  · cases e
end
end TV

set_option Elab.async false
set_option linter.all false
set_option maxRecDepth 100000
set_option maxHeartbeats 4000000
/-! TV32: a dict's keys are walked, the dict locked meanwhile. -/
namespace TV
open PySem PySem.Spec PyProof.Rows L2

section
variable {K : PySem.W.Frag} {mg : Str → Option Value} {Φ : Funs} {sg : String → List Bool} {H H' H0 H1 H2 : Hp} {Z Z' F G : Fb} {σ : Sg} {L L' : Slots} {O O0 O1 O2 A B R : List Addr} {W : WX}
theorem keyT_rep {k : Key} (h : (match k with | .inl _ => true | .inr s => PyData.strOk s) = true) : RepS K H Z (keyT k) (kV k) := by
  cases k with
  | inl i => rfl
  | inr s => exact ⟨rfl, h⟩
theorem shr_keys : ∀ ks : List Key, shrs (ks.map keyT) = true
  | [] => rfl
  | k :: ks => by
    show (shr (keyT k) && shrs (ks.map keyT)) = true
    rw [shr_keys ks]
    cases k <;> rfl
theorem itR_key {d : Addr} {o : Obj} {ks : List Key} {vs : List V} {Fx : Fb} (hl : ks.length = vs.length) (hk : keysOk ks = true) : ItR K (Itk d o (ks.zip vs)) Fx (ks.map keyT) fun H _ => H d = some (.frz o (.dK (ks.zip vs))) := by
  have w := walk_keys (d := d) (o := o) (kvs := ks.zip vs)
  have lz : (ks.zip vs).length = ks.length := by rw [List.length_zip]; omega
  refine ⟨fun i H O hi h => w.goes i H (by rw [lz]; simpa using hi) h, fun H O h => ?_, fun i H O x H' t et h _ y => ?_, shr_keys ks, fun H H' O O' g h => g.fz d o _ h⟩
  · have := w.stops H h
    rw [lz] at this
    simpa using this
  · have hi : i < ks.length := by
      have := (List.getElem?_eq_some_iff.mp et).1
      simpa using this
    obtain ⟨e1, k, v, e2, e3⟩ := w.yields i H x H' (by rw [lz]; exact hi) h y
    subst e1 e3
    have ek : ks[i]? = some k := by
      rw [List.getElem?_zip_eq_some] at e2
      exact e2.1
    rw [List.getElem?_map, ek] at et
    cases et
    exact ⟨fun _ _ e => e, keyT_rep (List.all_eq_true.mp hk k (List.mem_of_getElem? ek)), h⟩
/-- the dict is locked: its slot holds it so -/
theorem StOk.lock (st : StOk K H F σ L O) {i : Nat} {ks : List Key} {xs : List T} (e : slot L i = some (.dic true ks xs)) :
    ∃ d vs O', σ[i]? = some (some (.ref d)) ∧ H d = some (.dK (ks.zip vs)) ∧ ks.length = vs.length ∧ (∀ a, a ∈ d :: O' → a ∈ O) ∧ d ∉ O' ∧ ¬ F d ∧ RepSs K H (Zz O' [d] F) (frzs xs) vs ∧ shrs (frzs xs) = true ∧
      ∀ od, StOk K (upd H d (.frz od (.dK (ks.zip vs)))) F σ (L.set i (some (.lkd ks (frzs xs)))) (d :: O') := by
  have e' := slot_get e
  have hi : i < L.length := (List.getElem?_eq_some_iff.mp e').1
  obtain ⟨v, A0, O', h1, p, r, st', nd, df⟩ := st.take e'
  obtain ⟨d, vs, B, ev, eA, hd, hl, rk⟩ := r
  subst ev eA
  have nd1 := List.nodup_cons.mp nd
  have dO' : ∀ a ∈ d :: B, a ∉ O' := fun a ha z => st'.df a z (.inl ha)
  have rs : RepSs K H (Zz O' [d] F) xs vs := RepOs.read (fun b z => z.imp id fun z => z.imp (fun z => by rw [List.mem_singleton.mp z]; exact List.mem_cons_self) id) xs vs B (fun b hb z => by
    rcases z with z | z | z
    · exact dO' b (List.mem_cons_of_mem _ hb) z
    · rw [List.mem_singleton.mp z] at hb; exact nd1.1 hb
    · exact df b (List.mem_cons_of_mem _ hb) z) rk
  have rf := RepSs.frz xs vs rs
  have sh := RepSs.shrF xs vs rs
  refine ⟨d, vs, O', h1, hd, hl, fun a ha => p.mem_iff.mpr ?_, dO' d List.mem_cons_self, df d List.mem_cons_self, rf, sh, fun od => ?_⟩
  · rcases List.mem_cons.mp ha with z | z
    · subst z; exact List.mem_append_left _ List.mem_cons_self
    · exact List.mem_append_right _ z
  · have st2 : StOk K (upd H d (.frz od (.dK (ks.zip vs)))) (Fa [d] F) σ (L.set i none) O' := st'.later (fun a o z q => by
        rw [upd_ne (fun q2 => z (by subst q2; exact .inl List.mem_cons_self))]; exact q) (fun a z => .inl (z.imp (fun z => by rw [List.mem_singleton.mp z]; exact List.mem_cons_self) id)) fun a z => by
        by_cases q : a = d
        · subst q; rw [upd_same]; exact fun e => nomatch e
        · rw [upd_ne q]; exact st'.fth a (.inr (z.resolve_left fun z => q (List.mem_singleton.mp z)))
    have rep : RepO K (upd H d (.frz od (.dK (ks.zip vs)))) (Zz O' [d] F) (.lkd ks (frzs xs)) (.ref d) [d] := by
      refine ⟨d, vs, od, [], rfl, rfl, upd_same, hl, RepSs.held (RepSs.later ⟨fun a o z q => ?_, fun a z => .inl z⟩ _ _ rf) sh⟩
      rw [upd_ne (fun q2 => z (by subst q2; exact .inr (.inl List.mem_cons_self)))]; exact q
    have st3 := st2.put0 (i := i) (v := .ref d) (by simp [hi]) rep (by simp) fun a ha z => by
      rw [List.mem_singleton.mp ha] at z; exact df d List.mem_cons_self z
    rw [List.set_set, set_self h1] at st3
    exact st3
/-- the dict is unlocked -/
theorem Mid.unlock {d : Addr} {od : Obj} {ks ks' : List Key} {xs ys : List T} {vs : List V} {O2 O' A : List Addr} {Lb : Slots} {i : Nat} (hO : ∀ a, a ∈ d :: O' → a ∈ O) (hd : H d = some (.dK (ks.zip vs))) (hdO : d ∉ O') (hl : ks.length = vs.length) (hv : σ[i]? = some (some (.ref d)))
    (rs : RepSs K H (Zz O' [d] F) xs vs) (sh : shrs xs = true) (m : Mid K (upd H d (.frz od (.dK (ks.zip vs)))) (d :: O') H' F σ Lb O2 A) (e : slot Lb i = some (.lkd ks' ys)) :
    H' d = some (.frz od (.dK (ks.zip vs))) ∧ d ∉ A ∧ ∃ O3, (∀ a ∈ O3, a ∈ O2) ∧ d ∈ O2 ∧ Mid K H O (upd H' d (.dK (ks.zip vs))) F σ (Lb.set i (some (.dic true ks xs))) O3 A := by
  have e' := slot_get e
  have hi : i < Lb.length := (List.getElem?_eq_some_iff.mp e').1
  have fz : H' d = some (.frz od (.dK (ks.zip vs))) := m.gr.fz d od _ upd_same
  obtain ⟨v, A0, O3, h1, p, r, st, nd, df⟩ := m.st.take e'
  rw [hv] at h1; cases h1
  obtain ⟨d', vs', od', B, ev, eA, _, _, _⟩ := r
  cases ev
  subst eA
  have dA : d ∉ A := fun z => df d List.mem_cons_self (.inl z)
  have in2 : ∀ a, a ∈ d :: B ∨ a ∈ O3 → a ∈ O2 := fun a z => p.mem_iff.mpr (List.mem_append.mpr z)
  have dO3 : d ∉ O3 := fun z => st.df d z (.inl List.mem_cons_self)
  have st1 : StOk K (upd H' d (.dK (ks.zip vs))) (Fa [d] (Fa A F)) σ (Lb.set i none) O3 := st.later (fun a o z q => by
      rw [upd_ne (fun q2 => z (by subst q2; exact .inl List.mem_cons_self))]; exact q) (fun a z => .inl (z.imp (fun z => by rw [List.mem_singleton.mp z]; exact List.mem_cons_self) id)) fun a z => by
      by_cases q : a = d
      · subst q; rw [upd_same]; exact fun e => nomatch e
      · rw [upd_ne q]; exact st.fth a (.inr (z.resolve_left fun z => q (List.mem_singleton.mp z)))
  have rs2 : RepSs K (upd H' d (.dK (ks.zip vs))) (Zz O3 [d] (Fa A F)) xs vs := RepSs.later (Z := Zz O' [d] F) ⟨fun a o z q => ?_, fun a z => ?_⟩ _ _ rs
  · have rep : RepO K (upd H' d (.dK (ks.zip vs))) (Zz O3 [d] (Fa A F)) (.dic true ks xs) (.ref d) [d] := ⟨d, vs, [], rfl, rfl, upd_same, hl, RepSs.held rs2 sh⟩
    have st2 := st1.put0 (i := i) (by simp [hi]) rep (by simp) fun a ha z => by
      rw [List.mem_singleton.mp ha] at z; exact df d List.mem_cons_self z
    rw [List.set_set, set_self hv] at st2
    refine ⟨fz, dA, d :: O3, fun a ha => ?_, in2 d (.inl List.mem_cons_self), st2, m.nd, m.df, fun a o ha q => ?_, fun a ha => ?_, fun a o u q => ?_⟩
    · rcases List.mem_cons.mp ha with z | z
      · subst z; exact in2 a (.inl List.mem_cons_self)
      · exact in2 a (.inr z)
    · have nd' : a ≠ d := fun q2 => ha (by subst q2; exact hO a List.mem_cons_self)
      rw [upd_ne nd']
      exact m.gr.keep a o (fun z => ha (hO a z)) (by rw [upd_ne nd']; exact q)
    · have : a ∈ O2 ++ A := by
        rcases List.mem_append.mp ha with z | z
        · rcases List.mem_cons.mp z with z | z
          · subst z; exact List.mem_append_left _ (in2 a (.inl List.mem_cons_self))
          · exact List.mem_append_left _ (in2 a (.inr z))
        · exact List.mem_append_right _ z
      rcases m.gr.new a this with z | z
      · exact .inl (hO a z)
      · right
        rw [upd_ne (fun q2 => by subst q2; rw [upd_same] at z; cases z)] at z
        exact z
    · have nd' : a ≠ d := fun q2 => by subst q2; rw [hd] at q; cases q
      rw [upd_ne nd']
      exact m.gr.fz a o u (by rw [upd_ne nd']; exact q)
  · have nd' : a ≠ d := fun q2 => z (.inr (.inl (by rw [q2]; exact List.mem_cons_self)))
    rw [upd_ne nd']
    exact m.gr.keep a o (fun y => (List.mem_cons.mp y).elim nd' fun y => z (.inl y)) (by rw [upd_ne nd']; exact q)
  · have key : a ∈ d :: O' ∨ upd H d (.frz od (.dK (ks.zip vs))) a = none → Zz O' [d] F a ∨ H a = none := fun z => by
      rcases z with z | z
      · rcases List.mem_cons.mp z with z | z
        · exact .inl (.inr (.inl (List.mem_singleton.mpr z)))
        · exact .inl (.inl z)
      · right
        rw [upd_ne (fun q2 => by subst q2; rw [upd_same] at z; cases z)] at z
        exact z
    rcases z with z | z | z | z
    · exact key (m.gr.new a (List.mem_append_left _ (in2 a (.inr z))))
    · exact .inl (.inr (.inl z))
    · exact key (m.gr.new a (List.mem_append_right _ z))
    · exact .inl (.inr (.inr z))
/-- over a dict's keys -/
theorem comp_keys {elt : Ex} {tg : Tg} {cond : Exs} {i : Nat} {fz : Bool} {Q : VK} (hc : condOk cond = true) (nd : noDup (tgs tg) = true) (h : tD K mg W (ev Φ sg (.comp elt tg (.seq .K fz (.var i)) cond)) σ H Q) :
    tLockE (tLc (iKeys (tVar i)) (gEnt K tg) (tCond K mg W0 Φ sg cond) (tD K mg W0 (ev Φ sg elt)) (tgs tg)) σ H Q := by
  obtain ⟨F, L, O, st, a⟩ := h
  replace a : Aft K mg W σ F O H ((evi Φ sg (.seq .K fz (.var i)) L).bind fun r L1 => if LINE < r.1.length then .stuck else noErr (compRun (entT tg) (evt Φ sg cond) (ev Φ sg elt) r.1 (wipeL L1 (tgs tg))) fun ys L2 => onO (backS r.2 (backL L1 L2 (tgs tg))) fun L3 => Out.ok (T.lst true ys) L3) _ := a
  have e0 : evi Φ sg (.seq .K fz (.var i)) L = onO (slot L i) fun _ => onO (itKeyS i [] L (slot L i)) fun r => .ok (r.1, r.2.2) r.2.1 := by
    show ((onO (slot L i) fun _ => .ok (.s i []) L).bind fun p L1 => onO (itKey p L1) fun r => .ok (r.1, r.2.2) r.2.1) = _
    cases q : slot L i with
    | none => rfl
    | some t =>
      show onO (itKeyS i [] L (rd L (.s i []))) _ = onO (itKeyS i [] L (some t)) _
      rw [rdS, q]
  rw [e0] at a
  cases q : slot L i with
  | none => rw [q] at a; exact a.elim
  | some t =>
    rw [q] at a
    cases t with
    | dic ow ks xs =>
      cases ow with
      | false => exact a.elim
      | true =>
        by_cases hk : keysOk ks = true
        · have e1 : itKeyS i [] L (some (.dic true ks xs)) = some (ks.map keyT, L.set i (some (.lkd ks (frzs xs))), some (i, .dic true ks (frzs xs))) := if_pos ⟨rfl, hk⟩
          rw [e1] at a
          replace a : Aft K mg W σ F O H (if LINE < (ks.map keyT).length then .stuck else noErr (compRun (entT tg) (evt Φ sg cond) (ev Φ sg elt) (ks.map keyT) (wipeL (L.set i (some (.lkd ks (frzs xs)))) (tgs tg))) fun ys L2 => onO (backS (some (i, .dic true ks (frzs xs))) (backL (L.set i (some (.lkd ks (frzs xs)))) L2 (tgs tg))) fun L3 => Out.ok (T.lst true ys) L3) _ := a
          obtain ⟨d, vs, O', hv, hd, hl, hO, hdO, hdF, rs, sh, lk⟩ := st.lock q
          refine ⟨d, _, hd, trivial, fun od => ⟨.ref d, hv, d, od, rfl, .inl ⟨_, upd_same, comp_core (W := W) (mg := mg) (Φ := Φ) (sg := sg) (elt := elt) (Q := fun v H' => H' d = some (.frz od (.dK (ks.zip vs))) ∧ Q v (upd H' d (.dK (ks.zip vs)))) (bk := none) (ts := ks.map keyT) hc nd (Mid.start (lk od)) (itR_key hl hk) upd_same trivial ?_⟩⟩⟩
          by_cases hn : LINE < (ks.map keyT).length
          · rw [if_pos hn] at a; exact a.elim
          · rw [if_neg hn] at a ⊢
            cases q2 : compRun (entT tg) (evt Φ sg cond) (ev Φ sg elt) (ks.map keyT) (wipeL (L.set i (some (.lkd ks (frzs xs)))) (tgs tg)) with
            | stuck => rw [q2] at a; exact a.elim
            | err c L' => rw [q2] at a; exact a.elim
            | ok ys L2 =>
              rw [q2] at a
              obtain ⟨L3, eb, a⟩ := Aft.onO a
              refine (show Aft K mg W σ F (d :: O') _ (Out.ok (T.lst true ys) (backL (L.set i (some (.lkd ks (frzs xs)))) L2 (tgs tg))) _ from ?_)
              intro H' O2 A m v hkv rv
              obtain ⟨ks', ys', eL, e3⟩ : ∃ ks' ys', slot (backL (L.set i (some (.lkd ks (frzs xs)))) L2 (tgs tg)) i = some (.lkd ks' ys') ∧ L3 = (backL (L.set i (some (.lkd ks (frzs xs)))) L2 (tgs tg)).set i (some (.dic true ks (frzs xs))) := by
                unfold backS at eb
                simp only at eb
                split at eb
                · cases eb
                · rename_i k2 y2 e2
                  cases eb
                  exact ⟨k2, y2, e2, rfl⟩
                · cases eb
              subst e3
              obtain ⟨fzd, dA, O3, s3, dO2, m3⟩ := Mid.unlock hO hd hdO hl hv rs sh m eL
              refine ⟨fzd, a _ O3 A m3 v hkv (RepO.later ⟨fun b o z e => ?_, fun b z => .inl (z.imp (s3 b) id)⟩ _ _ _ (fun b hb o e => ?_) rv)⟩
              · rw [upd_ne (fun q2 => z (by rw [q2]; exact .inl dO2))]; exact e
              · rw [upd_ne (fun q2 => dA (by rw [← q2]; exact hb))]; exact e
        · have e1 : itKeyS i [] L (some (.dic true ks xs)) = none := if_neg fun z => hk z.2
          rw [e1] at a; exact a.elim
    | _ => exact a.elim
end
end TV

set_option Elab.async false
set_option linter.all false
set_option maxRecDepth 100000
set_option maxHeartbeats 4000000
/-! TV25: calls, chains, comprehensions of the text; the whole of expressions. -/
namespace TV
open PySem PySem.Spec PyProof.Rows L2

def rngLen : List Expr → Bool
  | [_] => true
  | [_, _] => true
  | _ => false
def isTupE : Expr → Bool
  | .Tuple _ _ _ => true
  | _ => false
def mIt (Γ : Gm) (rec : Rc) (sc : Scope) (it : Itr) (tg e : Expr) : Bool :=
  match it with
  | .enm _ m => match e with
    | .Call (.Name x _) [a] [] _ => isTupE tg && decide (x = ("enumerate" : Str)) && bltB Γ sc x && notStar a && rec sc a m
    | _ => false
  | .zip es => match e with
    | .Call (.Name x _) [a, b] [] _ => isTupE tg && decide (x = ("zip" : Str)) && bltB Γ sc x && mats rec sc [a, b] es
    | _ => false
  | .seq .L _ m => rec sc e m
  | .seq .T _ m => rec sc e m
  | .seq .S _ m => rec sc e m
  | .rng es => match e with
    | .Call (.Name x _) as [] _ => decide (x = ("range" : Str)) && bltB Γ sc x && rngLen as && mats rec sc as es
    | _ => false
  | _ => false
def mCall (Γ : Gm) (rec : Rc) (sc : Scope) (f : String) (es : Exs) (e : Expr) : Bool :=
  match e with
  | .Call (.Name x _) (a :: as) [] _ => glB sc x && decide (Γ.fs.lookup x = some f) && mats rec sc (a :: as) es
  | _ => false
def mChain (rec : Rc) (sc : Scope) (o1 o2 : CmpOp) (a b c : Ex) (e : Expr) : Bool :=
  match e with
  | .Compare x [p, q] [y, z] _ => decide (p = o1) && decide (q = o2) && !lastMarks [p, q] [y, z] && rec sc x a && rec sc y b && rec sc z c
  | _ => false
def ownOf (Γ : Gm) (js : List Nat) : List (Str × Nat) := js.map fun j => ((Γ.N[j]?).getD "", j)
def locOwn (scope : Scope) (x : Str) : Bool := match scope.names.lookup x with
  | some .local => true
  | some .cell => true
  | _ => false
def mIfs (rec : Rc) (sc : Scope) : List Expr → Exs → Bool
  | [], .nil => true
  | [c], .cons m .nil => rec sc c m && !isIf c
  | _, _ => false
def notSet : Expr → Bool
  | .Set _ _ _ => false
  | _ => true
def mCompR (Γ : Gm) (rec : Rc) (sc : Scope) (m : Ex) (tg : Tg) (cond : Exs) (elt : Expr) (target iter : Expr) (ifs : List Expr) (scope : Scope) : Bool :=
  blkC Γ.N sc scope (ownOf Γ (tgs tg)) && noDup (tgs tg) && notSet iter && mTg Γ (locOwn scope) tg target && mIfs rec (relS scope sc) ifs cond && rec (relS scope sc) elt m
def keysIt : Itr → Option Nat
  | .seq .K _ (.var i) => some i
  | _ => none
def mCompB (Γ : Gm) (rec : Rc) (sc : Scope) (m : Ex) (tg : Tg) (it : Itr) (cond : Exs) (elt : Expr) (target iter : Expr) (ifs : List Expr) (scope : Scope) : Bool :=
  mCompR Γ rec sc m tg cond elt target iter ifs scope && mIt Γ rec sc it target iter
def mComp (Γ : Gm) (rec : Rc) (sc : Scope) (m : Ex) (tg : Tg) (it : Itr) (cond : Exs) (e : Expr) : Bool :=
  match e with
  | .ListComp elt [⟨target, iter, ifs, 0⟩] scope _ => match keysIt it with
    | some i => mVar Γ sc i iter && mCompR Γ rec sc m tg cond elt target iter ifs scope
    | none => mCompB Γ rec sc m tg it cond elt target iter ifs scope
  | _ => false
/-- the defs that are called keep their promises -/
structure FnsOk (Γ : Gm) (X : Cx) (Φ : Funs) (sg : String → List Bool) : Prop where
  fn : ∀ x f, Γ.fs.lookup x = some f → ∃ k fa fd ps, Room k X.A ∧ X.mg x = some (.ref fa) ∧ PySem.W.keepIn X.K (.ref fa) = true ∧ Binds X.K fd ps [] ∧ FnOk X.prog X.w X.K X.mg X.base (L2.CX X.prog X.w) k fa fd ps (spF X.K X.mg (sg f) (Φ f))
  ar : ∀ f ts, Φ f ts ≠ .stuck → ∃ us, argS (sg f) ts = some us
section
variable {Γ : Gm} {X : Cx} {W : WX} {Φ : Funs} {sg : String → List Bool} {rec : Rc}
theorem PI.to {tg e : Expr} {t t' : TI} (h : PI X tg e t) (w : ∀ σ H Q, t' σ H Q → t σ H Q) : PI X tg e t' := ⟨fun pins s σ H Q I q => h.run pins s σ H Q I (w σ H Q q)⟩
theorem mIt_sound (C : CxOk Γ X W) (S : Snd Γ X W Φ sg rec) {it : Itr} {e tg : Expr} (h : mIt Γ rec X.env.scope it tg e = true) : PI X tg e (tI X.K X.mg W (evi Φ sg it)) := by
  unfold mIt at h
  split at h
  · split at h
    · rename_i fz m x p a pos
      simp only [Bool.and_eq_true] at h
      obtain ⟨⟨⟨⟨h0, h1⟩, h2⟩, h3⟩, h4⟩ := h
      have e1 := of_decide_eq_true h1
      subst e1
      obtain ⟨gx, dx, mx⟩ := bltB_of C h2
      cases tg <;> first | cases h0 | skip
      exact PI.to (pi_enum gx mx (pa_cons (evo_sound (b := true) C S h4) pa_nil (star_cons h3)) (star_cons h3)) fun σ H R q => enm_to q
    · cases h
  · split at h
    · rename_i es x p a b pos
      simp only [Bool.and_eq_true] at h
      obtain ⟨⟨⟨h0, h1⟩, h2⟩, h4⟩ := h
      have e1 := of_decide_eq_true h1
      subst e1
      obtain ⟨gx, dx, mx⟩ := bltB_of C h2
      have P := evq_sound C S h4
      have na : notStar a = true := P.1
      have nb : notStar b = true := by obtain ⟨_, _, _, _, h2, _⟩ := P; exact h2.1
      cases tg <;> first | cases h0 | skip
      exact PI.to (pi_zip gx mx P.pa (star_cons na) (by rw [star_cons nb]; rfl)) fun σ H R q => zip_to q
    · cases h
  · exact PI.to (pi_list (evo_sound (b := true) C S h)) fun σ H R q => seqFrz_to q
  · exact PI.to (pi_tup (evo_sound (b := true) C S h)) fun σ H R q => seqTpl_to q
  · exact PI.to (pi_str (evo_sound (b := true) C S h)) fun σ H R q => seqStr_to q
  · split at h
    · rename_i es x p as pos
      simp only [Bool.and_eq_true] at h
      have e1 := of_decide_eq_true h.1.1.1
      subst e1
      obtain ⟨gx, dx, mx⟩ := bltB_of C h.1.1.2
      have P := evq_sound C S h.2
      match as, h.1.2, P with
      | [a], _, P =>
        have na : notStar a = true := P.1
        obtain ⟨ta, pa, w⟩ := P.one
        refine PI.to (pi_range1 gx mx (pa_cons (peM pa) pa_nil (star_cons na)) (star_cons na)) fun σ H R q => ?_
        refine ⟨_, w σ H _ (rng_to q), fun y H1 z => ?_⟩
        rcases z with z | ⟨i, j, ev, _⟩
        · exact z
        · cases ev
      | [a, b], _, P =>
        have na : notStar a = true := P.1
        have nb : notStar b = true := by obtain ⟨_, _, _, _, h2, _⟩ := P; exact h2.1
        obtain ⟨ta, tb, pa, pb, w⟩ := P.two
        refine PI.to (pi_range2 gx mx (pa_cons (peM pa) (pa_cons (peM pb) pa_nil (star_cons nb)) (star_cons na)) (by rw [star_cons na, star_cons nb]; rfl) (by rw [star_cons nb]; rfl)) fun σ H R q => ?_
        refine ⟨_, w σ H _ (rng_to q), fun y H1 z => ⟨_, z, fun y2 H2 z => ?_⟩⟩
        rcases z with ⟨j, ev, _⟩ | z
        · cases ev
        · exact z
    · cases h
  · cases h
theorem call_pe (C : CxOk Γ X W) (S : Snd Γ X W Φ sg rec) (FO : FnsOk Γ X Φ sg) {f : String} {es : Exs} {e : Expr} (h : mCall Γ rec X.env.scope f es e = true) : PE X e (tD X.K X.mg W (ev Φ sg (.call f es))) := by
  unfold mCall at h
  split at h
  · rename_i x p a as pos
    simp only [Bool.and_eq_true] at h
    obtain ⟨g1, g2⟩ := glB_gl h.1.1
    obtain ⟨k, fa, fd, ps, hr, hm, hk, hb, hf⟩ := FO.fn _ _ (of_decide_eq_true h.1.2)
    have P := evq_sound C S h.2
    have na : notStar a = true := P.1
    have st : (backTo pos (starEach as X.env)).any (·.1) = false := by
      obtain ⟨_, te, ts, _, h2, _⟩ := P
      exact h2.star
    refine (pe_callS hf hr g1 hm hk hb (fun σ => passAt C.tk σ) P.pa g2 (star_cons na) st).to fun σ H Q ⟨F, L, O, st, a'⟩ => ⟨F, L, O, st, ?_⟩
    exact (Aft.bind2 (x := evq Φ sg es L) a').mono fun qs L1 H1 O1 A1 _ mid a vs r => call_sound mid r a (FO.ar f)
  · cases h
theorem sc_nlk {t : T} (h : scOk t) : isLkd t = false := by
  cases t <;> first | rfl | exact absurd h (by simp [scOk])
theorem chain_to {o1 o2 : CmpOp} {a b c : Ex} (σ : Sg) (H : Hp) (Q : VK) (h : tD X.K X.mg W (ev Φ sg (.chain o1 o2 a b c)) σ H Q) :
    tChain (rCmp X.K o1) (rCmp X.K o2) (tD X.K X.mg W (ev Φ sg a)) (tD X.K X.mg W (ev Φ sg b)) (tD X.K X.mg W (ev Φ sg c)) σ H Q := by
  obtain ⟨F, L, O, st, h⟩ := h
  refine ⟨F, L, O, st, (Aft.bind2 (x := ev Φ sg a L) h).mono fun t1 L1 H1 O1 A1 _ mid1 h x hk1 r1 => ⟨_, L1, O1, mid1.st, ?_⟩⟩
  refine (Aft.step mid1 (Aft.bind2 (x := ev Φ sg b L1) h)).mono fun t2 L2 H2 O2 A2 _ mid2 h y hk2 r2 => ?_
  obtain ⟨r, e, h⟩ := Aft.onO h
  have r1' : RepS X.K H2 (fun _ => False) t1 x := RepO_read (RepO.later (mid2.later mid1.st) t1 x A1 (fun b hb o e => mid2.kept mid1.st b hb o e) r1)
  obtain ⟨ok, fin⟩ := cmpS_sound e r1' (RepO_read r2)
  refine fin _ ?_
  obtain ⟨k, ek, h⟩ := onB_aft h
  subst ek
  refine ⟨k, rfl, ?_⟩
  have mid := mid1.trans mid2
  cases k with
  | false => exact h H2 O2 [] mid.bare _ rfl ⟨rfl, rfl⟩
  | true =>
    refine ⟨_, L2, O2, mid.st, (Aft.step mid (Aft.bind2 (x := ev Φ sg c L2) h)).mono fun t3 L3 H3 O3 A3 _ mid3 h w hk3 r3 => ?_⟩
    obtain ⟨r', e', h⟩ := Aft.onO h
    have r2' : RepS X.K H3 (fun _ => False) t2 y := RepO_read (RepO.later (mid3.later mid.st) t2 y A2 (fun b hb o e => mid3.kept mid.st b (List.mem_append_right _ hb) o e) (r2.later1 fun a z => by
      rcases z with z | z | z
      · exact .inl z
      · exact (List.mem_append.mp z).elim (fun z => .inr (.inr (.inl z))) fun z => .inr (.inl z)
      · exact .inr (.inr (.inr z))))
    obtain ⟨ok', fin'⟩ := cmpS_sound e' r2' (RepO_read r3)
    exact fin' _ (h H3 O3 [] (mid.trans mid3).bare _ (sc_nlk ok') (scRep ok'))
theorem CxOk.blk (C : CxOk Γ X W) {s : Shared} {H : Hp} {scope : Scope} {Ca : Addr} {cl : List (Str × Addr)} {fp : List Addr} : CxOk Γ (X.blk s H scope (compEnvC scope cl Ca X.env) fp) W0 :=
  ⟨C.hN, C.nd, C.calm, C.un, L2.takes0, C.gb, C.gc⟩
theorem FnsOk.blk (C : FnsOk Γ X Φ sg) {s : Shared} {H : Hp} {scope : Scope} {Ca : Addr} {cl : List (Str × Addr)} {fp : List Addr} : FnsOk Γ (X.blk s H scope (compEnvC scope cl Ca X.env) fp) Φ sg :=
  ⟨C.fn, C.ar⟩
theorem loc_blk {s : Shared} {H : Hp} {scope : Scope} {Ca : Addr} {cl : List (Str × Addr)} {fp : List Addr} : LoOk (X.blk s H scope (compEnvC scope cl Ca X.env) fp) (locOwn scope) := fun x h => by
  unfold locOwn at h
  split at h
  · rename_i e
    have e2 : (relS scope X.env.scope).names.lookup x = some .local := lookup_relS_keep (by decide) e
    exact ⟨.inl e2, .inr e2⟩
  · rename_i e
    have e2 : (relS scope X.env.scope).names.lookup x = some .cell := lookup_relS_keep (by decide) e
    refine ⟨.inr e2, .inl ?_⟩
    show (scope.names.lookup x == some NameKind.cell) = true
    rw [e]; rfl
  · cases h
/-- all that a comprehension's rules ask -/
structure CompOk (X : Cx) (W : WX) (Φ : Funs) (sg : String → List Bool) (m : Ex) (tg : Tg) (wi : TI) (cond : Exs) (elt target iter : Expr) (ifs : List Expr) (scope : Scope) (own : List (Str × Nat)) : Prop where
  hi : PI X target iter wi
  ok : BlkOk X.N X.env.scope scope own
  hg : ∀ (s : Shared) (H : Hp) (C : Addr) (cl : List (Str × Addr)) (fp : List Addr), PG (X.blk s H scope (compEnvC scope cl C X.env) fp) target (gEnt X.K tg)
  ht : ∀ (s : Shared) (H : Hp) (C : Addr) (cl : List (Str × Addr)) (fp : List Addr), PTs (X.blk s H scope (compEnvC scope cl C X.env) fp) ifs (tCond X.K X.mg W0 Φ sg cond)
  he : ∀ (s : Shared) (H : Hp) (C : Addr) (cl : List (Str × Addr)) (fp : List Addr), PE (X.blk s H scope (compEnvC scope cl C X.env) fp) elt (tD X.K X.mg W0 (ev Φ sg m))
  hs : ∀ x, foldedSetIterable iter X.env x = pure x
  nd : noDup (tgs tg) = true
  co : condOk cond = true
  eo : own.map (·.2) = tgs tg
theorem own_ix {js : List Nat} : (ownOf Γ js).map (·.2) = js := by
  unfold ownOf
  rw [List.map_map]
  exact (List.map_congr_left (g := id) fun _ _ => rfl).trans (List.map_id _)
theorem notSet_ok {e : Expr} {env : Env} {x : Value} (h : notSet e = true) : foldedSetIterable e env x = pure x := by
  cases e <;> first | rfl | cases h
theorem mCompR_sound (C : CxOk Γ X W) (FO : FnsOk Γ X Φ sg) (SA : ∀ X W, CxOk Γ X W → FnsOk Γ X Φ sg → Snd Γ X W Φ sg rec) {m : Ex} {tg : Tg} {wi : TI} {cond : Exs} {elt target iter : Expr} {ifs : List Expr} {scope : Scope} (hi : PI X target iter wi) (h : mCompR Γ rec X.env.scope m tg cond elt target iter ifs scope = true) :
    CompOk X W Φ sg m tg wi cond elt target iter ifs scope (ownOf Γ (tgs tg)) := by
  unfold mCompR at h
  simp only [Bool.and_eq_true] at h
  obtain ⟨⟨⟨⟨⟨h1, h2⟩, h3⟩, h4⟩, h6⟩, h7⟩ := h
  have sb : ∀ (s : Shared) (H : Hp) (Ca : Addr) (cl : List (Str × Addr)) (fp : List Addr), Snd Γ (X.blk s H scope (compEnvC scope cl Ca X.env) fp) W0 Φ sg rec := fun s H Ca cl fp => SA _ _ C.blk FO.blk
  refine ⟨hi, blkOk_by (by rw [C.hN]; exact h1), fun s H Ca cl fp => mTg_sound (X := X.blk s H scope (compEnvC scope cl Ca X.env) fp) C.hN C.nd C.calm loc_blk h4, fun s H Ca cl fp => ?_, fun s H Ca cl fp => (sb s H Ca cl fp).pe elt m h7, fun x => notSet_ok h3, h2, ?_, own_ix⟩
  · unfold mIfs at h6
    split at h6
    · exact pts_nil
    · rw [Bool.and_eq_true] at h6
      exact pts_one ((sb s H Ca cl fp).pt _ _ h6.1 (by simpa using h6.2))
    · cases h6
  · unfold mIfs at h6
    split at h6
    · rfl
    · rfl
    · cases h6
theorem mCompB_sound (C : CxOk Γ X W) (FO : FnsOk Γ X Φ sg) (SA : ∀ X W, CxOk Γ X W → FnsOk Γ X Φ sg → Snd Γ X W Φ sg rec) {m : Ex} {tg : Tg} {it : Itr} {cond : Exs} {elt target iter : Expr} {ifs : List Expr} {scope : Scope} (h : mCompB Γ rec X.env.scope m tg it cond elt target iter ifs scope = true) :
    CompOk X W Φ sg m tg (tI X.K X.mg W (evi Φ sg it)) cond elt target iter ifs scope (ownOf Γ (tgs tg)) := by
  unfold mCompB at h
  rw [Bool.and_eq_true] at h
  exact mCompR_sound C FO SA (mIt_sound C (SA _ _ C FO) h.2) h.1
theorem keysIt_eq {it : Itr} {i : Nat} (h : keysIt it = some i) : ∃ fz, it = .seq .K fz (.var i) := by
  unfold keysIt at h
  split at h
  · cases h; exact ⟨_, rfl⟩
  · cases h
theorem comp_pe (C : CxOk Γ X W) (FO : FnsOk Γ X Φ sg) (SA : ∀ X W, CxOk Γ X W → FnsOk Γ X Φ sg → Snd Γ X W Φ sg rec) {m : Ex} {tg : Tg} {it : Itr} {cond : Exs} {e : Expr} (h : mComp Γ rec X.env.scope m tg it cond e = true) :
    PE X e (tD X.K X.mg W (ev Φ sg (.comp m tg it cond))) := by
  unfold mComp at h
  split at h
  · split at h
    · rename_i i e
      rw [Bool.and_eq_true] at h
      obtain ⟨fz, e2⟩ := keysIt_eq e
      subst e2
      have k := mCompR_sound C FO SA (pi_keys (mVar_sound C h.1)) h.2
      refine (pe_lock (pe_lc C.calm C.nd k.hi k.ok k.hg k.ht k.he k.hs)).to fun σ H Q q => ?_
      rw [k.eo]
      exact comp_keys k.co k.nd q
    · have k := mCompB_sound C FO SA h
      refine (pe_lc C.calm C.nd k.hi k.ok k.hg k.ht k.he k.hs).to fun σ H Q q => ?_
      rw [k.eo]
      exact comp_to k.co k.nd q
  · cases h
end
end TV

set_option Elab.async false
set_option linter.all false
set_option maxRecDepth 100000
set_option maxHeartbeats 4000000
/-! TV35: a call whose arguments are names or displays of one name, lent: nothing is changed. -/
namespace TV
open PySem PySem.Spec PyProof.Rows L2

def mDsp1 (Γ : Gm) (sc : Scope) (i : Nat) (a : Expr) : Bool := match a with | .List [x] _ => mVar Γ sc i x && notStar x | _ => false
def mLendA (Γ : Gm) (sc : Scope) : List Expr → List (Bool × Nat) → Bool
  | [], [] => true
  | a :: as, (true, i) :: ds => mDsp1 Γ sc i a && mLendA Γ sc as ds
  | a :: as, (false, i) :: ds => mVar Γ sc i a && notStar a && mLendA Γ sc as ds
  | _, _ => false
def mLend (Γ : Gm) (sc : Scope) (f : String) (ds : List (Bool × Nat)) (e : Expr) : Bool :=
  match e with
  | .Call (.Name x _) (a :: as) [] _ => glB sc x && decide (Γ.fs.lookup x = some f) && mLendA Γ sc (a :: as) ds
  | _ => false
def tLend : List (Bool × Nat) → TA
  | [] => fun σ H R => R [] H
  | (false, i) :: ds => fun σ H R => tVar i σ H fun v H1 => tLend ds σ H1 fun vs H2 => R (v :: vs) H2
  | (true, i) :: ds => fun σ H R => tVar i σ H fun v H1 => ∀ p, H1 p = none → tLend ds σ (upd H1 p (.lst [v])) fun vs H2 => R (.ref p :: vs) H2
section
variable {Γ : Gm} {X : Cx} {W : WX} {Φ : Funs} {sg : String → List Bool} {rec : Rc}
theorem lendA_pes (C : CxOk Γ X W) : ∀ {as : List Expr} {ds : List (Bool × Nat)}, mLendA Γ X.env.scope as ds = true → PEs X as (tLend ds)
  | [], [], _ => fun σ H R q => q
  | [], (b, i) :: ds, h => by cases b <;> cases h
  | a :: as, [], h => by cases h
  | a :: as, (true, i) :: ds, h => by
    have h : (mDsp1 Γ X.env.scope i a && mLendA Γ X.env.scope as ds) = true := h
    rw [Bool.and_eq_true] at h
    obtain ⟨h1, h2⟩ := h
    unfold mDsp1 at h1
    split at h1
    · rename_i x pos
      rw [Bool.and_eq_true] at h1
      refine ⟨rfl, _, _, pe_lst (pa_cons (mVar_sound C h1.1) pa_nil (star_cons h1.2)), lendA_pes C h2, fun σ H R q => ?_⟩
      obtain ⟨v, e, q⟩ := q
      exact ⟨v, e, show 1 ≤ sizeLine by decide, q⟩
    · cases h1
  | a :: as, (false, i) :: ds, h => by
    have h : (mVar Γ X.env.scope i a && notStar a && mLendA Γ X.env.scope as ds) = true := h
    simp only [Bool.and_eq_true] at h
    exact ⟨h.1.2, _, _, mVar_sound C h.1.1, lendA_pes C h.2, fun σ H R q => q⟩
end
section
variable {K : PySem.W.Frag} {mg : Str → Option Value} {W : WX} {H0 : Hp} {O0 : List Addr} {F : Fb} {σ : Sg} {L : Slots} {O : List Addr} {Φ : Funs} {sg : String → List Bool}
theorem slot_rep {H : Hp} {A : List Addr} (m : Mid K H0 O0 H F σ L O A) {i : Nat} {t : T} (e : slot L i = some t) : ∃ v, σ[i]? = some (some v) ∧ RepS K H F t v := by
  obtain ⟨v, C, h1, h2, h3⟩ := m.st.at e
  exact ⟨v, h1, h3.read (fun a z => .inr (.inr z)) t v C fun a ha z => m.st.df a (h2 a ha) (.inr z)⟩
theorem lend_args : ∀ {ds : List (Bool × Nat)} {ts : List T} {H : Hp} {A : List Addr} {R : List V → Hp → Prop}, Mid K H0 O0 H F σ L O A → lendA ds L = some ts →
    (∀ vs H1 A1, (∀ a o, H a = some o → H1 a = some o) → Mid K H0 O0 H1 F σ L O A1 → RepSs K H1 F ts vs → R vs H1) → tLend ds σ H R
  | [], ts, H, A, R, m, e, k => by
    cases e
    exact k [] H A (fun _ _ e => e) m rfl
  | (b, i) :: ds, ts, H, A, R, m, e, k => by
    have e : ((slot L i).bind fun t => if isLkd t then none else (lendA ds L).map ((if b then T.lst false [frz t] else frz t) :: ·)) = some ts := e
    cases q : slot L i with
    | none => rw [q] at e; cases e
    | some t =>
      rw [q] at e
      replace e : (if isLkd t then none else (lendA ds L).map ((if b then T.lst false [frz t] else frz t) :: ·)) = some ts := e
      by_cases hk : isLkd t = true
      · rw [if_pos hk] at e; cases e
      · rw [if_neg hk] at e
        have hk : isLkd t = false := by simpa using hk
        cases q2 : lendA ds L with
        | none => rw [q2] at e; cases e
        | some us =>
          rw [q2] at e
          have e : (if b then T.lst false [frz t] else frz t) :: us = ts := Option.some.inj e
          subst e
          obtain ⟨v, ev, rv⟩ := slot_rep m q
          have rv := RepS.frz t v rv
          cases b with
          | false =>
            refine ⟨v, ev, lend_args m q2 fun vs H1 A1 g m1 r => k (v :: vs) H1 A1 g m1 ⟨v, vs, rfl, (by show isLkd (frz t) = false; rw [isLkd_frz]; exact hk), rv.later ⟨fun a o _ e => g a o e, fun a z => .inl z⟩, r⟩⟩
          | true =>
            refine ⟨v, ev, fun p hp => lend_args (m.alloc (o := .lst [v]) (B := []) hp (fun _ z => by cases z) .nil) q2 fun vs H1 A1 g m1 r => ?_⟩
            have np : ¬ F p := fun z => m.st.fth p (.inr z) hp
            have lt : Later H (upd H p (.lst [v])) F F := later_alloc hp fun a z => .inl z
            have gg : ∀ a o, H a = some o → H1 a = some o := fun a o e => g a o (by
              rw [upd]; split
              · rename_i e2; subst e2; rw [hp] at e; cases e
              · exact e)
            refine k (.ref p :: vs) H1 A1 gg m1 ⟨.ref p, vs, rfl, rfl, ⟨p, [v], rfl, g p _ (by simp [upd]), np, v, [], rfl, by rw [isLkd_frz]; exact hk, ?_, rfl⟩, r⟩
            exact rv.later ⟨fun a o _ e => gg a o e, fun a z => .inl z⟩
theorem lend_rep {H : Hp} : ∀ {ts : List T} {ms : List Bool} {us : List T} {vs : List V}, ms.any id = false → argS ms ts = some us → RepSs K H F ts vs →
    RepL K H F (us.map some) (vs.map some) [] ∧ mutV ms vs = [] ∧ ts.length = vs.length
  | [], ms, us, vs, hm, e, r => by
    cases r
    have hu : us = [] := by cases ms with
      | nil => cases e; rfl
      | cons b ms => cases b <;> cases e <;> rfl
    subst hu
    refine ⟨.nil, ?_, rfl⟩
    cases ms with
    | nil => rfl
    | cons b ms => cases b <;> rfl
  | t :: ts, ms, us, vs, hm, e, ⟨v, vr, ev, hk, r1, r2⟩ => by
    subst ev
    have go : ∀ ms', ms'.any id = false → argS ms (t :: ts) = (if isLkd t then none else (argS ms' ts).map (frz t :: ·)) → mutV ms (v :: vr) = mutV ms' vr → 
        RepL K H F (us.map some) ((v :: vr).map some) [] ∧ mutV ms (v :: vr) = [] ∧ (t :: ts).length = (v :: vr).length := fun ms' hm' g1 g2 => by
      rw [g1, hk] at e
      cases q : argS ms' ts with
      | none => rw [q] at e; cases e
      | some us' =>
        rw [q] at e
        have e : frz t :: us' = us := Option.some.inj e
        subst e
        obtain ⟨a, b, c⟩ := lend_rep hm' q r2
        exact ⟨RepL.held (A := []) (r1.held hk) a, by rw [g2]; exact b, by simpa using c⟩
    cases ms with
    | nil => exact go [] rfl rfl (by cases vr <;> rfl)
    | cons b ms => cases b with
      | false => exact go ms (by simpa using hm) rfl rfl
      | true => simp at hm
theorem lend_sound {H : Hp} {A : List Addr} {f : String} {ts : List T} {vs : List V} {Q : VK} (m : Mid K H0 O0 H F σ L O A) (hm : (sg f).any id = false) (r : RepSs K H F ts vs)
    (a : Aft K mg W σ F O0 H0 (lendBack L (Φ f ts)) fun t L' H' O' A => ∀ v, isLkd t = false → RepO K H' (Zz O' A F) t v A → Q v H')
    (ha : ∀ ts, Φ f ts ≠ .stuck → ∃ us, argS (sg f) ts = some us) : spF K mg (sg f) (Φ f) vs H Q (WE W σ) := by
  cases q : Φ f ts with
  | stuck => rw [q] at a; exact a.elim
  | err c => rw [q] at a; exact a.elim
  | ok rr outs =>
    cases outs with
    | cons o outs => rw [q] at a; exact a.elim
    | nil =>
      rw [q] at a
      replace a : Aft K mg W σ F O0 H0 (if (!isLkd rr && cln rr) = true then .ok rr L else .stuck) _ := a
      by_cases hc : (!isLkd rr && cln rr) = true
      · rw [if_pos hc] at a
        simp only [Bool.and_eq_true, Bool.not_eq_true'] at hc
        obtain ⟨us, eu⟩ := ha ts fun z => by rw [q] at z; cases z
        obtain ⟨rl, em, el⟩ := lend_rep hm eu r
        refine ⟨F, ts, us, [], eu, el, ⟨[], .refl _, rl.later ⟨fun _ _ _ e => e, fun a z => z.elim (fun z => by cases z) .inl⟩ (fun _ z => by cases z), .nil, (fun _ z => by cases z), fun a z => m.st.fth a (.inr z)⟩, ?_⟩
        rw [q]
        intro v H' B' A' ro hk rr' nd df g
        rw [em] at ro
        obtain ⟨_, e0⟩ := ro
        subst e0
        obtain ⟨O2, _, mid⟩ := call_back (B := []) (O' := O) (is := []) (vm := []) (L0 := L) (L2 := L) (outs := []) (B' := []) (A' := A') (Z' := fun _ => True) m (fun a z => z.elim (fun z => by cases z) id) (fun _ z => by cases z)
          (by rw [Fa_nil]; exact m.st) (fun _ z => by cases z) rfl ⟨rfl, rfl⟩ (fun _ _ => trivial) nd df (RepO.there _ _ _ rr') g rfl
        exact a H' O2 A' mid v hk (rr'.cln _ _ _ hc.2)
      · rw [if_neg hc] at a; exact a.elim
end
section
variable {Γ : Gm} {X : Cx} {W : WX} {Φ : Funs} {sg : String → List Bool} {rec : Rc}
theorem lend_pe (C : CxOk Γ X W) (FO : FnsOk Γ X Φ sg) {f : String} {ds : List (Bool × Nat)} {e : Expr} (h : mLend Γ X.env.scope f ds e = true) : PE X e (tD X.K X.mg W (ev Φ sg (.lend f ds))) := by
  unfold mLend at h
  split at h
  · rename_i x p a as pos
    simp only [Bool.and_eq_true] at h
    obtain ⟨g1, g2⟩ := glB_gl h.1.1
    obtain ⟨k, fa, fd, ps, hr, hm, hk, hb, hf⟩ := FO.fn _ _ (of_decide_eq_true h.1.2)
    have P := lendA_pes C h.2
    have na : notStar a = true := P.1
    have st : (backTo pos (starEach as X.env)).any (·.1) = false := by
      obtain ⟨_, te, ts, _, h2, _⟩ := P
      exact h2.star
    refine (pe_callS hf hr g1 hm hk hb (fun σ => passAt C.tk σ) P.pa g2 (star_cons na) st).to fun σ H Q ⟨F, L, O, st, a'⟩ => ?_
    have a' : Aft X.K X.mg W σ F O H (lendRun Φ sg f ds L) fun t L' H' O' A => ∀ v, isLkd t = false → RepO X.K H' (Zz O' A F) t v A → Q v H' := a'
    unfold lendRun at a'
    by_cases hs : (sg f).any id = true
    · rw [if_pos hs] at a'; exact a'.elim
    · rw [if_neg hs] at a'
      obtain ⟨ts, e1, a'⟩ := Aft.onO a'
      exact lend_args (Mid.start st) e1 fun vs H1 A1 _ m1 r => lend_sound m1 (by simpa using hs) r a' (FO.ar f)
  · cases h
end
end TV

set_option Elab.async false
set_option linter.all false
set_option maxRecDepth 100000
set_option maxHeartbeats 4000000
/-! TV26: the whole of expressions. -/
namespace TV
open PySem PySem.Spec PyProof.Rows L2

def mIte (rec : Rc) (sc : Scope) (c a b : Ex) (e : Expr) : Bool :=
  match e with
  | .IfExp t x y _ => rec sc t c && !isIf t && rec sc x a && rec sc y b
  | _ => false
def mNot (rec : Rc) (sc : Scope) (a : Ex) (e : Expr) : Bool :=
  match e with
  | .UnaryOp .Not x _ => rec sc x a && !isIf x
  | _ => false
def mAnd (rec : Rc) (sc : Scope) (m : Ex) (e : Expr) : Bool :=
  match e with
  | .BoolOp .And es _ => mBo rec sc true es m
  | _ => false
def mOr (rec : Rc) (sc : Scope) (m : Ex) (e : Expr) : Bool :=
  match e with
  | .BoolOp .Or es _ => mBo rec sc false es m
  | _ => false
def mLst (rec : Rc) (sc : Scope) (es : Exs) (e : Expr) : Bool :=
  match e with
  | .List as _ => mats rec sc as es
  | _ => false
def mTup (rec : Rc) (sc : Scope) (es : Exs) (e : Expr) : Bool :=
  match e with
  | .Tuple as _ _ => mats rec sc as es
  | _ => false
def mDict0 (e : Expr) : Bool :=
  match e with
  | .Dict [] [] _ => true
  | _ => false
def noExs : Exs → Bool
  | .nil => true
  | _ => false
def matE (Γ : Gm) (rec : Rc) : Rc := fun sc e m =>
  match m with
  | .var i => mSimp Γ sc e (.var i)
  | .cst c => mSimp Γ sc e (.cst c)
  | .pth i ks => mSimp Γ sc e (.pth i ks)
  | .op o es => mOp Γ rec sc o es e
  | .lst es => mLst rec sc es e
  | .tup es => mTup rec sc es e
  | .dic ks vs => noExs ks && noExs vs && mDict0 e
  | .dit0 => mDict0 e
  | .call f es => mCall Γ rec sc f es e
  | .lend f ds => mLend Γ sc f ds e
  | .and a b => mAnd rec sc (.and a b) e
  | .or a b => mOr rec sc (.or a b) e
  | .not a => mNot rec sc a e
  | .ite c a b => mIte rec sc c a b e
  | .chain o1 o2 a b c => mChain rec sc o1 o2 a b c e
  | .comp elt tg it cond => mComp Γ rec sc elt tg it cond e
  | _ => false
def mat (Γ : Gm) : Nat → Rc
  | 0 => fun _ _ _ => false
  | n + 1 => matE Γ (mat Γ n)
section
variable {Γ : Gm} {X : Cx} {W : WX} {Φ : Funs} {sg : String → List Bool} {rec : Rc}
theorem plainT_ok {e : Expr} {env : Env} (h : plainT e = true) : ∀ whole, isTrue e env whole = (do let v ← whole; standAt e.pos; holding [v] (truthy v)) := by
  intro whole
  cases e with
  | UnaryOp op x pos => cases op <;> first | rfl | cases h
  | BoolOp op es pos => cases h
  | IfExp a b c pos => cases h
  | Compare a b c pos => cases h
  | _ => rfl
theorem noExs_nil {es : Exs} (h : noExs es = true) : es = .nil := by cases es <;> first | rfl | cases h
theorem matE_pe (C : CxOk Γ X W) (FO : FnsOk Γ X Φ sg) (SA : ∀ X W, CxOk Γ X W → FnsOk Γ X Φ sg → Snd Γ X W Φ sg rec) {e : Expr} {m : Ex} (h : matE Γ rec X.env.scope e m = true) : PE X e (tD X.K X.mg W (ev Φ sg m)) := by
  have S := SA X W C FO
  cases m with
  | var i => exact mSimp_full C h
  | cst c => exact mSimp_full C h
  | pth i ks => exact mSimp_full C h
  | op o es => exact op_pe C S h
  | lst es =>
    change mLst rec X.env.scope es e = true at h
    unfold mLst at h
    split at h
    · exact lst_pe C S h
    · cases h
  | tup es =>
    change mTup rec X.env.scope es e = true at h
    unfold mTup at h
    split at h
    · exact tup_pe C S h
    · cases h
  | dic ks vs =>
    have h : (noExs ks && noExs vs && mDict0 e) = true := h
    simp only [Bool.and_eq_true] at h
    have e1 := noExs_nil h.1.1
    have e2 := noExs_nil h.1.2
    subst e1 e2
    have h := h.2
    unfold mDict0 at h
    split at h
    · exact dic_pe
    · cases h
  | dit0 =>
    change mDict0 e = true at h
    unfold mDict0 at h
    split at h
    · exact dit_pe
    · cases h
  | call f es => exact call_pe C S FO h
  | lend f ds => exact lend_pe C FO h
  | and a b =>
    change mAnd rec X.env.scope (.and a b) e = true at h
    unfold mAnd at h
    split at h
    · exact (bo_and S h).1
    · cases h
  | or a b =>
    change mOr rec X.env.scope (.or a b) e = true at h
    unfold mOr at h
    split at h
    · exact (bo_or S h).1
    · cases h
  | not a =>
    change mNot rec X.env.scope a e = true at h
    unfold mNot at h
    split at h
    · rw [Bool.and_eq_true] at h
      exact not_pe (S.pe _ _ h.1)
    · cases h
  | ite c a b =>
    change mIte rec X.env.scope c a b e = true at h
    unfold mIte at h
    split at h
    · simp only [Bool.and_eq_true] at h
      exact ite_pe (S.pt _ _ h.1.1.1 (by simpa using h.1.1.2)) (S.pe _ _ h.1.2) (S.pe _ _ h.2)
    · cases h
  | chain o1 o2 a b c =>
    change mChain rec X.env.scope o1 o2 a b c e = true at h
    unfold mChain at h
    split at h
    · simp only [Bool.and_eq_true] at h
      have e1 := of_decide_eq_true h.1.1.1.1.1
      have e2 := of_decide_eq_true h.1.1.1.1.2
      subst e1 e2
      have hu := C.un
      exact (pe_chain (opCmp _ (by omega)) (opCmp _ (by omega)) (S.pe _ _ h.1.1.2) (S.pe _ _ h.1.2) (S.pe _ _ h.2) (by simpa using h.1.1.1.2)).to chain_to
    · cases h
  | comp elt tg it cond => exact comp_pe C FO SA h
  | srtk a f => cases h
  | pop i ks es => cases h
theorem tT_B {e : Expr} {m : Ex} (h : PE X e (tD X.K X.mg W (ev Φ sg m))) (hp : plainT e = true) : PT X e (tT X.K X.mg W (evb Φ sg m)) :=
  (pt_val h (plainT_ok hp)).to fun σ H Q q => tT_D q
theorem matE_pt (C : CxOk Γ X W) (FO : FnsOk Γ X Φ sg) (SA : ∀ X W, CxOk Γ X W → FnsOk Γ X Φ sg → Snd Γ X W Φ sg rec) {e : Expr} {m : Ex} (h : matE Γ rec X.env.scope e m = true) (hi : isIf e = false) : PT X e (tT X.K X.mg W (evb Φ sg m)) := by
  have S := SA X W C FO
  have p := matE_pe C FO SA h
  by_cases hp : plainT e = true
  · exact tT_B p hp
  · cases m with
    | and a b =>
      change mAnd rec X.env.scope (.and a b) e = true at h
      unfold mAnd at h
      split at h
      · exact (bo_and S h).2.pt
      · cases h
    | or a b =>
      change mOr rec X.env.scope (.or a b) e = true at h
      unfold mOr at h
      split at h
      · exact (bo_or S h).2.pt
      · cases h
    | not a =>
      change mNot rec X.env.scope a e = true at h
      unfold mNot at h
      split at h
      · rw [Bool.and_eq_true] at h
        exact not_pt (S.pt _ _ h.1 (by simpa using h.2))
      · cases h
    | chain o1 o2 a b c =>
      change mChain rec X.env.scope o1 o2 a b c e = true at h
      unfold mChain at h
      split at h
      · simp only [Bool.and_eq_true] at h
        have e1 := of_decide_eq_true h.1.1.1.1.1
        have e2 := of_decide_eq_true h.1.1.1.1.2
        subst e1 e2
        have hu := C.un
        exact (pt_chain (opCmp _ (by omega)) (opCmp _ (by omega)) (S.pe _ _ h.1.1.2) (S.pe _ _ h.1.2) (S.pe _ _ h.2) (by simpa using h.1.1.1.2)).to fun σ H Q q => chain_to σ H _ (tT_D q)
      · cases h
    | op o es =>
      change mOp Γ rec X.env.scope o es e = true at h
      unfold mOp at h
      split at h
      · exact absurd rfl hp
      · split at h
        · rw [Bool.and_eq_true, Bool.and_eq_true] at h
          have e1 := of_decide_eq_true h.1.1
          subst e1
          obtain ⟨ta, tb, pa, pb, w⟩ := (evq_sound C S h.2).two
          have hu := C.un
          exact (pt_cmpR (opCmp _ (by omega)) pa pb (by simpa using h.1.2)).to fun σ H Q q => cmp_to (a := .Name "" default) (b := .Name "" default) w σ H _ (tT_D q)
        · cases h
      all_goals first | exact absurd rfl hp | cases h
    | var i =>
      exfalso
      have h : mVar Γ X.env.scope i e = true := h
      unfold mVar at h
      split at h
      · exact hp rfl
      · cases h
    | cst c =>
      exfalso
      have h : mCst Γ X.env.scope c e = true := h
      unfold mCst at h
      split at h <;> first | exact hp rfl | cases h
    | pth i ks =>
      exfalso
      have h : mPth Γ X.env.scope i ks.reverse e = true := h
      cases q : ks.reverse with
      | nil =>
        rw [q] at h
        have h : mVar Γ X.env.scope i e = true := h
        unfold mVar at h
        split at h
        · exact hp rfl
        · cases h
      | cons k ks =>
        rw [q] at h
        unfold mPth at h
        split at h
        · exact hp rfl
        · cases h
    | lst es =>
      exfalso
      change mLst rec X.env.scope es e = true at h
      unfold mLst at h
      split at h
      · exact hp rfl
      · cases h
    | tup es =>
      exfalso
      change mTup rec X.env.scope es e = true at h
      unfold mTup at h
      split at h
      · exact hp rfl
      · cases h
    | dic ks vs =>
      exfalso
      have h : (noExs ks && noExs vs && mDict0 e) = true := h
      rw [Bool.and_eq_true] at h
      have h := h.2
      unfold mDict0 at h
      split at h
      · exact hp rfl
      · cases h
    | dit0 =>
      exfalso
      change mDict0 e = true at h
      unfold mDict0 at h
      split at h
      · exact hp rfl
      · cases h
    | call f es =>
      exfalso
      change mCall Γ rec X.env.scope f es e = true at h
      unfold mCall at h
      split at h
      · exact hp rfl
      · cases h
    | lend f ds =>
      exfalso
      change mLend Γ X.env.scope f ds e = true at h
      unfold mLend at h
      split at h
      · exact hp rfl
      · cases h
    | ite c a b =>
      exfalso
      change mIte rec X.env.scope c a b e = true at h
      unfold mIte at h
      split at h
      · cases hi
      · cases h
    | comp elt tg it cond =>
      exfalso
      change mComp Γ rec X.env.scope elt tg it cond e = true at h
      unfold mComp at h
      split at h
      · exact hp rfl
      · cases h
    | srtk a f => cases h
    | pop i ks es => cases h
theorem matE_sm {sc : Scope} {e : Expr} {m : Ex} (h : matE Γ rec sc e m = true) (hs : simp1 m = true) : mSimp Γ sc e m = true := by
  cases m <;> first | exact h | cases hs
theorem mat_sound : ∀ n X W, CxOk Γ X W → FnsOk Γ X Φ sg → Snd Γ X W Φ sg (mat Γ n)
  | 0, _, _, _, _ => ⟨fun _ _ h => (by cases h), fun _ _ h => (by cases h), fun _ _ h => (by cases h)⟩
  | n + 1, X, W, C, FO => ⟨fun e m h => matE_pe C FO (mat_sound n) h, fun e m h hs => matE_sm h hs, fun e m h hi => matE_pt C FO (mat_sound n) h hi⟩
end
end TV

set_option Elab.async false
set_option linter.all false
set_option maxRecDepth 100000
set_option maxHeartbeats 4000000
/-! TV27: statements, what they promise. -/
namespace TV
open PySem PySem.Spec PyProof.Rows L2

/-- the slots that aren't stored keep their values -/
def Keep (b : Nat → Bool) (σ σ' : Sg) : Prop := σ'.length = σ.length ∧ ∀ i, b i = false → σ'[i]? = σ[i]?
theorem Keep.refl {b : Nat → Bool} (σ : Sg) : Keep b σ σ := ⟨rfl, fun _ _ => rfl⟩
theorem Keep.trans {b : Nat → Bool} {σ σ1 σ2 : Sg} (h : Keep b σ σ1) (h' : Keep b σ1 σ2) : Keep b σ σ2 := ⟨h'.1.trans h.1, fun i e => (h'.2 i e).trans (h.2 i e)⟩
theorem Keep.mono {b b' : Nat → Bool} {σ σ1 : Sg} (h : Keep b σ σ1) (w : ∀ i, b' i = false → b i = false) : Keep b' σ σ1 := ⟨h.1, fun i e => h.2 i (w i e)⟩
theorem Keep.set {b : Nat → Bool} {σ : Sg} {i : Nat} {y : Option V} (h : b i = true) : Keep b σ (σ.set i y) := ⟨List.length_set, fun j e => List.getElem?_set_ne (fun q => by subst q; rw [h] at e; cases e)⟩
section
variable {K : PySem.W.Frag} {mg : Str → Option Value} {W : WX} {σ σ1 σ2 : Sg} {F F2 : Fb} {O O0 O1 O2 A A1 A2 : List Addr} {H H0 H1 H2 : Hp} {L L1 L2 : Slots} {α : Type} {b b1 : Nat → Bool}
theorem Mid.trans' (g : Grow H0 H1 O0 O1) (m' : Mid K H1 O1 H2 F σ L O A) : Mid K H0 O0 H2 F σ L O A := ⟨m'.st, m'.nd, m'.df, g.trans m'.gr⟩
/-- where x may have led, the stored slots anew -/
def AftS (K : PySem.W.Frag) (mg : Str → Option Value) (W : WX) (b : Nat → Bool) (σ : Sg) (F : Fb) (O : List Addr) (H : Hp) (x : Out α) (S : α → Slots → Sg → Hp → List Addr → List Addr → Prop) : Prop :=
  match x with
  | .stuck => False
  | .err c L' => ∀ σ' H' O' C, mg (Str.ofString c) = some (.ref C) → Keep b σ σ' → Mid K H O H' F σ' L' O' [] → W (.ref C) none σ' H'
  | .ok a L' => ∀ σ' H' O' A, Keep b σ σ' → Mid K H O H' F σ' L' O' A → S a L' σ' H' O' A
theorem AftS.mono {x : Out α} {S S' : α → Slots → Sg → Hp → List Addr → List Addr → Prop} (h : AftS K mg W b σ F O H x S)
    (k : ∀ a L' σ' H' O' A, x = .ok a L' → Keep b σ σ' → Mid K H O H' F σ' L' O' A → S a L' σ' H' O' A → S' a L' σ' H' O' A) : AftS K mg W b σ F O H x S' := by
  cases x with
  | stuck => exact h
  | err c L' => exact h
  | ok a L' => exact fun σ' H' O' A kp m => k a L' σ' H' O' A rfl kp m (h σ' H' O' A kp m)
/-- an expression first -/
theorem AftS.bindE {β : Type} {x : Out α} {k : α → Slots → Out β} {S : β → Slots → Sg → Hp → List Addr → List Addr → Prop} (h : AftS K mg W b σ F O H (x.bind k) S) :
    Aft K mg W σ F O H x fun a L1 _ _ _ => AftS K mg W b σ F O H (k a L1) S := by
  cases x with
  | stuck => exact h
  | err c L' => exact fun H' O' C e m => h σ H' O' C e (Keep.refl σ) m
  | ok a L1 => exact fun _ _ _ _ => h
/-- a statement first -/
theorem AftS.bindS {β : Type} {x : Out α} {k : α → Slots → Out β} {S : β → Slots → Sg → Hp → List Addr → List Addr → Prop} (w : ∀ i, b i = false → b1 i = false) (h : AftS K mg W b σ F O H (x.bind k) S) :
    AftS K mg W b1 σ F O H x fun a L1 _ _ _ _ => AftS K mg W b σ F O H (k a L1) S := by
  cases x with
  | stuck => exact h
  | err c L' => exact fun σ' H' O' C e kp m => h σ' H' O' C e (kp.mono w) m
  | ok a L1 => exact fun _ _ _ _ _ _ => h
theorem AftS.onO {β : Type} {x : Option α} {k : α → Out β} {S : β → Slots → Sg → Hp → List Addr → List Addr → Prop} (h : AftS K mg W b σ F O H (TV.onO x k) S) : ∃ a, x = some a ∧ AftS K mg W b σ F O H (k a) S := by
  cases x with
  | none => exact h.elim
  | some a => exact ⟨a, rfl, h⟩
/-- from a later point, F2 kept as well -/
theorem AftS.step {y : Out α} {S : α → Slots → Sg → Hp → List Addr → List Addr → Prop} (kp : Keep b σ σ1) (w : ∀ i, b i = false → b1 i = false) (g : Grow H H1 O O1) (f : ∀ a, F a → F2 a) (h : AftS K mg W b σ F O H y S) :
    AftS K mg W b1 σ1 F2 O1 H1 y fun a L' σ' H' O' A => S a L' σ' H' O' A := by
  have lift : ∀ {σ' : Sg} {L' : Slots} {H' : Hp} {O' A : List Addr}, Mid K H1 O1 H' F2 σ' L' O' A → Mid K H O H' F σ' L' O' A := fun m =>
    ⟨m.st.less fun a z => z.imp id (f a), m.nd, fun a ha z => m.df a ha (f a z), g.trans m.gr⟩
  cases y with
  | stuck => exact h
  | err c L' => exact fun σ' H' O' C e kp' m => h σ' H' O' C e (kp.trans (kp'.mono w)) (lift m)
  | ok a L' => exact fun σ' H' O' A kp' m => h σ' H' O' A (kp.trans (kp'.mono w)) (lift m)
/-- what is wanted behind -/
def endP (K : PySem.W.Frag) (F : Fb) (D : Ends) (f : Fl) (σ' : Sg) (H' : Hp) (O' A : List Addr) : Prop :=
  match f with
  | .nx => D.nx σ' H'
  | .bk => D.bk σ' H'
  | .ct => D.ct σ' H'
  | .rt t => ∀ v, isLkd t = false → RepO K H' (Zz O' A F) t v A → D.rt v H'
def tSt (K : PySem.W.Frag) (mg : Str → Option Value) (W : WX) (b : Nat → Bool) (e : Slots → Out Fl) : TS := fun D σ H =>
  ∃ F L O, StOk K H F σ L O ∧ AftS K mg W b σ F O H (e L) fun f _ σ' H' O' A => endP K F D f σ' H' O' A
theorem tSt_mk {e : Slots → Out Fl} {D : Ends} (st : StOk K H F σ L O) (h : AftS K mg W b σ F O H (e L) fun f _ σ' H' O' A => endP K F D f σ' H' O' A) : tSt K mg W b e D σ H := ⟨F, L, O, st, h⟩
/-- a value is stored into a slot -/
theorem Mid.store {t : T} {v : V} {i : Nat} (m : Mid K H0 O0 H F σ L O A) (r : RepO K H (Zz O A F) t v A) : ∃ O', Mid K H0 O0 H F (σ.set i (some v)) (L.set i (some t)) O' [] := by
  by_cases hi : i < L.length
  · obtain ⟨O', s, st⟩ := m.st.put (i := i) (t := t) (v := v) (F := F) hi r m.nd m.df
    exact ⟨O', by rw [Fa_nil]; exact st, .nil, (fun _ z => by cases z), m.gr.mono fun a ha => by
      rw [List.append_nil] at ha
      exact (s a ha).elim (List.mem_append_right _) (List.mem_append_left _)⟩
  · rw [List.set_eq_of_length_le (by omega : L.length ≤ i), List.set_eq_of_length_le (by rw [← m.st.length]; omega : σ.length ≤ i)]
    exact ⟨O, m.bare⟩
/-- a held list changes, what comes into it a temporary -/
theorem Mid.mutate {i : Nat} {xs : List T} (m : Mid K H0 O0 H F σ L O A) (e : slot L i = some (.lst true xs)) :
    ∃ a vs B Z, σ[i]? = some (some (.ref a)) ∧ H a = some (.lst vs) ∧ RepOs K H Z xs vs B ∧ (∀ b, Z b ↔ Zz O A F b) ∧ (B ++ A).Nodup ∧
      ∀ xs' vs' C, RepOs K H Z xs' vs' C → (∀ c ∈ C, c ∈ B ++ A) → C.Nodup → ∃ O', Mid K H0 O0 (upd H a (.lst vs')) F σ (L.set i (some (.lst true xs'))) O' [] := by
  have e' := slot_get e
  have hi : i < L.length := (List.getElem?_eq_some_iff.mp e').1
  obtain ⟨v, A0, O', h1, p, r, st, nd0, df0⟩ := m.st.take e'
  obtain ⟨a, vs, B, ev, eA, ha, rk⟩ := r
  subst ev eA
  have nd1 := List.nodup_cons.mp nd0
  have inO : ∀ b, b ∈ O ↔ b ∈ a :: B ∨ b ∈ O' := fun b => p.mem_iff.trans List.mem_append
  have zeq : ∀ b, Zz O' (a :: B) (Fa A F) b ↔ Zz O A F b := fun b => ⟨fun z => by
    rcases z with z | z | z | z
    · exact .inl ((inO b).mpr (.inr z))
    · exact .inl ((inO b).mpr (.inl z))
    · exact .inr (.inl z)
    · exact .inr (.inr z), fun z => by
    rcases z with z | z | z
    · exact ((inO b).mp z).elim (fun z => .inr (.inl z)) .inl
    · exact .inr (.inr (.inl z))
    · exact .inr (.inr (.inr z))⟩
  have dBA : ∀ b ∈ a :: B, b ∉ A := fun b hb z => df0 b hb (.inl z)
  refine ⟨a, vs, B, _, h1, ha, rk, zeq, ?_, fun xs' vs' C rC sC nC => ?_⟩
  · rw [List.nodup_append]
    exact ⟨nd1.2, m.nd, fun b hb c hc q => by subst q; exact dBA b (List.mem_cons_of_mem _ hb) hc⟩
  · have aC : a ∉ C := fun z => (List.mem_append.mp (sC a z)).elim nd1.1 (dBA a List.mem_cons_self)
    have dCF : ∀ b ∈ a :: C, ¬ F b := fun b hb z => by
      rcases List.mem_cons.mp hb with q | q
      · subst q; exact df0 b List.mem_cons_self (.inr z)
      · rcases List.mem_append.mp (sC b q) with q | q
        · exact df0 b (List.mem_cons_of_mem _ q) (.inr z)
        · exact m.df b q z
    have sub : ∀ b, Fa (a :: C) F b → Fa (a :: B) (Fa A F) b := fun b z => by
      rcases z with z | z
      · rcases List.mem_cons.mp z with q | q
        · subst q; exact .inl List.mem_cons_self
        · exact (List.mem_append.mp (sC b q)).elim (fun q => .inl (List.mem_cons_of_mem _ q)) fun q => .inr (.inl q)
      · exact .inr (.inr z)
    have st1 : StOk K (upd H a (.lst vs')) (Fa (a :: C) F) σ (L.set i none) O' := st.later (fun b o z q => by
        rw [upd_ne (fun q2 => z (by subst q2; exact .inl List.mem_cons_self))]; exact q) (fun b z => .inl (sub b z)) fun b z => by
        by_cases q : b = a
        · subst q; rw [upd_same]; exact fun e => nomatch e
        · rw [upd_ne q]; exact st.fth b (sub b z)
    have rep : RepO K (upd H a (.lst vs')) (Zz O' (a :: C) F) (.lst true xs') (.ref a) (a :: C) := by
      refine ⟨a, vs', C, rfl, rfl, upd_same, RepOs.later ⟨fun b o z q => ?_, fun b z => .inl ?_⟩ _ _ _ (fun b hb o q => ?_) rC⟩
      · rw [upd_ne (fun q2 => z (by subst q2; exact .inr (.inl List.mem_cons_self)))]; exact q
      · rcases z with z | z
        · exact .inl z
        · exact .inr (sub b z)
      · rw [upd_ne (fun q2 => aC (by subst q2; exact hb))]; exact q
    have nd2 : (a :: C).Nodup := List.nodup_cons.mpr ⟨aC, nC⟩
    obtain ⟨O2, s2, st2⟩ := st1.put (i := i) (by rw [List.length_set]; exact hi) rep nd2 dCF
    rw [List.set_set, set_self h1] at st2
    refine ⟨O2, by rw [Fa_nil]; exact st2, .nil, (fun _ z => by cases z), fun b o hb q => ?_, fun b hb => ?_, fun b o u q => by rw [upd_ne (fun q2 => by subst q2; have := m.gr.fz _ o u q; rw [ha] at this; cases this)]; exact m.gr.fz b o u q⟩
    · rw [upd_ne (fun q2 => ?_)]
      · exact m.gr.keep b o hb q
      · subst q2
        exact (m.gr.new b (List.mem_append_left _ ((inO b).mpr (.inl List.mem_cons_self)))).elim hb fun z => by rw [z] at q; cases q
    · rw [List.append_nil] at hb
      rcases s2 b hb with z | z
      · rcases List.mem_cons.mp z with q | q
        · subst q; exact m.gr.new b (List.mem_append_left _ ((inO b).mpr (.inl List.mem_cons_self)))
        · rcases List.mem_append.mp (sC b q) with q | q
          · exact m.gr.new b (List.mem_append_left _ ((inO b).mpr (.inl (List.mem_cons_of_mem _ q))))
          · exact m.gr.new b (List.mem_append_right _ q)
      · exact m.gr.new b (List.mem_append_left _ ((inO b).mpr (.inr z)))
/-- a held dict changes, what comes into it a temporary -/
theorem Mid.mutateD {i : Nat} {ks : List Key} {xs : List T} (m : Mid K H0 O0 H F σ L O A) (e : slot L i = some (.dic true ks xs)) :
    ∃ a vs B Z, σ[i]? = some (some (.ref a)) ∧ H a = some (.dK (ks.zip vs)) ∧ ks.length = vs.length ∧ RepOs K H Z xs vs B ∧ (∀ b, Z b ↔ Zz O A F b) ∧ (B ++ A).Nodup ∧
      ∀ (ks' : List Key) xs' vs' C, ks'.length = vs'.length → RepOs K H Z xs' vs' C → (∀ c ∈ C, c ∈ B ++ A) → C.Nodup → ∃ O', Mid K H0 O0 (upd H a (.dK (ks'.zip vs'))) F σ (L.set i (some (.dic true ks' xs'))) O' [] := by
  have e' := slot_get e
  have hi : i < L.length := (List.getElem?_eq_some_iff.mp e').1
  obtain ⟨v, A0, O', h1, p, r, st, nd0, df0⟩ := m.st.take e'
  obtain ⟨a, vs, B, ev, eA, ha, hl, rk⟩ := r
  subst ev eA
  have nd1 := List.nodup_cons.mp nd0
  have inO : ∀ b, b ∈ O ↔ b ∈ a :: B ∨ b ∈ O' := fun b => p.mem_iff.trans List.mem_append
  have zeq : ∀ b, Zz O' (a :: B) (Fa A F) b ↔ Zz O A F b := fun b => ⟨fun z => by
    rcases z with z | z | z | z
    · exact .inl ((inO b).mpr (.inr z))
    · exact .inl ((inO b).mpr (.inl z))
    · exact .inr (.inl z)
    · exact .inr (.inr z), fun z => by
    rcases z with z | z | z
    · exact ((inO b).mp z).elim (fun z => .inr (.inl z)) .inl
    · exact .inr (.inr (.inl z))
    · exact .inr (.inr (.inr z))⟩
  have dBA : ∀ b ∈ a :: B, b ∉ A := fun b hb z => df0 b hb (.inl z)
  refine ⟨a, vs, B, _, h1, ha, hl, rk, zeq, ?_, fun ks' xs' vs' C hl' rC sC nC => ?_⟩
  · rw [List.nodup_append]
    exact ⟨nd1.2, m.nd, fun b hb c hc q => by subst q; exact dBA b (List.mem_cons_of_mem _ hb) hc⟩
  · have aC : a ∉ C := fun z => (List.mem_append.mp (sC a z)).elim nd1.1 (dBA a List.mem_cons_self)
    have dCF : ∀ b ∈ a :: C, ¬ F b := fun b hb z => by
      rcases List.mem_cons.mp hb with q | q
      · subst q; exact df0 b List.mem_cons_self (.inr z)
      · rcases List.mem_append.mp (sC b q) with q | q
        · exact df0 b (List.mem_cons_of_mem _ q) (.inr z)
        · exact m.df b q z
    have sub : ∀ b, Fa (a :: C) F b → Fa (a :: B) (Fa A F) b := fun b z => by
      rcases z with z | z
      · rcases List.mem_cons.mp z with q | q
        · subst q; exact .inl List.mem_cons_self
        · exact (List.mem_append.mp (sC b q)).elim (fun q => .inl (List.mem_cons_of_mem _ q)) fun q => .inr (.inl q)
      · exact .inr (.inr z)
    have st1 : StOk K (upd H a (.dK (ks'.zip vs'))) (Fa (a :: C) F) σ (L.set i none) O' := st.later (fun b o z q => by
        rw [upd_ne (fun q2 => z (by subst q2; exact .inl List.mem_cons_self))]; exact q) (fun b z => .inl (sub b z)) fun b z => by
        by_cases q : b = a
        · subst q; rw [upd_same]; exact fun e => nomatch e
        · rw [upd_ne q]; exact st.fth b (sub b z)
    have rep : RepO K (upd H a (.dK (ks'.zip vs'))) (Zz O' (a :: C) F) (.dic true ks' xs') (.ref a) (a :: C) := by
      refine ⟨a, vs', C, rfl, rfl, upd_same, hl', RepOs.later ⟨fun b o z q => ?_, fun b z => .inl ?_⟩ _ _ _ (fun b hb o q => ?_) rC⟩
      · rw [upd_ne (fun q2 => z (by subst q2; exact .inr (.inl List.mem_cons_self)))]; exact q
      · rcases z with z | z
        · exact .inl z
        · exact .inr (sub b z)
      · rw [upd_ne (fun q2 => aC (by subst q2; exact hb))]; exact q
    have nd2 : (a :: C).Nodup := List.nodup_cons.mpr ⟨aC, nC⟩
    obtain ⟨O2, s2, st2⟩ := st1.put (i := i) (by rw [List.length_set]; exact hi) rep nd2 dCF
    rw [List.set_set, set_self h1] at st2
    refine ⟨O2, by rw [Fa_nil]; exact st2, .nil, (fun _ z => by cases z), fun b o hb q => ?_, fun b hb => ?_, fun b o u q => by rw [upd_ne (fun q2 => by subst q2; have := m.gr.fz _ o u q; rw [ha] at this; cases this)]; exact m.gr.fz b o u q⟩
    · rw [upd_ne (fun q2 => ?_)]
      · exact m.gr.keep b o hb q
      · subst q2
        exact (m.gr.new b (List.mem_append_left _ ((inO b).mpr (.inl List.mem_cons_self)))).elim hb fun z => by rw [z] at q; cases q
    · rw [List.append_nil] at hb
      rcases s2 b hb with z | z
      · rcases List.mem_cons.mp z with q | q
        · subst q; exact m.gr.new b (List.mem_append_left _ ((inO b).mpr (.inl List.mem_cons_self)))
        · rcases List.mem_append.mp (sC b q) with q | q
          · exact m.gr.new b (List.mem_append_left _ ((inO b).mpr (.inl (List.mem_cons_of_mem _ q))))
          · exact m.gr.new b (List.mem_append_right _ q)
      · exact m.gr.new b (List.mem_append_left _ ((inO b).mpr (.inr z)))
end
end TV

set_option Elab.async false
set_option linter.all false
set_option maxRecDepth 100000
set_option maxHeartbeats 4000000
/-! TV28: statements of the text. -/
namespace TV
open PySem PySem.Spec PyProof.Rows L2

structure CxS (Γ : Gm) (X : Cx) (W : WX) (Φ : Funs) (sg : String → List Bool) : Prop extends CxOk Γ X W, FnsOk Γ X Φ sg where
  fnT : ∀ x, X.fn x = true
  po : PassesOwn (model X.prog X.w) X.A X.env X.xe
  kd : X.env.scope.kind = .function
def locB (sc : Scope) (x : Str) : Bool := locOwn sc x
def notComp : Expr → Bool
  | .ListComp _ _ _ _ => false
  | .SetComp _ _ _ _ => false
  | .DictComp _ _ _ _ _ => false
  | _ => true
def mSet (Γ : Gm) (rec : Rc) (sc : Scope) (i : Nat) (m : Ex) (st : Stmt) : Bool :=
  match st with
  | .Assign [.Name x px] e _ => decide (Γ.N[i]? = some x) && locB sc x && (match e with
    | .ListComp elt [⟨target, iter, ifs, 0⟩] scope epos => if sc.names.lookup x = some .cell then rec sc e m else match m with
      | .comp mm tg it cond => decide (sc.names.lookup x = some .local) && (px.line == epos.line) && !(scope.names.any fun (n, k) => n == x && (k == .local || k == .cell)) && mCompB Γ rec sc mm tg it cond elt target iter ifs scope
      | _ => false
    | e => notComp e && rec sc e m)
  | _ => false
def mSub (Γ : Gm) (rec : Rc) (sc : Scope) (i : Nat) (k m : Ex) (st : Stmt) : Bool :=
  match st with
  | .Assign [.Subscript o j _] e _ => mVar Γ sc i o && plainIx j && rec sc j k && rec sc e m
  | _ => false
def mtName : Mt → Option (Str × String)
  | .append => some ("append", "list.append")
  | _ => none
def mMut (Γ : Gm) (rec : Rc) (sc : Scope) (i : Nat) (m : Mt) (es : Exs) (st : Stmt) : Bool :=
  match st with
  | .Expr (.Call (.Attribute o f apos) [a] [] cpos) _ => mVar Γ sc i o && notCall o && (match m with | .append => decide (f = ("append" : Str)) | _ => false) && (apos.endLine == cpos.line) && mats rec sc [a] es
  | _ => false
def mExp (rec : Rc) (sc : Scope) (m : Ex) (st : Stmt) : Bool :=
  match st with
  | .Expr e _ => notComp e && rec sc e m
  | _ => false
def mRet (rec : Rc) (sc : Scope) (m : Ex) (st : Stmt) : Bool :=
  match st with
  | .Return (some e) _ => match m with
    | .tup es => (match e with | .Tuple as _ _ => mats rec sc as es | _ => false)
    | .lst es => (match e with | .List as _ => mats rec sc as es | _ => false)
    | m => rec sc e m
  | _ => false

section
variable {Γ : Gm} {X : Cx} {W : WX} {Φ : Funs} {sg : String → List Bool} {rec : Rc} {N : Nat}
theorem locB_ok (hf : ∀ x, X.fn x = true) : LoOk X (locB X.env.scope) := fun x h => by
  unfold locB locOwn at h
  split at h
  · rename_i e; exact ⟨.inl e, .inr e⟩
  · rename_i e; exact ⟨.inr e, .inl (hf x)⟩
  · cases h
theorem sw_no {e : Expr} {t : Option Expr} {l : Nat} {env : Env} (h : notComp e = true) : swapsWith e t l env = pure false := by
  cases e <;> first | rfl | cases h
theorem sw_cell {elt : Expr} {gs : List Comprehension} {scope : Scope} {pos py : Pos} {y : Str} {l : Nat} {env : Env} (h : env.scope.names.lookup y = some .cell) : swapsWith (.ListComp elt gs scope pos) (some (.Name y py)) l env = pure false := by
  have ky : env.kindOf y = some .cell := h
  have kk : (NameKind.cell == NameKind.local) = false := by decide
  unfold swapsWith
  simp [ky, kk]
theorem sw_sub {e o j : Expr} {p : Pos} {l : Nat} {env : Env} : swapsWith e (some (.Subscript o j p)) l env = pure false := by
  cases e <;> rfl
section
variable {K : PySem.W.Frag} {mg : Str → Option Value} {σ : Sg} {F : Fb} {O O1 A : List Addr} {H H1 : Hp} {L L1 : Slots} {b : Nat → Bool}
theorem Mid.grow0 (m : Mid K H O H1 F σ L1 O1 A) : Grow H H1 O O1 := m.gr.mono fun a ha => List.mem_append_left _ ha
end
/-- name = value -/
theorem set_ps (C : CxS Γ X W Φ sg) (SA : ∀ X W, CxOk Γ X W → FnsOk Γ X Φ sg → Snd Γ X W Φ sg rec) {i : Nat} {m : Ex} {st : Stmt} (h : mSet Γ rec X.env.scope i m st = true) :
    PS X st (tSt X.K X.mg W (fun j => aS j (.set i m)) (exec Φ sg N (.set i m))) := by
  have S := SA X W C.toCxOk C.toFnsOk
  have fin : ∀ {te : TE} {st : Stmt}, PS X st (tAsg te (gName i)) → (∀ σ H Q, tD X.K X.mg W (ev Φ sg m) σ H Q → te σ H Q) → PS X st (tSt X.K X.mg W (fun j => aS j (.set i m)) (exec Φ sg N (.set i m))) := fun {te st} p w =>
    ⟨fun pins s σ H D I ⟨F, L, O, st, a⟩ => p.run pins s σ H D I (w σ H _ ⟨F, L, O, st, (AftS.bindE (x := ev Φ sg m L) a).mono fun t L1 H1 O1 A1 _ mid a v _ r => by
      obtain ⟨O', m'⟩ := mid.store (i := i) r
      exact a _ H1 O' [] (Keep.set (by show (i == i) = true; simp)) m'⟩)⟩
  unfold mSet at h
  split at h
  · rename_i x px e pos
    simp only [Bool.and_eq_true] at h
    obtain ⟨⟨h1, h2⟩, h3⟩ := h
    obtain ⟨l1, l2⟩ := locB_ok C.fnT x h2
    have hi : X.N[i]? = some x := by rw [C.hN]; exact of_decide_eq_true h1
    split at h3
    · rename_i elt target iter ifs scope epos
      split at h3
      · rename_i hc
        exact fin (ps_set C.nd hi l1 (S.pe _ _ h3) (sw_cell hc) l2) fun σ H Q q => q
      · split at h3
        · rename_i mm tg it cond
          simp only [Bool.and_eq_true] at h3
          have k := mCompB_sound C.toCxOk C.toFnsOk SA h3.2
          have hl : X.env.scope.names.lookup x = some .local := of_decide_eq_true h3.1.1.1
          refine fin (ps_setLc C.calm C.nd hi hl (sw_true C.kd hl h3.1.1.2 (by simpa using h3.1.2)) k.hi k.ok k.hg k.ht k.he k.hs) fun σ H Q q => ?_
          rw [k.eo]
          exact comp_to k.co k.nd q
        · cases h3
    · rw [Bool.and_eq_true] at h3
      exact fin (ps_set C.nd hi l1 (S.pe _ _ h3.2) (sw_no h3.1) l2) fun σ H Q q => q
  · cases h
theorem PSet.or {r r' : TSet} (h : PSet X r) (h' : PSet X r') : PSet X (fun o i v H Q => r o i v H Q ∨ r' o i v H Q) := fun pins s σ H o i v ov iv u Q I ro ri rv q =>
  q.elim (h pins s σ H o i v ov iv u Q I ro ri rv) (h' pins s σ H o i v ov iv u Q I ro ri rv)
theorem asg_sub {o i : Expr} {pos : Pos} {env : Env} (h : plainIx i = true) : ∀ v, assign (.Subscript o i pos) env v = (do
      let ov ← holding [v] (eval o env)
      let iv ← holding [v, ov] (eval i env)
      standAt pos
      holding [v, ov, iv] (setItem ov iv v)
      release [v, ov, iv] []) := by
  intro v
  cases i <;> first | rfl | cases h
theorem putK_cons {p : Key × V} {kvs : List (Key × V)} {k : Key} {w : V} (h : ¬ p.1 = k) : putK (p :: kvs) k w = p :: putK kvs k w := by
  unfold putK
  by_cases ha : (kvs.any fun kv => decide (kv.1 = k)) = true
  · rw [if_pos ha, if_pos (by rw [List.any_cons, ha, Bool.or_true]), List.map_cons, if_neg h]
  · rw [if_neg ha, if_neg (by rw [List.any_cons, decide_eq_false h, Bool.false_or]; exact ha)]; rfl
theorem putK_head {a : Key} {v w : V} : ∀ {ks : List Key} {vr : List V}, a ∉ ks → putK ((a, v) :: ks.zip vr) a w = (a, w) :: ks.zip vr := fun {ks vr} h => by
  unfold putK
  rw [if_pos (by simp), List.map_cons, if_pos rfl]
  congr 1
  have : ∀ p ∈ ks.zip vr, (if p.1 = a then (p.1, w) else p) = p := fun p hp => by
    rw [if_neg (fun e => h (by rw [← e]; exact (List.of_mem_zip hp).1))]
  exact (List.map_congr_left this).trans (List.map_id _)
theorem dput_rep {K : PySem.W.Frag} {H : Hp} {Z : Fb} {k : Key} {y : T} {w : V} {A1 : List Addr} (hk : isLkd y = false) (ry : RepO K H Z y w A1) : ∀ {ks : List Key} {xs : List T} {vs : List V} {B : List Addr}, ks.length = vs.length → ks.Nodup → RepOs K H Z xs vs B →
    ∃ ws C, (dput k y ks xs).1.zip ws = putK (ks.zip vs) k w ∧ (dput k y ks xs).1.length = ws.length ∧ RepOs K H Z (dput k y ks xs).2 ws C ∧ (∀ c ∈ C, c ∈ B ∨ c ∈ A1) ∧ ((B ++ A1).Nodup → C.Nodup)
  | [], xs, vs, B, hl, _, r => by
    have e : dput k y [] xs = ([k], [y]) := by cases xs <;> rfl
    rw [e]
    exact ⟨[w], A1, rfl, rfl, ⟨w, [], A1, [], rfl, by simp, hk, ry, rfl, rfl⟩, fun c hc => .inr hc, fun n => (List.nodup_append.mp n).2.1⟩
  | a :: ks, [], vs, B, hl, _, r => by
    have e : vs = [] := r.1
    subst e
    cases hl
  | a :: ks, x :: xs, _, _, hl, nd, ⟨v, vr, B1, B2, e1, e2, hx, r1, r2⟩ => by
    subst e1 e2
    rw [List.nodup_cons] at nd
    by_cases h : a = k
    · subst h
      have e : dput a y (a :: ks) (x :: xs) = (a :: ks, y :: xs) := by simp [dput]
      rw [e]
      refine ⟨w :: vr, A1 ++ B2, ?_, hl, ⟨w, vr, A1, B2, rfl, rfl, hk, ry, r2⟩, fun c hc => ?_, fun n => ?_⟩
      · rw [List.zip_cons_cons, List.zip_cons_cons, putK_head nd.1]
      · exact (List.mem_append.mp hc).elim .inr fun z => .inl (List.mem_append_right _ z)
      · simp only [List.nodup_append, List.mem_append] at n ⊢
        exact ⟨n.2.1, n.1.2.1, fun p hp q hq e => n.2.2 q (.inr hq) p hp e.symm⟩
    · obtain ⟨ws, C, p1, p2, p3, p4, p5⟩ := dput_rep hk ry (ks := ks) (Nat.succ.inj hl) nd.2 r2
      have e : dput k y (a :: ks) (x :: xs) = (a :: (dput k y ks xs).1, x :: (dput k y ks xs).2) := by simp [dput, h]
      rw [e]
      refine ⟨v :: ws, B1 ++ C, ?_, by show _ + 1 = _ + 1; rw [p2], ⟨v, ws, B1, C, rfl, rfl, hx, r1, p3⟩, fun c hc => ?_, fun n => ?_⟩
      · rw [List.zip_cons_cons, List.zip_cons_cons, putK_cons (p := (a, v)) h, p1]
      · exact (List.mem_append.mp hc).elim (fun z => .inl (List.mem_append_left _ z)) fun z => (p4 c z).imp (List.mem_append_right _) id
      · rw [List.append_assoc] at n
        have n1 := List.nodup_append.mp n
        rw [List.nodup_append]
        exact ⟨n1.1, p5 n1.2.1, fun p hp q hq e => n1.2.2 p hp q (List.mem_append.mpr (p4 q hq)) e⟩
/-- x[k] = value -/
theorem sub_ps (C : CxS Γ X W Φ sg) (S : Snd Γ X W Φ sg rec) {i : Nat} {k m : Ex} {st : Stmt} (h : mSub Γ rec X.env.scope i k m st = true) :
    PS X st (tSt X.K X.mg W (fun j => aS j (.sub i [] k m)) (exec Φ sg N (.sub i [] k m))) := by
  unfold mSub at h
  split at h
  · rename_i o j ip e pos
    simp only [Bool.and_eq_true] at h
    obtain ⟨⟨⟨h1, h2⟩, h3⟩, h4⟩ := h
    have hu := C.un
    have p := ps_asg (pos := pos) (S.pe _ _ h4) (pg_sub (pos := ip) (mVar_sound C.toCxOk h1) (S.pe _ _ h3) (PSet.or set_list (set_dict (by omega))) (asg_sub h2)) (show swapsWith e (some (.Subscript o j ip)) pos.line X.env = pure false from sw_sub) (by cases e <;> rfl) rfl
    refine ⟨fun pins s σ H D I ⟨F, L, O, st, a⟩ => p.run pins s σ H D I ?_⟩
    refine ⟨F, L, O, st, (AftS.bindE (x := ev Φ sg m L) a).mono fun tv L1 H1 O1 A1 _ mid1 a v hkv rv => ?_⟩
    obtain ⟨u, eu, a⟩ := AftS.onO a
    rw [if_pos (.inl rfl)] at a
    obtain ⟨w, hw, _⟩ := mid1.st.slotv eu
    refine ⟨w, hw, _, L1, O1, mid1.st, (Aft.step mid1 (AftS.bindE (x := ev Φ sg k L1) a)).mono fun tk L2 H2 O2 A2 _ mid2 a y hky ry => ?_⟩
    obtain ⟨t', et, a⟩ := AftS.onO a
    have mid := mid1.trans mid2
    have rv2 : RepO X.K H2 (Zz O2 (A1 ++ A2) F) tv v A1 := RepO.later (mid2.later mid1.st) tv v A1 (fun b hb o e => mid2.kept mid1.st b hb o e) rv
    cases q : slot L2 i with
    | none => rw [q] at et; cases et
    | some t0 =>
      rw [q] at et
      replace et : updT (subT tk tv) [] t0 = some t' := et
      replace et : subT tk tv t0 = some t' := by cases t0 <;> exact et
      cases t0 with
      | lst ow xs =>
        cases ow with
        | false => cases et
        | true =>
          cases tk with
          | int jj =>
            replace et : (ixN xs.length jj).map (fun n => T.lst true (xs.set n tv)) = some t' := et
            cases q2 : ixN xs.length jj with
            | none => rw [q2] at et; cases et
            | some n =>
              rw [q2] at et
              have et : T.lst true (xs.set n tv) = t' := Option.some.inj et
              subst et
              obtain ⟨c, vs, B, Z, hv, hc, rk, zeq, ndB, fin⟩ := mid.mutate q
              rw [hw] at hv; cases hv
              have hn : n < xs.length := by
                unfold ixN at q2
                split at q2
                · split at q2
                  · cases q2; omega
                  · cases q2
                · split at q2
                  · cases q2; omega
                  · cases q2
              obtain ⟨v0, B1, B2, B3, g1, g2, g3, g4, g5⟩ := rk.nth (n := n) (x := xs[n]) (by simp [hn])
              have rn := g5 tv v A1 hkv (rv2.later1 fun b z => (zeq b).mp z)
              obtain ⟨O', m'⟩ := fin _ _ _ rn (fun b hb => by
                rw [g2]
                simp only [List.mem_append] at hb ⊢
                rcases hb with z | z | z
                · exact .inl (.inl z)
                · exact .inr (.inl z)
                · exact .inl (.inr (.inr z))) (by
                rw [g2] at ndB
                have n1 := (List.nodup_append.mp ndB).1
                have nA : A1.Nodup := mid1.nd
                simp only [List.nodup_append, List.mem_append] at ndB n1 ⊢
                exact ⟨n1.1, ⟨nA, n1.2.1.2.1, fun a ha b hb e => ndB.2.2 b (.inr (.inr hb)) a (.inl ha) e.symm⟩, fun a ha b hb e => by
                  rcases hb with hb | hb
                  · exact ndB.2.2 a (.inl ha) b (.inl hb) e
                  · exact n1.2.2 a ha b (.inr hb) e⟩)
              have ey : y = .int jj := ry.1
              exact .inl ⟨c, vs, jj, n, rfl, ey, hc, by rw [← rk.length]; exact q2, a σ _ O' [] (Keep.refl σ) m'⟩
          | _ => cases et
      | dic ow ks xs =>
        cases ow with
        | false => cases et
        | true =>
          replace et : (keyOf tk).bind (fun k => if ks.length < LINE ∧ ks.Nodup then some (T.dic true (dput k tv ks xs).1 (dput k tv ks xs).2) else none) = some t' := et
          cases q2 : keyOf tk with
          | none => rw [q2] at et; cases et
          | some kk =>
            rw [q2] at et
            replace et : (if ks.length < LINE ∧ ks.Nodup then some (T.dic true (dput kk tv ks xs).1 (dput kk tv ks xs).2) else none) = some t' := et
            by_cases hl : ks.length < LINE ∧ ks.Nodup
            · rw [if_pos hl] at et
              have et : T.dic true (dput kk tv ks xs).1 (dput kk tv ks xs).2 = t' := Option.some.inj et
              subst et
              obtain ⟨c, vs, B, Z, hv, hc, hkl, rk, zeq, ndB, fin⟩ := mid.mutateD q
              rw [hw] at hv; cases hv
              obtain ⟨ws, C, p1, p2, p3, p4, p5⟩ := dput_rep (k := kk) hkv (rv2.later1 fun b z => (zeq b).mp z) hkl hl.2 rk
              obtain ⟨O', m'⟩ := fin _ _ _ C p2 p3 (fun b hb => by
                have := p4 b hb
                simp only [List.mem_append] at this ⊢
                exact this.imp id .inl) (p5 (by
                rw [← List.append_assoc] at ndB
                exact (List.nodup_append.mp ndB).1))
              refine .inr ⟨c, _, rfl, .inl ⟨_, kk, hc, key_rep (RepO_read ry) q2, ?_, rfl⟩, ?_⟩
              · rw [List.length_zip, ← hkl, Nat.min_self]; exact hl.1
              · rw [← p1]
                exact a σ _ O' [] (Keep.refl σ) m'
            · rw [if_neg hl] at et; cases et
      | _ => cases et
  · cases h
theorem mutT_app {t1 t' : T} {ts : List T} (e : mutT .append t1 ts = some t') : ∃ xs y, t1 = .lst true xs ∧ ts = [y] ∧ xs.length < LINE ∧ t' = .lst true (xs ++ [y]) := by
  cases t1 with
  | lst o xs =>
    cases o with
    | false => cases e
    | true =>
      cases ts with
      | nil => cases e
      | cons y ts =>
        cases ts with
        | cons _ _ => cases e
        | nil =>
          have e : (if xs.length < LINE then some (T.lst true (xs ++ [y])) else none) = some t' := e
          by_cases hl : xs.length < LINE
          · rw [if_pos hl] at e; exact ⟨xs, y, rfl, rfl, hl, (Option.some.inj e).symm⟩
          · rw [if_neg hl] at e; cases e
  | _ => cases e
/-- x.append(y) -/
theorem mut_ps (C : CxS Γ X W Φ sg) (S : Snd Γ X W Φ sg rec) {i : Nat} {m : Mt} {es : Exs} {st : Stmt} (h : mMut Γ rec X.env.scope i m es st = true) :
    PS X st (tSt X.K X.mg W (fun j => aS j (.mut i [] m es)) (exec Φ sg N (.mut i [] m es))) := by
  unfold mMut at h
  split at h
  · rename_i o f apos a0 cpos pos
    simp only [Bool.and_eq_true] at h
    obtain ⟨⟨⟨⟨h1, h2⟩, h3⟩, h4⟩, h5⟩ := h
    cases m <;> first | cases h3 | skip
    have ef := of_decide_eq_true h3
    subst ef
    have P := evs_sound C.toCxOk S h5
    have na : notStar a0 = true := P.1
    have p : PE X (.Call (.Attribute o "append" apos) [a0] [] cpos) (tBM X.K "list" rAppend (tVar i) (tVs X.K X.mg W (evs Φ sg es))) := pe_bm PySem.F.plainAttrs_list PySem.F.slot_list_append PySem.F.type_list_append mt_append (mVar_sound C.toCxOk h1) P.pa (notCall_ok h2) (by rw [star_cons na]; rfl) h4 (star_cons na) rfl
    refine ⟨fun pins s σ H D I ⟨F, L, O, st, a⟩ => (ps_expr p (sw_no rfl)).run pins s σ H D I ?_⟩
    replace a : AftS X.K X.mg W _ σ F O H (onL (slot L i) ((evs Φ sg es L).bind fun ts L1 => setO i ((slot L1 i).bind fun t => mutT .append t ts) L1)) _ := a
    cases q : slot L i with
    | none => rw [q] at a; exact a.elim
    | some t0 =>
      rw [q] at a
      cases t0 with
      | lst ow xs0 =>
        replace a : AftS X.K X.mg W _ σ F O H ((evs Φ sg es L).bind fun ts L1 => setO i ((slot L1 i).bind fun t => mutT .append t ts) L1) _ := a
        obtain ⟨w, hw, b0, vs0, eb, hb, _⟩ := st.slotv q
        subst eb
        refine ⟨_, hw, .inl ⟨rfl, vs0, .inl (.inl hb)⟩, F, L, O, st, (AftS.bindE (x := evs Φ sg es L) a).mono fun ts L1 H1 O1 A1 _ mid a vs r => ?_⟩
        obtain ⟨t', et, a⟩ := AftS.onO a
        cases q1 : slot L1 i with
        | none => rw [q1] at et; cases et
        | some t1 =>
          rw [q1] at et
          replace et : mutT .append t1 ts = some t' := et
          obtain ⟨xs, y, e5, e6, hl, e7⟩ := mutT_app et
          subst e5 e6 e7
          obtain ⟨y', vr, B1, B2, e1, e2, hk, r1, r2⟩ := r
          obtain ⟨e3, e4⟩ := r2
          subst e1 e2 e3 e4
          obtain ⟨c, vs1, B, Z, hv, hc, rk, zeq, ndB, fin⟩ := mid.mutate q1
          rw [hw] at hv; cases hv
          have rn : RepOs X.K H1 Z (xs ++ [y]) (vs1 ++ [y']) (B ++ (B1 ++ [])) := rk.append ⟨y', [], B1, [], rfl, rfl, hk, r1.later1 fun b z => (zeq b).mp z, rfl, rfl⟩
          obtain ⟨O', m'⟩ := fin _ _ _ rn (fun _ z => z) ndB
          exact ⟨_, vs1, y', rfl, rfl, hc, by rw [← rk.length]; exact hl, a σ _ O' [] (Keep.refl σ) m'⟩
      | _ => exact a.elim
  · cases h
/-- a value dropped -/
theorem exp_ps (S : Snd Γ X W Φ sg rec) {m : Ex} {st : Stmt} (h : mExp rec X.env.scope m st = true) : PS X st (tSt X.K X.mg W (fun j => aS j (.exp m)) (exec Φ sg N (.exp m))) := by
  unfold mExp at h
  split at h
  · rw [Bool.and_eq_true] at h
    exact ⟨fun pins s σ H D I ⟨F, L, O, st, a⟩ => (ps_expr (S.pe _ _ h.2) (sw_no h.1)).run pins s σ H D I ⟨F, L, O, st, (AftS.bindE (x := ev Φ sg m L) a).mono fun t L1 H1 O1 A1 _ mid a v _ r => a σ H1 O1 [] (Keep.refl σ) mid.bare⟩⟩
  · cases h
end
end TV

set_option Elab.async false
set_option linter.all false
set_option maxRecDepth 100000
set_option maxHeartbeats 4000000
/-! TV29: return, if, loops; suites. -/
namespace TV
open PySem PySem.Spec PyProof.Rows L2

section
variable {Γ : Gm} {X : Cx} {W : WX} {Φ : Funs} {sg : String → List Bool} {rec : Rc} {N : Nat}
theorem mv_sound (C : CxOk Γ X W) (S : Snd Γ X W Φ sg rec) {e : Expr} {m : Ex} (h : rec X.env.scope e m = true) : PE X e (tD X.K X.mg W (mv Φ sg m)) := by
  cases m with
  | var i =>
    have hv : mVar Γ X.env.scope i e = true := S.sm e (.var i) h rfl
    refine (mVar_sound C hv).to fun σ H Q ⟨F, L, O, st, a⟩ => ?_
    obtain ⟨t, e1, a⟩ := Aft.onO (x := slot L i) (k := fun t => if isLkd t then .stuck else if shr t then .ok t L else .ok t (L.set i none)) a
    by_cases hk : isLkd t = true
    · rw [if_pos hk] at a; exact a.elim
    · rw [if_neg hk] at a
      have hk' : isLkd t = false := by simpa using hk
      by_cases hs : shr t = true
      · rw [if_pos hs] at a
        obtain ⟨v, Ca, h1, h2, h3⟩ := st.at e1
        obtain ⟨eC, _, _⟩ := h3.nil (shr_own hs)
        subst eC
        exact ⟨v, h1, a H O [] (Mid.start st) v hk' (h3.later1 fun b z => z.imp id fun z => z.elim (fun q => by cases q) id)⟩
      · rw [if_neg hs] at a
        obtain ⟨v, A, O', h1, p, r, st', nd, df⟩ := st.take (slot_get e1)
        exact ⟨v, h1, a H O' A ⟨st', nd, df, (Grow.refl H O).mono fun b hb => by
          rcases List.mem_append.mp hb with z | z
          · exact p.mem_iff.mpr (List.mem_append_right _ z)
          · exact p.mem_iff.mpr (List.mem_append_left _ z)⟩ v hk' r⟩
  | _ => exact S.pe e _ h
theorem mvs_sound (C : CxOk Γ X W) (S : Snd Γ X W Φ sg rec) : ∀ {es : List Expr} {ms : Exs}, mats rec X.env.scope es ms = true → PEs X es (tVs X.K X.mg W (mvs Φ sg ms))
  | [], .nil, _ => fun σ H R ⟨F, L, O, st, a⟩ => a H O [] (Mid.start st) [] ⟨rfl, rfl⟩
  | [], .cons _ _, h => by cases h
  | _ :: _, .nil, h => by cases h
  | e :: es, .cons m ms, h => by
    have h : (rec X.env.scope e m && notStar e && mats rec X.env.scope es ms) = true := h
    rw [Bool.and_eq_true, Bool.and_eq_true] at h
    refine ⟨h.1.2, _, _, mv_sound C S h.1.1, mvs_sound C S h.2, fun σ H R ⟨F, L, O, st, a⟩ => ⟨F, L, O, st, ?_⟩⟩
    refine (Aft.bind2 (x := mv Φ sg m L) a).mono fun t L1 H1 O1 A1 _ mid a v hk r => ⟨_, L1, O1, mid.st, ?_⟩
    refine (Aft.step mid a).bind2.mono fun ts L2 H2 O2 A2 _ mid2 a vs rs => ?_
    refine a H2 O2 A2 mid2 (v :: vs) ⟨v, vs, A1, A2, rfl, rfl, hk, RepO.later (mid2.later mid.st) t v A1 (fun b hb o e => mid2.kept mid.st b hb o e) r, rs.later1 fun b z => ?_⟩
    rcases z with z | z | z
    · exact .inl z
    · exact (List.mem_append.mp z).elim (fun z => .inr (.inr (.inl z))) fun z => .inr (.inl z)
    · exact .inr (.inr (.inr z))
theorem ret_ps (C : CxOk Γ X W) (S : Snd Γ X W Φ sg rec) {m : Ex} {st : Stmt} (h : mRet rec X.env.scope m st = true) : PS X st (tSt X.K X.mg W (fun j => aS j (.ret m)) (exec Φ sg N (.ret m))) := by
  have fin : ∀ {e : Expr} {pos : Pos}, PE X e (tD X.K X.mg W (mvr Φ sg m)) → PS X (.Return (some e) pos) (tSt X.K X.mg W (fun j => aS j (.ret m)) (exec Φ sg N (.ret m))) := fun {e pos} p =>
    ⟨fun pins s σ H D I ⟨F, L, O, st, a⟩ => (ps_ret p).run pins s σ H D I ⟨F, L, O, st, (AftS.bindE (x := mvr Φ sg m L) a).mono fun t L1 H1 O1 A1 _ mid a v hk r => a σ H1 O1 A1 (Keep.refl σ) mid v hk r⟩⟩
  unfold mRet at h
  split at h
  · split at h
    · split at h
      · refine fin ((pe_tup (mvs_sound C S h).pa).to fun σ H Q ⟨F, L, O, st, a⟩ => ⟨F, L, O, st, (Aft.bind2 (x := mvs Φ sg _ L) a).mono fun ts L1 H1 O1 A1 _ mid a vs r => ?_⟩)
        unfold dspRun at a
        by_cases hl : ts.length ≤ LINE
        · rw [if_pos hl] at a
          refine ⟨by rw [← r.length]; exact hl, fun p hp => ?_⟩
          obtain ⟨m', r'⟩ := alloc_tup mid r (fun _ z => z) mid.nd hp
          exact a _ O1 _ m' _ rfl r'
        · rw [if_neg hl] at a; exact a.elim
      · cases h
    · split at h
      · refine fin ((pe_lst (mvs_sound C S h).pa).to fun σ H Q ⟨F, L, O, st, a⟩ => ⟨F, L, O, st, (Aft.bind2 (x := mvs Φ sg _ L) a).mono fun ts L1 H1 O1 A1 _ mid a vs r => ?_⟩)
        unfold dspRun at a
        by_cases hl : ts.length ≤ LINE
        · rw [if_pos hl] at a
          refine ⟨by rw [← r.length]; exact hl, fun p hp => ?_⟩
          obtain ⟨m', r'⟩ := alloc_lst mid r (fun _ z => z) mid.nd hp
          exact a _ O1 _ m' _ rfl r'
        · rw [if_neg hl] at a; exact a.elim
      · cases h
    · rename_i h1 h2
      refine fin ?_
      have p := mv_sound C S h
      cases m <;> first | exact p | exact absurd rfl (h1 _) | exact absurd rfl (h2 _)
  · cases h
theorem retn_ps {pos : Pos} : PS X (.Return none pos) (tSt X.K X.mg W (fun j => aS j .retn) (exec Φ sg N .retn)) :=
  ⟨fun pins s σ H D I ⟨F, L, O, st, a⟩ => ps_retN.run pins s σ H D I (a σ H O [] (Keep.refl σ) (Mid.start st) .non rfl ⟨rfl, rfl⟩)⟩
theorem pass_ps {pos : Pos} : PS X (.Pass pos) (tSt X.K X.mg W (fun j => aS j .pass) (exec Φ sg N .pass)) :=
  ⟨fun pins s σ H D I ⟨F, L, O, st, a⟩ => ps_pass.run pins s σ H D I (a σ H O [] (Keep.refl σ) (Mid.start st))⟩
theorem brk_ps {pos : Pos} : PS X (.Break pos) (tSt X.K X.mg W (fun j => aS j .brk) (exec Φ sg N .brk)) :=
  ⟨fun pins s σ H D I ⟨F, L, O, st, a⟩ => ps_break.run pins s σ H D I (a σ H O [] (Keep.refl σ) (Mid.start st))⟩
theorem cnt_ps {pos : Pos} : PS X (.Continue pos) (tSt X.K X.mg W (fun j => aS j .cnt) (exec Φ sg N .cnt)) :=
  ⟨fun pins s σ H D I ⟨F, L, O, st, a⟩ => ps_continue.run pins s σ H D I (a σ H O [] (Keep.refl σ) (Mid.start st))⟩
section
variable {K : PySem.W.Frag} {mg : Str → Option Value} {σ σ1 : Sg} {F F2 : Fb} {O O1 A : List Addr} {H H1 : Hp} {L L1 : Slots} {b b1 : Nat → Bool} {D : Ends}
/-- the rest of a statement, from here -/
theorem tSt_rest {e : Slots → Out Fl} (kp : Keep b σ σ1) (w : ∀ i, b i = false → b1 i = false) (m : Mid K H O H1 F σ1 L1 O1 A) (h : AftS K mg W b σ F O H (e L1) fun f _ σ' H' O' A => endP K F D f σ' H' O' A) : tSt K mg W b1 e D σ1 H1 :=
  ⟨F, L1, O1, m.bare.done, AftS.step kp w m.grow0 (fun _ z => z) h⟩
end
theorem iff_ps (S : Snd Γ X W Φ sg rec) {c : Ex} {a b : Sms} {ec : Expr} {ea eb : List Stmt} {pos : Pos} (h : rec X.env.scope ec c = true) (hi : isIf ec = false)
    (pa : PSs X ea (tSt X.K X.mg W (fun j => aSs j a) (execs Φ sg N a))) (pb : PSs X eb (tSt X.K X.mg W (fun j => aSs j b) (execs Φ sg N b))) :
    PS X (.If ec ea eb pos) (tSt X.K X.mg W (fun j => aS j (.iff c a b)) (exec Φ sg N (.iff c a b))) :=
  ⟨fun pins s σ H D I ⟨F, L, O, st, k⟩ => (ps_if (S.pt ec c h hi) pa pb).run pins s σ H D I ⟨F, L, O, st, (AftS.bindE (x := evb Φ sg c L) k).mono fun t L1 H1 O1 A1 _ mid k => by
    cases t with
    | true => exact tSt_rest (e := execs Φ sg N a) (Keep.refl σ) (fun i e => by
        have e : (aSs i a || aSs i b) = false := e
        simp only [Bool.or_eq_false_iff] at e
        exact e.1) mid k
    | false => exact tSt_rest (e := execs Φ sg N b) (Keep.refl σ) (fun i e => by
        have e : (aSs i a || aSs i b) = false := e
        simp only [Bool.or_eq_false_iff] at e
        exact e.2) mid k⟩⟩
theorem nil_pss : PSs X [] (tSt X.K X.mg W (fun j => aSs j .nil) (execs Φ sg N .nil)) :=
  ⟨fun pins s σ H D I ⟨F, L, O, st, a⟩ => pss_nil.run pins s σ H D I (a σ H O [] (Keep.refl σ) (Mid.start st))⟩
theorem cons_pss {a : Sm} {b : Sms} {st : Stmt} {rest : List Stmt} (pa : PS X st (tSt X.K X.mg W (fun j => aS j a) (exec Φ sg N a))) (pb : PSs X rest (tSt X.K X.mg W (fun j => aSs j b) (execs Φ sg N b))) :
    PSs X (st :: rest) (tSt X.K X.mg W (fun j => aSs j (.cons a b)) (execs Φ sg N (.cons a b))) :=
  ⟨fun pins s σ H D I ⟨F, L, O, st, k⟩ => (pss_cons pa pb).run pins s σ H D I ⟨F, L, O, st, (AftS.bindS (x := exec Φ sg N a L) (b1 := fun j => aS j a) (fun i e => by
      have e : (aS i a || aSs i b) = false := e
      simp only [Bool.or_eq_false_iff] at e
      exact e.1) k).mono fun f L1 σ1 H1 O1 A1 _ kp mid k => by
    have kp' : Keep (fun j => aSs j (.cons a b)) σ σ1 := kp.mono fun i e => by
      have e : (aS i a || aSs i b) = false := e
      simp only [Bool.or_eq_false_iff] at e
      exact e.1
    cases f with
    | nx => exact tSt_rest (e := execs Φ sg N b) kp' (fun i e => by
        have e : (aS i a || aSs i b) = false := e
        simp only [Bool.or_eq_false_iff] at e
        exact e.2) mid k
    | rt t => exact k σ1 H1 O1 A1 kp' mid
    | bk => exact k σ1 H1 O1 A1 kp' mid
    | ct => exact k σ1 H1 O1 A1 kp' mid⟩⟩
theorem whl_ps (C : CxS Γ X W Φ sg) (S : Snd Γ X W Φ sg rec) {c : Ex} {b : Sms} {ec : Expr} {eb : List Stmt} {pos : Pos} (h : rec X.env.scope ec c = true) (hi : isIf ec = false)
    (pb : PSs X eb (tSt X.K X.mg W (fun j => aSs j b) (execs Φ sg N b))) : PS X (.While ec eb [] pos) (tSt X.K X.mg W (fun j => aS j (.whl c b)) (exec Φ sg N (.whl c b))) := by
  refine ⟨fun pins s σ H D I q => (ps_while C.po (S.pt ec c h hi) pb).run pins s σ H D I ?_⟩
  -- n turns at most from here
  refine ⟨fun n σ1 H1 => tSt X.K X.mg W (fun j => aSs j b) (whlRun (evb Φ sg c) (execs Φ sg N b) n) D σ1 H1, ⟨N, q⟩, ?_⟩
  rintro n σ1 H1 ⟨F, L1, O1, st, k⟩
  cases n with
  | zero => exact k.elim
  | succ n =>
    refine ⟨F, L1, O1, st, (AftS.bindE (x := evb Φ sg c L1) k).mono fun t L2 H2 O2 A2 _ mid2 k => ?_⟩
    cases t with
    | false => exact k σ1 H2 O2 A2 (Keep.refl σ1) mid2
    | true =>
      refine ⟨fun σ' H' => tSt X.K X.mg W (fun j => aSs j b) (whlRun (evb Φ sg c) (execs Φ sg N b) n) D σ' H', fun σ' H' p => ⟨n, Nat.lt_succ_self n, p⟩, F, L2, O2, mid2.bare.done, ?_⟩
      have k := AftS.step (b1 := fun j => aSs j b) (Keep.refl σ1) (fun _ e => e) mid2.grow0 (fun _ z => z) k
      refine (AftS.bindS (x := execs Φ sg N b L2) (b1 := fun j => aSs j b) (fun _ e => e) k).mono fun f L3 σ3 H3 O3 A3 _ kp mid3 k => ?_
      cases f with
      | nx => exact tSt_rest (e := whlRun (evb Φ sg c) (execs Φ sg N b) n) kp (fun _ e => e) mid3 k
      | ct => exact tSt_rest (e := whlRun (evb Φ sg c) (execs Φ sg N b) n) kp (fun _ e => e) mid3 k
      | bk => exact k σ3 H3 O3 A3 kp mid3
      | rt t => exact k σ3 H3 O3 A3 kp mid3
theorem bind_assoc {α β γ : Type} (x : Out α) (f : α → Slots → Out β) (g : β → Slots → Out γ) : (x.bind f).bind g = x.bind fun a L => (f a L).bind g := by cases x <;> rfl
theorem mT_tgs {tg : Tg} {k : Nat} : mT k tg = (tgs tg).contains k := by
  cases tg with
  | one j => show (k == j) = List.contains [j] k; by_cases h : k = j <;> simp [h]
  | many js => rfl
theorem BackR.sig {K : PySem.W.Frag} {H : Hp} {Z : Fb} {σ σ' : Sg} {A : List Addr} {r : Option (Nat × T)} {tg : Tg} {b : Sms} (hb : backOk r tg b = true) (kp : Keep (fun j => mT j tg || aSs j b) σ σ') (h : BackR K H σ Z A r) : BackR K H σ' Z A r := by
  cases r with
  | none => trivial
  | some q =>
    obtain ⟨i, t⟩ := q
    obtain ⟨v, B, hv, sB, nB, rv⟩ := h
    have hb : (!mT i tg && !aSs i b) = true := hb
    simp only [Bool.and_eq_true, Bool.not_eq_true'] at hb
    exact ⟨v, B, (kp.2 i (by show (mT i tg || aSs i b) = false; rw [hb.1, hb.2]; rfl)).trans hv, sB, nB, rv⟩
/-- what holds at turn i of a loop -/
structure ForP (K : PySem.W.Frag) (mg : Str → Option Value) (W : WX) (bb : Nat → Bool) (run : List T → Slots → Out Fl) (ts : List T) (bk : Option (Nat × T)) (F : Fb) (A : List Addr) (σs : Sg) (Hs : Hp) (Os : List Addr) (D : Ends) (i : Nat) (σ1 : Sg) (H1 : Hp) : Prop where
  ex : ∃ Li Oi, StOk K H1 (Fa A F) σ1 Li Oi ∧ Grow Hs H1 Os Oi ∧ (∀ a o, a ∈ A → Hs a = some o → H1 a = some o) ∧ Keep bb σs σ1 ∧
    AftS K mg W bb σ1 F (Oi ++ A) H1 ((run (ts.drop i) Li).bind fun f L2 => endF bk f L2) fun f _ σ' H' O' A' => endP K F D f σ' H' O' A'
section
variable {K : PySem.W.Frag} {mg : Str → Option Value} {σ σ1 σs σ2 : Sg} {F : Fb} {O O1 A Os Oe O3 A3 : List Addr} {H H1 Hs H' H3 : Hp} {L L1 L3 : Slots} {D : Ends} {tg : Tg} {b : Sms} {bk : Option (Nat × T)}
/-- the loop is left: what was taken out goes back in -/
theorem for_out (hb : backOk bk tg b = true) (nA : A.Nodup) (dA : ∀ a ∈ A, ¬ F a) (back : BackR K Hs σs (Zz Os A F) A bk) (st : StOk K H3 (Fa A F) σ2 L3 O3) (g : Grow Hs H3 Os O3) (kA : ∀ a o, a ∈ A → Hs a = some o → H3 a = some o) (kp : Keep (fun j => mT j tg || aSs j b) σs σ2)
    (g2 : Grow H' H3 (Oe ++ A) O3) (kp2 : Keep (fun j => mT j tg || aSs j b) σ1 σ2)
    (k : AftS K mg W (fun j => mT j tg || aSs j b) σ1 F (Oe ++ A) H' (endF bk .nx L3) fun f _ σ' H' O' A' => endP K F D f σ' H' O' A') : D.nx σ2 H3 := by
  obtain ⟨L4, eb, k⟩ := AftS.onO k
  have m3 : Mid K H' (Oe ++ A) H3 F σ2 L3 O3 ([] ++ A) := ⟨st, nA, dA, g2.keep, fun a ha => by
    rcases List.mem_append.mp ha with z | z
    · exact g2.new a z
    · exact .inl (List.mem_append_right _ z), g2.fz⟩
  have back2 : BackR K H3 σ2 (Zz O3 ([] ++ A) F) A bk := (back.later ⟨fun a o z e => g.keep a o (fun y => z (.inl y)) e, fun a z => by
    rcases z with z | z
    · exact (g.new a z).imp .inl id
    · exact .inl (.inr z)⟩ fun a ha o e => kA a o ha e).sig hb kp
  obtain ⟨O4, _, m4⟩ := m3.put (fun a z => by cases z) .nil back2 eb
  exact k σ2 H3 O4 [] kp2 m4
end
theorem for_ps (C : CxS Γ X W Φ sg) (S : Snd Γ X W Φ sg rec) {tg : Tg} {it : Itr} {b : Sms} {et ei : Expr} {eb : List Stmt} {pos : Pos} (ht : mTg Γ (locB X.env.scope) tg et = true) (hi : mIt Γ rec X.env.scope it et ei = true) (hn : notSet ei = true)
    (pb : PSs X eb (tSt X.K X.mg W (fun j => aSs j b) (execs Φ sg N b))) : PS X (.For et ei eb [] pos) (tSt X.K X.mg W (fun j => aS j (.for_ tg it b)) (exec Φ sg N (.for_ tg it b))) := by
  refine ⟨fun pins s σ H D I ⟨F, L, O, st, k⟩ => (ps_for C.po C.calm (mIt_sound C.toCxOk S hi) (mTg_sound C.hN C.nd C.calm (locB_ok C.fnT) ht) pb (fun x => notSet_ok hn)).run pins s σ H D I ?_⟩
  refine ⟨F, L, O, st, (AftS.bindE (x := evi Φ sg it L) k).mono fun r Ls Hs Os A _ mid k J Gd itr gd back => ?_⟩
  by_cases hb : backOk r.2 tg b = true
  · rw [if_pos hb] at k
    have k := AftS.step (b1 := fun j => mT j tg || aSs j b) (Keep.refl σ) (fun _ e => e) mid.gr (fun _ z => z) k
    refine for_it (J := J) (n := r.1.length) (G := fun H => ∃ O, Gd H O) (Y := J.yld) ⟨fun i H hi ⟨O, g⟩ => itr.goes i H O hi g, fun H ⟨O, g⟩ => itr.stops H O g, fun _ _ _ _ _ _ y => y⟩
      (ForP X.K X.mg W (fun j => mT j tg || aSs j b) (forRun (entT tg) (execs Φ sg N b)) r.1 r.2 F A σ Hs Os D) ⟨Ls, Os, mid.st, Grow.refl Hs Os, fun _ _ _ e => e, Keep.refl σ, k⟩ (fun i σ1 H1 _ p => ?_) (fun i x σ1 H1 H' hlt p y => ?_) fun σ1 H1 p => ?_
    · obtain ⟨Li, Oi, _, g, _⟩ := p
      exact ⟨Oi, itr.grow _ _ _ _ g gd⟩
    · obtain ⟨Li, Oi, sti, g, kA, kp, k⟩ := p
      have et1 : r.1[i]? = some r.1[i] := List.getElem?_eq_getElem hlt
      generalize r.1[i] = t at et1
      have edrop : r.1.drop i = t :: r.1.drop (i + 1) := by
        rw [List.drop_eq_getElem_cons hlt]
        rw [List.getElem?_eq_getElem hlt] at et1
        rw [Option.some.inj et1]
      rw [edrop] at k
      obtain ⟨ext, rs, _⟩ := itr.yld i H1 Oi x H' t et1 (itr.grow _ _ _ _ g gd) (fun a z => z.elim (sti.there a) (sti.fth a)) y
      have sht : shr t = true := by
        have := itr.sh
        rw [shrs_all] at this
        exact List.all_eq_true.mp this t (List.mem_of_getElem? et1)
      replace k : AftS X.K X.mg W (fun j => mT j tg || aSs j b) σ1 F (Oi ++ A) H1 ((onO (entT tg t Li) fun L1 => (execs Φ sg N b L1).bind fun f L2 => loopF f (forRun (entT tg) (execs Φ sg N b) (r.1.drop (i + 1)) L2) L2).bind fun f L2 => endF r.2 f L2) _ := k
      cases ee : entT tg t Li with
      | none => rw [ee] at k; exact k.elim
      | some Le =>
        rw [ee] at k
        replace k : AftS X.K X.mg W (fun j => mT j tg || aSs j b) σ1 F (Oi ++ A) H1 (((execs Φ sg N b Le).bind fun f L2 => loopF f (forRun (entT tg) (execs Φ sg N b) (r.1.drop (i + 1)) L2) L2).bind fun f L2 => endF r.2 f L2) _ := k
        rw [bind_assoc] at k
        refine ent_sound (sti.ext ext) (rs.later1 fun a z => z) sht ee fun σ2 Oe sO ste hlen hk => ?_
        have kp2 : Keep (fun j => mT j tg || aSs j b) σ1 σ2 := ⟨hlen, fun j e => hk j (by
          have e : (mT j tg || aSs j b) = false := e
          simp only [Bool.or_eq_false_iff] at e
          rw [← mT_tgs]; exact e.1)⟩
        have gE : Grow H1 H' (Oi ++ A) (Oe ++ A) := ⟨fun a o _ e => ext a o e, fun a ha => .inl ((List.mem_append.mp ha).elim (fun z => List.mem_append_left _ (sO a z)) (List.mem_append_right _)), fun a o u e => ext a _ e⟩
        have k := AftS.step (b1 := fun j => mT j tg || aSs j b) kp2 (fun _ e => e) gE (fun _ z => z) k
        have kb := AftS.bindS (x := execs Φ sg N b Le) (b1 := fun j => aSs j b) (fun j e => by
          have e : (mT j tg || aSs j b) = false := e
          simp only [Bool.or_eq_false_iff] at e
          exact e.2) k
        refine ⟨Fa A F, Le, Oe, ste, (AftS.step (b1 := fun j => aSs j b) (F2 := Fa A F) (O1 := Oe) (Keep.refl σ2) (fun _ e => e) ⟨fun _ _ _ e => e, fun a ha => .inl (List.mem_append_left _ ha), fun _ _ _ e => e⟩ (fun _ z => .inr z) kb).mono fun f L3 σ3 H3 O3 A3 _ kp3 mid3 k => ?_⟩
        have kp3' : Keep (fun j => mT j tg || aSs j b) σ2 σ3 := kp3.mono fun j e => by
          have e : (mT j tg || aSs j b) = false := e
          simp only [Bool.or_eq_false_iff] at e
          exact e.2
        have g1e : Grow H1 H' Oi Oe := ⟨fun a o _ e => ext a o e, fun a ha => .inl (sO a ha), fun a o u e => ext a _ e⟩
        have g3 : Grow Hs H3 Os O3 := g.trans (g1e.trans mid3.grow0)
        have kA3 : ∀ a o, a ∈ A → Hs a = some o → H3 a = some o := fun a o ha e => mid3.gr.keep a o (fun z => ste.df a z (.inl ha)) (ext a o (kA a o ha e))
        have kpS : Keep (fun j => mT j tg || aSs j b) σ σ3 := kp.trans (kp2.trans kp3')
        have gO : Grow H' H3 (Oe ++ A) O3 := ⟨fun a o ha e => mid3.gr.keep a o (fun z => ha (List.mem_append_left _ z)) e, fun a ha => (mid3.gr.new a (List.mem_append_left _ ha)).imp (List.mem_append_left _) id, mid3.gr.fz⟩
        have next : AftS X.K X.mg W (fun j => mT j tg || aSs j b) σ2 F (Oe ++ A) H' ((forRun (entT tg) (execs Φ sg N b) (r.1.drop (i + 1)) L3).bind fun f L2 => endF r.2 f L2) (fun f _ σ' H' O' A' => endP X.K F D f σ' H' O' A') →
            ForP X.K X.mg W (fun j => mT j tg || aSs j b) (forRun (entT tg) (execs Φ sg N b)) r.1 r.2 F A σ Hs Os D (i + 1) σ3 H3 := fun k =>
          ⟨L3, O3, mid3.bare.done, g3, kA3, kpS, AftS.step (b1 := fun j => mT j tg || aSs j b) kp3' (fun _ e => e) ⟨gO.keep, fun a ha => (List.mem_append.mp ha).elim (gO.new a) fun z => .inl (List.mem_append_right _ z), gO.fz⟩ (fun _ z => z) k⟩
        cases f with
        | nx => exact next k
        | ct => exact next k
        | bk => exact for_out hb mid.nd mid.df back mid3.bare.done g3 kA3 kpS gO kp3' k
        | rt t =>
          intro v hkv rv
          refine k σ3 H3 O3 A3 kp3' ⟨mid3.st.less fun a z => z.imp id .inr, mid3.nd, fun a ha z => mid3.df a ha (.inr z), fun a o ha e => mid3.gr.keep a o (fun z => ha (List.mem_append_left _ z)) e, fun a ha => (mid3.gr.new a ha).imp (List.mem_append_left _) id, mid3.gr.fz⟩ v hkv (rv.later1 fun a z => ?_)
          rcases z with z | z | z
          · exact .inl z
          · exact .inr (.inl z)
          · exact .inr (.inr (.inr z))
    · obtain ⟨Li, Oi, sti, g, kA, kp, k⟩ := p
      rw [List.drop_length] at k
      exact for_out hb mid.nd mid.df back sti g kA kp ⟨fun _ _ _ e => e, fun a ha => .inl (List.mem_append_left _ ha), fun _ _ _ e => e⟩ (Keep.refl σ1) k
  · rw [if_neg hb] at k; exact k.elim
end
end TV

set_option Elab.async false
set_option linter.all false
set_option maxRecDepth 100000
set_option maxHeartbeats 4000000
/-! TV33: more statements: x += e, a, b = .. -/
namespace TV
open PySem PySem.Spec PyProof.Rows L2
/-! ### x += e -/
def mAug (Γ : Gm) (rec : Rc) (sc : Scope) (i : Nat) (o : Operator) (m : Ex) (st : Stmt) : Bool :=
  match st with
  | .AugAssign (.Name x _) p e _ => decide (Γ.N[i]? = some x) && locB sc x && decide (p = o) && (decide (o = .Add) || decide (o = .Sub)) && rec sc e m
  | _ => false
section
variable {K : PySem.W.Frag} {mg : Str → Option Value} {σ : Sg} {F G : Fb} {O O1 A : List Addr} {H H1 : Hp} {L L1 : Slots} {b : Nat → Bool} {W : WX}
theorem binS_int {o : Operator} (ho : o = .Add ∨ o = .Sub) {i : Int} {t r : T} (e : binS o (.int i) t = some r) : ∃ j, t = .int j ∧ r = .int (if o = .Add then i + j else i - j) := by
  rcases ho with rfl | rfl
  · cases t with
    | int j => cases e; exact ⟨j, rfl, rfl⟩
    | _ => cases e
  · cases t with
    | int j => cases e; exact ⟨j, rfl, rfl⟩
    | _ => cases e
/-- trees handed on into slots, held as they were -/
theorem putMany {Z : Fb} : ∀ {js : List Nat} {ts : List T} {vs : List V} {B : List Addr} {σ : Sg} {L : Slots} {O : List Addr}, StOk K H (Fa B G) σ L O → RepOs K H Z ts vs B → (∀ a, Zz O B G a → Z a) → B.Nodup → (∀ a ∈ B, ¬ G a) →
    js.length = ts.length → ∃ O2, (∀ a ∈ O2, a ∈ B ∨ a ∈ O) ∧ StOk K H G (setMany σ (js.zip vs)) (setManyT L (js.zip ts)) O2 ∧ ∀ k, js.contains k = false → (setMany σ (js.zip vs))[k]? = σ[k]?
  | [], [], vs, B, σ, L, O, st, r, w, nd, df, hl => by
    obtain ⟨e1, e2⟩ := r
    subst e1 e2
    exact ⟨O, fun a z => .inr z, by rw [Fa_nil] at st; exact st, fun _ _ => rfl⟩
  | [], _ :: _, _, _, _, _, _, _, _, _, _, _, hl => by cases hl
  | _ :: _, [], _, _, _, _, _, _, _, _, _, _, hl => by cases hl
  | i :: is, t :: ts, vs, B, σ, L, O, st, ⟨v, vr, A1, A2, e1, e2, hk, r1, r2⟩, w, nd, df, hl => by
    subst e1 e2
    rw [List.nodup_append] at nd
    rw [Fa_app] at st
    obtain ⟨O1, s1, st1⟩ : ∃ O1, (∀ a ∈ O1, a ∈ A1 ∨ a ∈ O) ∧ StOk K H (Fa A2 G) (σ.set i (some v)) (L.set i (some t)) O1 := by
      by_cases hi : i < L.length
      · exact st.put (i := i) (t := t) (v := v) hi (r1.later1 fun a z => w a (by
          rcases z with z | z | z | z
          · exact .inl z
          · exact .inr (.inl (List.mem_append_left _ z))
          · exact .inr (.inl (List.mem_append_right _ z))
          · exact .inr (.inr z))) nd.1 fun a ha z => z.elim (fun z => nd.2.2 a ha a z rfl) (df a (List.mem_append_left _ ha))
      · rw [List.set_eq_of_length_le (by omega : L.length ≤ i), List.set_eq_of_length_le (by rw [← st.length]; omega : σ.length ≤ i)]
        exact ⟨O, fun a z => .inr z, st.less fun a z => .inr z⟩
    obtain ⟨O2, s2, st2, k2⟩ := putMany (js := is) st1 r2 (fun a z => w a (by
      rcases z with z | z | z
      · exact (s1 a z).elim (fun z => .inr (.inl (List.mem_append_left _ z))) .inl
      · exact .inr (.inl (List.mem_append_right _ z))
      · exact .inr (.inr z))) nd.2.1 (fun a ha => df a (List.mem_append_right _ ha)) (Nat.succ.inj hl)
    refine ⟨O2, fun a ha => ?_, st2, fun k hk' => ?_⟩
    · rcases s2 a ha with z | z
      · exact .inl (List.mem_append_right _ z)
      · exact (s1 a z).imp (List.mem_append_left _) id
    · simp only [List.contains_cons, Bool.or_eq_false_iff] at hk'
      have := k2 k hk'.2
      rw [List.getElem?_set_ne (by intro e; subst e; simp at hk')] at this
      exact this
end
section
variable {Γ : Gm} {X : Cx} {W : WX} {Φ : Funs} {sg : String → List Bool} {rec : Rc} {N : Nat}
theorem aug_ps (C : CxS Γ X W Φ sg) (S : Snd Γ X W Φ sg rec) {i : Nat} {o : Operator} {m : Ex} {st : Stmt} (h : mAug Γ rec X.env.scope i o m st = true) :
    PS X st (tSt X.K X.mg W (fun j => aS j (.aug i o m)) (exec Φ sg N (.aug i o m))) := by
  unfold mAug at h
  split at h
  · rename_i x px p e pos
    simp only [Bool.and_eq_true, Bool.or_eq_true] at h
    obtain ⟨⟨⟨⟨h1, h2⟩, h3⟩, h4⟩, h5⟩ := h
    have e3 := of_decide_eq_true h3
    subst e3
    obtain ⟨l1, l2⟩ := locB_ok C.fnT x h2
    have hi : X.N[i]? = some x := by rw [C.hN]; exact of_decide_eq_true h1
    have ho : p = .Add ∨ p = .Sub := h4.imp of_decide_eq_true of_decide_eq_true
    have go : ∀ {f : Int → Int → Int}, PIp X p (ipI f) → (∀ i j, (if p = .Add then i + j else i - j) = f i j) → PS X (.AugAssign (.Name x px) p e pos) (tSt X.K X.mg W (fun j => aS j (.aug i p m)) (exec Φ sg N (.aug i p m))) := fun {f} ip hf => by
      refine ⟨fun pins s σ H D I ⟨F, L, O, st, a⟩ => (ps_aug C.nd hi l1 (S.pe _ _ h5) ip l2).run pins s σ H D I ?_⟩
      replace a : AftS X.K X.mg W _ σ F O H (augRun i p (slot L i) (ev Φ sg m) L) _ := a
      cases q : slot L i with
      | none => rw [q] at a; exact a.elim
      | some t0 =>
        rw [q] at a
        cases t0 with
        | int z =>
          replace a : AftS X.K X.mg W _ σ F O H ((ev Φ sg m L).bind fun t L1 => setO i (binS p (.int z) t) L1) _ := a
          obtain ⟨w, hw, rw'⟩ := st.slotv q
          have ew : w = V.int z := rw'
          subst ew
          refine ⟨_, hw, F, L, O, st, (AftS.bindE (x := ev Φ sg m L) a).mono fun t L1 H1 O1 A1 _ mid a v _ r => ?_⟩
          obtain ⟨t', et, a⟩ := AftS.onO a
          obtain ⟨j, e1, e2⟩ := binS_int ho et
          subst e1 e2
          have ev' : v = V.int j := r.1
          refine ⟨z, j, rfl, ev', ?_⟩
          rw [← hf]
          obtain ⟨O', m'⟩ := mid.bare.store (i := i) (t := .int (if p = .Add then z + j else z - j)) (v := .int (if p = .Add then z + j else z - j)) ⟨rfl, rfl⟩
          exact a _ H1 O' [] (Keep.set (by show (i == i) = true; simp)) m'
        | _ => exact a.elim
    rcases ho with ho | ho
    · subst ho; exact go ip_add fun i j => if_pos rfl
    · subst ho; exact go ip_sub fun i j => if_neg (by decide)
  · cases h
/-! ### a, b = .. -/
def notTup : Expr → Bool
  | .Tuple _ _ _ => false
  | _ => true
/-- a tuple on the right that is stored as a tuple: one of the names is shared with an inner scope -/
def celled (sc : Scope) : List Expr → Bool
  | [] => false
  | .Name x _ :: ts => !decide (sc.names.lookup x = some .local) || celled sc ts
  | _ :: ts => celled sc ts
def noSwap (sc : Scope) (ts : List Expr) (e : Expr) : Bool := notTup e || celled sc ts
theorem fm_le {α β : Type} (f : α → Option β) : ∀ l : List α, (l.filterMap f).length ≤ l.length := fun l => List.length_filterMap_le f l
theorem celled_fm {env : Env} {line : Nat} : ∀ {ts : List Expr}, celled env.scope ts = true → (ts.filterMap fun e => match e with | .Name id pos => if (env.kindOf id == some .local && pos.line == line) = true then some id else none | _ => none).length < ts.length
  | [], h => by cases h
  | t :: ts, h => by
    have le := fm_le (fun e : Expr => match e with | .Name id pos => if (env.kindOf id == some .local && pos.line == line) = true then some id else none | _ => none) ts
    rw [List.filterMap_cons]
    by_cases h2 : celled env.scope ts = true
    · have ih := celled_fm (line := line) h2
      split <;> simp only [List.length_cons] <;> omega
    · cases t with
      | Name x p =>
        have h : (!decide (env.scope.names.lookup x = some .local) || celled env.scope ts) = true := h
        rw [Bool.or_eq_true] at h
        rcases h with h | h
        · have hk : (env.kindOf x == some .local) = false := by
            have : ¬ env.scope.names.lookup x = some .local := by simpa using h
            exact beq_eq_false_iff_ne.mpr this
          simp only [hk, Bool.false_and, Bool.false_eq_true, if_false, List.length_cons]
          omega
        · exact absurd h h2
      | _ => exact absurd h h2
theorem noSwap_ok {env : Env} {ts : List Expr} {k0 : Nat} {tp : Pos} {e : Expr} (h : noSwap env.scope ts e = true) : swappedStores [.Tuple ts k0 tp] e env = pure none := by
  unfold noSwap at h
  rw [Bool.or_eq_true] at h
  rcases h with h | h
  · cases e <;> first | rfl | cases h
  · cases e with
    | Tuple vs k2 p2 =>
      unfold swappedStores
      simp only []
      split
      · rfl
      · split
        · rfl
        · have := celled_fm (line := ((ts.head?.map (·.pos.line)).getD 0)) h
          rw [if_pos]
          rw [Bool.or_eq_true]
          exact .inl (bne_iff_ne.mpr (Nat.ne_of_lt this))
    | _ => rfl
def mSetm (Γ : Gm) (rec : Rc) (sc : Scope) (js : List Nat) (m : Ex) (st : Stmt) : Bool :=
  match st with
  | .Assign [.Tuple ts _ _] e _ => mNms Γ (locB sc) js ts && noSwap sc ts e && rec sc e m
  | _ => false
theorem Mid.many {K : PySem.W.Frag} {H0 H : Hp} {F : Fb} {σ : Sg} {L : Slots} {O0 O A B : List Addr} {js : List Nat} {ts : List T} {vs : List V} (m : Mid K H0 O0 H F σ L O A) (r : RepOs K H (Zz O A F) ts vs B) (sB : ∀ a ∈ B, a ∈ A) (nB : B.Nodup) (hl : js.length = ts.length) :
    ∃ O', Mid K H0 O0 H F (setMany σ (js.zip vs)) (setManyT L (js.zip ts)) O' [] ∧ ∀ k, js.contains k = false → (setMany σ (js.zip vs))[k]? = σ[k]? := by
  have m' := m.drop sB nB
  have st : StOk K H (Fa B F) σ L O := m'.st
  obtain ⟨O', s, st', kp⟩ := putMany (Z := Zz O A F) (js := js) st r (fun a z => by
    rcases z with z | z | z
    · exact .inl z
    · exact .inr (.inl (sB a z))
    · exact .inr (.inr z)) nB (fun a ha => m'.df a ha) hl
  exact ⟨O', ⟨by rw [Fa_nil]; exact st', .nil, (fun _ z => by cases z), m'.gr.mono fun a ha => by
    rw [List.append_nil] at ha
    exact (s a ha).elim (List.mem_append_right _) (List.mem_append_left _)⟩, kp⟩
theorem setMany_len : ∀ {js : List Nat} {vs : List V} {σ : Sg}, (setMany σ (js.zip vs)).length = σ.length
  | [], _, _ => rfl
  | _ :: _, [], _ => rfl
  | j :: js, v :: vs, σ => by
    show (setMany (σ.set j (some v)) (js.zip vs)).length = _
    rw [setMany_len, List.length_set]
theorem setm_ps (C : CxS Γ X W Φ sg) (S : Snd Γ X W Φ sg rec) {js : List Nat} {m : Ex} {st : Stmt} (h : mSetm Γ rec X.env.scope js m st = true) :
    PS X st (tSt X.K X.mg W (fun j => aS j (.setm js m)) (exec Φ sg N (.setm js m))) := by
  unfold mSetm at h
  split at h
  · rename_i ts k0 tp e pos
    simp only [Bool.and_eq_true] at h
    obtain ⟨⟨h1, h2⟩, h3⟩ := h
    have g : PG X (.Tuple ts k0 tp) (gEnt X.K (.many js)) := mTg_sound (tg := .many js) C.hN C.nd C.calm (locB_ok C.fnT) h1
    have hs : swapsWithSole [.Tuple ts k0 tp] e pos.line X.env = pure false := by cases e <;> rfl
    have hw : swappedStores [.Tuple ts k0 tp] e X.env = pure none := noSwap_ok h2
    refine ⟨fun pins s σ H D I ⟨F, L, O, st, a⟩ => (ps_asg (S.pe _ _ h3) g hs hw).run pins s σ H D I ⟨F, L, O, st, (AftS.bindE (x := ev Φ sg m L) a).mono fun t L1 H1 O1 A1 _ mid a v _ r => ?_⟩⟩
    obtain ⟨L2, e2, a⟩ := AftS.onO a
    have fin : ∀ {xs : List T} {vs : List V} {p : Addr} {B : List Addr}, v = .ref p → (SqT X.K H1 p vs ∨ SqL X.K H1 p vs) → RepOs X.K H1 (Zz O1 A1 F) xs vs B → (∀ a ∈ B, a ∈ A1) → B.Nodup → (if xs.length = js.length then some (setManyT L1 (js.zip xs)) else none) = some L2 → gEnt X.K (.many js) v σ H1 D.nx :=
      fun {xs vs p B} ex hq rs sB nB e => by
        by_cases hl : xs.length = js.length
        · rw [if_pos hl] at e
          cases e
          obtain ⟨O', m', kp⟩ := mid.many rs sB nB hl.symm
          exact ⟨p, vs, ex, hq, by rw [← rs.length]; exact hl, a _ H1 O' [] ⟨setMany_len, fun i hi => kp i hi⟩ m'⟩
        · rw [if_neg hl] at e; cases e
    cases t with
    | tup o xs =>
      cases o with
      | true =>
        obtain ⟨p, vs, B, ex, eA, h1, rs⟩ := r
        have nd := mid.nd
        rw [eA] at nd
        exact fin ex (.inl (.inl (.inl h1))) rs (fun a ha => by rw [eA]; exact List.mem_cons_of_mem _ ha) (List.nodup_cons.mp nd).2 e2
      | false =>
        obtain ⟨⟨p, vs, ex, h1, n, rs⟩, eA, sh⟩ := r
        exact fin ex (.inl (.inl (.inl h1))) (RepSs.held rs (by simpa [shr] using sh)) (fun a ha => by cases ha) .nil e2
    | lst o xs =>
      cases o with
      | true =>
        obtain ⟨p, vs, B, ex, eA, h1, rs⟩ := r
        have nd := mid.nd
        rw [eA] at nd
        exact fin ex (.inr (.inl (.inl h1))) rs (fun a ha => by rw [eA]; exact List.mem_cons_of_mem _ ha) (List.nodup_cons.mp nd).2 e2
      | false =>
        obtain ⟨⟨p, vs, ex, h1, n, rs⟩, eA, sh⟩ := r
        exact fin ex (.inr (.inl (.inl h1))) (RepSs.held rs (by simpa [shr] using sh)) (fun a ha => by cases ha) .nil e2
    | _ => cases e2
  · cases h
def locOnly (sc : Scope) (x : Str) : Bool := decide (sc.names.lookup x = some .local)
def mPar (Γ : Gm) (rec : Rc) (sc : Scope) (js : List Nat) (es : Exs) (st : Stmt) : Bool :=
  match st with
  | .Assign [.Tuple [.Name x px, .Name y py] _ _] (.Tuple [a, b] _ _) _ => match js with
    | [i, j] => decide (Γ.N[i]? = some x) && decide (Γ.N[j]? = some y) && decide (i ≠ j) && locOnly sc x && locOnly sc y && (px.line == py.line) && decide (x ≠ y) && ![a, b].all (foldedForSure 8) && ![a, b].all (constantsAlone 8) && mats rec sc [a, b] es
    | _ => false
  | _ => false
theorem swapped2 {x y : Str} {px py pt : Pos} {kt k2 : Nat} {pt2 : Pos} {a b : Expr} {env : Env} (kd : env.scope.kind = .function) (hx : env.scope.names.lookup x = some .local) (hy : env.scope.names.lookup y = some .local)
    (hl : (px.line == py.line) = true) (hne : x ≠ y) (na : notStar a = true) (nb : notStar b = true) (h1 : [a, b].all (foldedForSure 8) = false) (h2 : [a, b].all (constantsAlone 8) = false) :
    swappedStores [.Tuple [.Name x px, .Name y py] kt pt] (.Tuple [a, b] k2 pt2) env = pure (some [x, y]) := by
  have kx : env.kindOf x = some .local := hx
  have ky : env.kindOf y = some .local := hy
  have bk : env.blockKind = .function := by unfold Env.blockKind; rw [kd]; rfl
  have hl2 : py.line = px.line := (beq_iff_eq.mp hl).symm
  have ed : ([x, y] : List Str).eraseDups.length = 2 := by
    simp [List.eraseDups_cons, hne.symm]
  unfold swappedStores
  simp only [List.length_cons, List.length_nil, bk]
  rw [if_neg (by decide), if_neg (by cases a <;> first | (cases na; done) | (cases b <;> first | (cases nb; done) | simp))]
  have nl : (some NameKind.local == some NameKind.local) = true := rfl
  have f1 : (Expr.Name x px).pos.line = px.line := rfl
  simp only [List.filterMap_cons, List.filterMap_nil, List.head?_cons, Option.map_some, Option.getD_some, kx, ky, hl2, nl, f1, beq_self_eq_true, Bool.and_self, if_true, ed, List.length_cons, List.length_nil, h1, h2]
  rfl
theorem par_ps (C : CxS Γ X W Φ sg) (S : Snd Γ X W Φ sg rec) {js : List Nat} {es : Exs} {st : Stmt} (h : mPar Γ rec X.env.scope js es st = true) :
    PS X st (tSt X.K X.mg W (fun j => aS j (.par js es)) (exec Φ sg N (.par js es))) := by
  unfold mPar at h
  split at h
  · rename_i x px y py kt pt a b k2 pt2 pos
    split at h
    · rename_i i j
      simp only [Bool.and_eq_true, Bool.not_eq_true'] at h
      obtain ⟨⟨⟨⟨⟨⟨⟨⟨⟨h1, h2⟩, h3⟩, h4⟩, h5⟩, h6⟩, h7⟩, h8⟩, h9⟩, h10⟩ := h
      have hi : X.N[i]? = some x := by rw [C.hN]; exact of_decide_eq_true h1
      have hj : X.N[j]? = some y := by rw [C.hN]; exact of_decide_eq_true h2
      have lx : X.env.scope.names.lookup x = some .local := of_decide_eq_true h4
      have ly : X.env.scope.names.lookup y = some .local := of_decide_eq_true h5
      have P := evs_sound C.toCxOk S h10
      have na : notStar a = true := P.1
      have nb : notStar b = true := by obtain ⟨_, _, _, _, h2, _⟩ := P; exact h2.1
      refine ⟨fun pins s σ H D I ⟨F, L, O, st, a'⟩ => (ps_par C.calm C.nd hi hj (of_decide_eq_true h3) lx ly P.pa (swapped2 C.kd lx ly h6 (of_decide_eq_true h7) na nb h8 h9)).run pins s σ H D I ⟨F, L, O, st, (AftS.bindE (x := evs Φ sg es L) a').mono fun ts L1 H1 O1 A1 _ mid a vs r => ?_⟩⟩
      obtain ⟨L2, e2, a⟩ := AftS.onO a
      have e2 : (if ts.length = [i, j].length then some (setManyT L1 ([i, j].zip ts)) else none) = some L2 := e2
      by_cases hl : ts.length = [i, j].length
      · rw [if_pos hl] at e2
        cases e2
        match ts, hl, r with
        | [t, u], _, r =>
          obtain ⟨O', m', kp⟩ := mid.many (js := [i, j]) r (fun _ z => z) mid.nd rfl
          obtain ⟨v, vr, B1, B2, ev, eA, hk, r1, v2, vr2, B3, B4, ev2, eA2, hk2, r2, ev3, _⟩ := r
          subst ev ev2 ev3
          exact ⟨v, v2, rfl, a _ H1 O' [] ⟨by simp, fun k hk => kp k hk⟩ m'⟩
      · rw [if_neg hl] at e2; cases e2
    · cases h
  · cases h
end
end TV

set_option Elab.async false
set_option linter.all false
set_option maxRecDepth 100000
set_option maxHeartbeats 4000000
/-! TV34: deeds on a held list: extend, insert, reverse, clear. -/
namespace TV
open PySem PySem.Spec PyProof.Rows L2
def rM : Mt → V → List V → Hp → VK → Prop
  | .append => rAppend
  | .extend => rExtend
  | .insert => fun x vs H Q => ∃ (l : Addr) (xs : List V) (i : Int) (y : V), x = .ref l ∧ vs = [.int i, y] ∧ H l = some (.lst xs) ∧ xs.length < sizeLine ∧ 0 ≤ i ∧ i < 2 ^ 63 ∧ Q .non (upd H l (.lst (xs.take i.toNat ++ [y] ++ xs.drop i.toNat)))
  | .reverse => rReverse
  | .clear => rClear
  | _ => fun _ _ _ _ => False
def mtId : Mt → Option (Str × String)
  | .append => some ("append", "list.append")
  | .extend => some ("extend", "list.extend")
  | .insert => some ("insert", "list.insert")
  | .reverse => some ("reverse", "list.reverse")
  | .clear => some ("clear", "list.clear")
  | _ => none
section
variable {X : Cx}
theorem mtAll {m : Mt} {f : Str} {id : String} (h : mtId m = some (f, id)) : MtR X id (rM m) ∧ Slot "list" f id ∧ typeOf (.builtin id) = pure (.type "method_descriptor") := by
  cases m <;> cases h
  · exact ⟨mt_append, PySem.F.slot_list_append, PySem.F.type_list_append⟩
  · exact ⟨mt_extend, PySem.F.slot_list_extend, PySem.F.type_list_extend⟩
  · exact ⟨mt_insert, PySem.F.slot_list_insert, PySem.F.type_list_insert⟩
  · exact ⟨mt_reverse, PySem.F.slot_list_reverse, PySem.F.type_list_reverse⟩
  · exact ⟨mt_clear, PySem.F.slot_list_clear, PySem.F.type_list_clear⟩
end
section
variable {K : PySem.W.Frag} {H H0 : Hp} {Z F : Fb} {σ : Sg} {L : Slots} {O O0 A : List Addr}
theorem RepOs.rev : ∀ {xs : List T} {vs : List V} {B : List Addr}, RepOs K H Z xs vs B → ∃ C, C.Perm B ∧ RepOs K H Z xs.reverse vs.reverse C
  | [], _, _, h => by
    obtain ⟨e1, e2⟩ := h
    subst e1 e2
    exact ⟨[], .refl _, rfl, rfl⟩
  | t :: ts, _, _, ⟨v, vr, A1, A2, e1, e2, hk, h1, h2⟩ => by
    subst e1 e2
    obtain ⟨C, p, r⟩ := RepOs.rev h2
    rw [List.reverse_cons, List.reverse_cons]
    refine ⟨C ++ (A1 ++ []), ?_, r.append ⟨v, [], A1, [], rfl, rfl, hk, h1, rfl, rfl⟩⟩
    rw [List.append_nil]
    exact (p.append_right A1).trans List.perm_append_comm
theorem RepOs.split : ∀ {xs : List T} {vs : List V} {B : List Addr} (n : Nat), RepOs K H Z xs vs B → ∃ B1 B2, B = B1 ++ B2 ∧ RepOs K H Z (xs.take n) (vs.take n) B1 ∧ RepOs K H Z (xs.drop n) (vs.drop n) B2
  | xs, vs, B, 0, h => ⟨[], B, rfl, ⟨rfl, rfl⟩, h⟩
  | [], _, _, n + 1, h => by
    obtain ⟨e1, e2⟩ := h
    subst e1 e2
    exact ⟨[], [], rfl, ⟨rfl, rfl⟩, rfl, rfl⟩
  | t :: ts, _, _, n + 1, ⟨v, vr, A1, A2, e1, e2, hk, h1, h2⟩ => by
    subst e1 e2
    obtain ⟨B1, B2, e, r1, r2⟩ := RepOs.split n h2
    exact ⟨A1 ++ B1, B2, by rw [e, List.append_assoc], ⟨v, _, A1, B1, rfl, rfl, hk, h1, r1⟩, r2⟩
theorem mut_step {m : Mt} {ts : List T} {vs : List V} {i : Nat} {xs : List T} {t' : T} {c : Addr} {Q : VK} (mid : Mid K H0 O0 H F σ L O A) (r : RepOs K H (Zz O A F) ts vs A) (q : slot L i = some (.lst true xs)) (e : mutT m (.lst true xs) ts = some t')
    (hc : σ[i]? = some (some (.ref c))) (k : ∀ H' O', Mid K H0 O0 H' F σ (L.set i (some t')) O' [] → Q .non H') : rM m (.ref c) vs H Q := by
  obtain ⟨c', vs1, B, Z, hv, hh, rk, zeq, ndB, fin⟩ := mid.mutate q
  rw [hc] at hv; cases hv
  have nB : B.Nodup := (List.nodup_append.mp ndB).1
  cases m with
  | append =>
    match ts, r, e with
    | [y], ⟨y', vr, B1, B2, e1, e2, hk, r1, r2⟩, e =>
      obtain ⟨e3, e4⟩ := r2
      subst e1 e2 e3 e4
      have e : (if xs.length < LINE then some (T.lst true (xs ++ [y])) else none) = some t' := e
      by_cases hl : xs.length < LINE
      · rw [if_pos hl] at e
        cases e
        have rn : RepOs K H Z (xs ++ [y]) (vs1 ++ [y']) (B ++ (B1 ++ [])) := rk.append ⟨y', [], B1, [], rfl, rfl, hk, r1.later1 fun b z => (zeq b).mp z, rfl, rfl⟩
        obtain ⟨O', m'⟩ := fin _ _ _ rn (fun _ z => z) ndB
        exact ⟨_, vs1, y', rfl, rfl, hh, by rw [← rk.length]; exact hl, k _ O' m'⟩
      · rw [if_neg hl] at e; cases e
    | [], _, e => cases e
    | _ :: _ :: _, _, e => cases e
  | extend =>
    match ts, r, e with
    | [.lst o ys], ⟨y', vr, B1, B2, e1, e2, hk, r1, r2⟩, e =>
      obtain ⟨e3, e4⟩ := r2
      subst e1 e2 e3 e4
      have e : (if xs.length + ys.length ≤ LINE then some (T.lst true (xs ++ ys)) else none) = some t' := e
      by_cases hl : xs.length + ys.length ≤ LINE
      · rw [if_pos hl] at e
        cases e
        cases o with
        | true =>
          obtain ⟨b, ws, B', eb, eB, hb, rb⟩ := r1
          subst eb eB
          have rn := rk.append (rb.later1 fun b z => (zeq b).mp z)
          have nd2 : (B ++ B').Nodup := ndB.sublist (List.Sublist.append (List.Sublist.refl B) (by rw [List.append_nil]; exact List.sublist_cons_self b B'))
          obtain ⟨O', m'⟩ := fin _ _ _ rn (fun c z => (List.mem_append.mp z).elim (List.mem_append_left _) fun z => List.mem_append_right _ (by rw [List.append_nil]; exact List.mem_cons_of_mem _ z)) nd2
          exact ⟨_, b, vs1, ws, rfl, rfl, hh, hb, by rw [← rk.length, ← rb.length]; exact hl, k _ O' m'⟩
        | false =>
          obtain ⟨⟨b, ws, eb, hb, n, rb⟩, eB, sh⟩ := r1
          subst eb eB
          have rn := rk.append ((RepSs.held rb (by simpa [shr] using sh)).later1 fun b z => (zeq b).mp z)
          rw [List.append_nil] at rn
          obtain ⟨O', m'⟩ := fin _ _ _ rn (fun c z => List.mem_append_left _ z) nB
          exact ⟨_, b, vs1, ws, rfl, rfl, hh, hb, by rw [← rk.length, ← rb.length]; exact hl, k _ O' m'⟩
      · rw [if_neg hl] at e; cases e
    | [], _, e => cases e
    | x :: _ :: _, _, e => cases x <;> cases e
    | [.non], _, e => cases e
    | [.bl _], _, e => cases e
    | [.int _], _, e => cases e
    | [.str _], _, e => cases e
    | [.tup _ _], _, e => cases e
    | [.dic _ _ _], _, e => cases e
    | [.dit _ _ _], _, e => cases e
    | [.lkd _ _], _, e => cases e
    | [.scr _], _, e => cases e
  | insert =>
    match ts, r, e with
    | [.int j, y], ⟨j', vr, B1, B2, e1, e2, hk, r1, y', vr2, B3, B4, e3, e4, hk2, r3, e5, e6⟩, e =>
      subst e1 e2 e3 e4 e5 e6
      have ej : j' = V.int j := r1.1
      have eB1 : B1 = [] := r1.2
      subst ej eB1
      have e : (if xs.length < LINE ∧ 0 ≤ j ∧ j < 9223372036854775808 then some (T.lst true (xs.take j.toNat ++ [y] ++ xs.drop j.toNat)) else none) = some t' := e
      by_cases hl : xs.length < LINE ∧ 0 ≤ j ∧ j < 9223372036854775808
      · rw [if_pos hl] at e
        cases e
        obtain ⟨C1, C2, eC, s1, s2⟩ := rk.split j.toNat
        subst eC
        have one : RepOs K H Z [y] [y'] (B3 ++ []) := ⟨y', [], B3, [], rfl, rfl, hk2, r3.later1 fun b z => (zeq b).mp z, rfl, rfl⟩
        have rn : RepOs K H Z (xs.take j.toNat ++ [y] ++ xs.drop j.toNat) (vs1.take j.toNat ++ [y'] ++ vs1.drop j.toNat) (C1 ++ (B3 ++ []) ++ C2) := (s1.append one).append s2
        have pm : (C1 ++ (B3 ++ []) ++ C2).Perm ((C1 ++ C2) ++ (B3 ++ [])) := by
          simp only [List.append_nil, List.append_assoc]
          exact List.Perm.append_left C1 List.perm_append_comm
        obtain ⟨O', m'⟩ := fin _ _ _ rn (fun c z => pm.mem_iff.mp z) (pm.nodup_iff.mpr ndB)
        exact ⟨_, vs1, j, y', rfl, rfl, hh, by rw [← rk.length]; exact hl.1, hl.2.1, hl.2.2, k _ O' m'⟩
      · rw [if_neg hl] at e; cases e
    | [], _, e => cases e
    | [x], _, e => cases x <;> cases e
    | .non :: _ :: _, _, e => cases e
    | .bl _ :: _ :: _, _, e => cases e
    | .str _ :: _ :: _, _, e => cases e
    | .lst _ _ :: _ :: _, _, e => cases e
    | .tup _ _ :: _ :: _, _, e => cases e
    | .dic _ _ _ :: _ :: _, _, e => cases e
    | .dit _ _ _ :: _ :: _, _, e => cases e
    | .lkd _ _ :: _ :: _, _, e => cases e
    | .scr _ :: _ :: _, _, e => cases e
    | .int _ :: _ :: _ :: _, _, e => cases e
  | reverse =>
    match ts, r, e with
    | [], ⟨e1, e2⟩, e =>
      subst e1 e2
      cases e
      obtain ⟨C, p, rn⟩ := rk.rev
      obtain ⟨O', m'⟩ := fin _ _ _ rn (fun c z => List.mem_append_left _ (p.mem_iff.mp z)) (p.nodup_iff.mpr nB)
      exact ⟨_, vs1, rfl, rfl, hh, k _ O' m'⟩
    | _ :: _, _, e => cases e
  | clear =>
    match ts, r, e with
    | [], ⟨e1, e2⟩, e =>
      subst e1 e2
      cases e
      obtain ⟨O', m'⟩ := fin [] [] [] ⟨rfl, rfl⟩ (fun c z => by cases z) .nil
      exact ⟨_, vs1, rfl, rfl, hh, k _ O' m'⟩
    | _ :: _, _, e => cases e
  | _ => cases ts <;> cases e
end
def mMutS (Γ : Gm) (rec : Rc) (sc : Scope) (i : Nat) (m : Mt) (es : Exs) (st : Stmt) : Bool :=
  match st with
  | .Expr (.Call (.Attribute o f apos) as [] cpos) _ => mVar Γ sc i o && notCall o && (match mtId m with | some (g, _) => decide (f = g) | none => false) && (apos.endLine == cpos.line) && decide (as.length < 4) && mats rec sc as es
  | _ => false
section
variable {Γ : Gm} {X : Cx} {W : WX} {Φ : Funs} {sg : String → List Bool} {rec : Rc} {N : Nat}
theorem few_ok {as : List Expr} {es : Exs} {t : TA} {cpos : Pos} (P : PEs X as t) (h : as.length < 4) : ((backTo cpos (starEach as X.env)).all (fun x => !x.1) && (backToKw cpos (keywordEach [] X.env)).all (fun x => x.1.isSome) && decide (as.length + ([] : List Keyword).length + (if ([] : List Keyword).isEmpty then 0 else 1) < 30)) = true := by
  have h1 : (backTo cpos (starEach as X.env)).all (fun x => !x.1) = true := by
    have := P.star (pos := cpos) (env := X.env)
    rw [List.any_eq_false] at this
    rw [List.all_eq_true]
    intro x hx
    have := this x hx
    simpa using this
  rw [h1]
  simp only [List.length_nil, List.isEmpty_nil, if_true, Bool.true_and, Bool.and_eq_true, decide_eq_true_eq]
  exact ⟨rfl, by omega⟩
theorem mutS_ps (C : CxS Γ X W Φ sg) (S : Snd Γ X W Φ sg rec) {i : Nat} {m : Mt} {es : Exs} {st : Stmt} (h : mMutS Γ rec X.env.scope i m es st = true) :
    PS X st (tSt X.K X.mg W (fun j => aS j (.mut i [] m es)) (exec Φ sg N (.mut i [] m es))) := by
  unfold mMutS at h
  split at h
  · rename_i o f apos as cpos pos
    simp only [Bool.and_eq_true] at h
    obtain ⟨⟨⟨⟨⟨h1, h2⟩, h3⟩, h4⟩, h5⟩, h6⟩ := h
    cases hm : mtId m with
    | none => rw [hm] at h3; cases h3
    | some p =>
      obtain ⟨g, id⟩ := p
      rw [hm] at h3
      have ef := of_decide_eq_true h3
      subst ef
      obtain ⟨hM, slt, ty⟩ := mtAll (X := X) hm
      have P := evs_sound C.toCxOk S h6
      have p : PE X (.Call (.Attribute o f apos) as [] cpos) (tBM X.K "list" (rM m) (tVar i) (tVs X.K X.mg W (evs Φ sg es))) := by
        cases as with
        | nil =>
          refine (pe_bm0 PySem.F.plainAttrs_list slt ty hM (mVar_sound C.toCxOk h1) (notCall_ok h2) h4).to fun σ H Q q => ?_
          have e := mats_nil h6
          subst e
          obtain ⟨x, hx, q⟩ := q
          refine ⟨x, hx, q.1, ?_⟩
          obtain ⟨F, L, O, st, a⟩ := q.2
          have a : ∀ H' O' A, Mid X.K H O H' F σ L O' A → ∀ vs, RepOs X.K H' (Zz O' A F) [] vs A → rM m x vs H' Q := a
          exact a H O [] (Mid.start st) [] ⟨rfl, rfl⟩
        | cons a0 as' =>
          have na : notStar a0 = true := P.1
          have st : (backTo cpos (starEach as' X.env)).any (·.1) = false := by
            obtain ⟨_, te, ts, _, h2, _⟩ := P
            exact h2.star
          exact pe_bm PySem.F.plainAttrs_list slt ty hM (mVar_sound C.toCxOk h1) P.pa (notCall_ok h2) (few_ok (es := es) P (of_decide_eq_true h5)) h4 (star_cons na) st
      refine ⟨fun pins s σ H D I ⟨F, L, O, st, a⟩ => (ps_expr p (sw_no rfl)).run pins s σ H D I ?_⟩
      replace a : AftS X.K X.mg W _ σ F O H (onL (slot L i) ((evs Φ sg es L).bind fun ts L1 => setO i ((slot L1 i).bind fun t => mutT m t ts) L1)) _ := a
      cases q : slot L i with
      | none => rw [q] at a; exact a.elim
      | some t0 =>
        rw [q] at a
        cases t0 with
        | lst ow xs0 =>
          replace a : AftS X.K X.mg W _ σ F O H ((evs Φ sg es L).bind fun ts L1 => setO i ((slot L1 i).bind fun t => mutT m t ts) L1) _ := a
          obtain ⟨w, hw, b0, vs0, eb, hb, _⟩ := st.slotv q
          subst eb
          refine ⟨_, hw, .inl ⟨rfl, vs0, .inl (.inl hb)⟩, F, L, O, st, (AftS.bindE (x := evs Φ sg es L) a).mono fun ts L1 H1 O1 A1 _ mid a vs r => ?_⟩
          obtain ⟨t', et, a⟩ := AftS.onO a
          cases q1 : slot L1 i with
          | none => rw [q1] at et; cases et
          | some t1 =>
            rw [q1] at et
            replace et : mutT m t1 ts = some t' := et
            obtain ⟨xs, e1⟩ : ∃ xs, t1 = .lst true xs := by
              cases t1 with
              | lst o xs =>
                cases o with
                | true => exact ⟨xs, rfl⟩
                | false => cases m <;> (rcases ts with _ | ⟨x, _ | ⟨y, _ | _⟩⟩) <;> first | (cases et; done) | (cases x <;> cases et)
              | _ => cases m <;> (rcases ts with _ | ⟨x, _ | ⟨y, _ | _⟩⟩) <;> first | (cases et; done) | (cases x <;> cases et)
            subst e1
            exact mut_step mid r q1 et hw fun H' O' m' => a σ H' O' [] (Keep.refl σ) m'
        | _ => exact a.elim
  · cases h
end
end TV

set_option Elab.async false
set_option linter.all false
set_option maxRecDepth 100000
set_option maxHeartbeats 4000000
/-! TV30: the text's suites; a def. -/
namespace TV
open PySem PySem.Spec PyProof.Rows L2

def matSs (r : Stmt → Sm → Bool) : List Stmt → Sms → Bool
  | [], .nil => true
  | s :: ss, .cons m ms => r s m && matSs r ss ms
  | _, _ => false
def matS (Γ : Gm) (rec : Rc) (sc : Scope) : Nat → Stmt → Sm → Bool
  | 0, _, _ => false
  | n + 1, st, m => match m with
    | .set i e => mSet Γ rec sc i e st
    | .aug i o e => mAug Γ rec sc i o e st
    | .setm js e => mSetm Γ rec sc js e st
    | .par js es => mPar Γ rec sc js es st
    | .sub i ks k e => ks.isEmpty && mSub Γ rec sc i k e st
    | .mut i ks mt es => ks.isEmpty && mMutS Γ rec sc i mt es st
    | .exp e => mExp rec sc e st
    | .ret e => mRet rec sc e st
    | .retn => (match st with | .Return none _ => true | _ => false)
    | .pass => (match st with | .Pass _ => true | _ => false)
    | .brk => (match st with | .Break _ => true | _ => false)
    | .cnt => (match st with | .Continue _ => true | _ => false)
    | .iff c a b => (match st with | .If ec ea eb _ => rec sc ec c && !isIf ec && matSs (matS Γ rec sc n) ea a && matSs (matS Γ rec sc n) eb b | _ => false)
    | .whl c b => (match st with | .While ec eb [] _ => rec sc ec c && !isIf ec && matSs (matS Γ rec sc n) eb b | _ => false)
    | .for_ tg it b => (match st with | .For et ei eb [] _ => mTg Γ (locB sc) tg et && mIt Γ rec sc it et ei && notSet ei && matSs (matS Γ rec sc n) eb b | _ => false)
    | _ => false
section
variable {Γ : Gm} {X : Cx} {W : WX} {Φ : Funs} {sg : String → List Bool} {rec : Rc} {N : Nat}
theorem matSs_sound {r : Stmt → Sm → Bool} (hr : ∀ st m, r st m = true → PS X st (tSt X.K X.mg W (fun j => aS j m) (exec Φ sg N m))) : ∀ {ss : List Stmt} {ms : Sms}, matSs r ss ms = true → PSs X ss (tSt X.K X.mg W (fun j => aSs j ms) (execs Φ sg N ms))
  | [], .nil, _ => nil_pss
  | [], .cons _ _, h => by cases h
  | _ :: _, .nil, h => by cases h
  | s :: ss, .cons m ms, h => by
    have h : (r s m && matSs r ss ms) = true := h
    rw [Bool.and_eq_true] at h
    exact cons_pss (hr s m h.1) (matSs_sound hr h.2)
theorem isEmpty_nil {α : Type} {l : List α} (h : l.isEmpty = true) : l = [] := by cases l <;> first | rfl | cases h
theorem matS_sound (C : CxS Γ X W Φ sg) (SA : ∀ X W, CxOk Γ X W → FnsOk Γ X Φ sg → Snd Γ X W Φ sg rec) : ∀ n st m, matS Γ rec X.env.scope n st m = true → PS X st (tSt X.K X.mg W (fun j => aS j m) (exec Φ sg N m))
  | 0, _, _, h => by cases h
  | n + 1, st, m, h => by
    have S := SA X W C.toCxOk C.toFnsOk
    have ih := fun {ss : List Stmt} {ms : Sms} => matSs_sound (ss := ss) (ms := ms) (matS_sound C SA n)
    cases m with
    | set i e => exact set_ps C SA h
    | aug i o e => exact aug_ps C S h
    | setm js e => exact setm_ps C S h
    | par js es => exact par_ps C S h
    | sub i ks k e =>
      have h : (ks.isEmpty && mSub Γ rec X.env.scope i k e st) = true := h
      rw [Bool.and_eq_true] at h
      rw [isEmpty_nil h.1]
      exact sub_ps C S h.2
    | «mut» i ks mt es =>
      have h : (ks.isEmpty && mMutS Γ rec X.env.scope i mt es st) = true := h
      rw [Bool.and_eq_true] at h
      rw [isEmpty_nil h.1]
      exact mutS_ps C S h.2
    | exp e => exact exp_ps S h
    | ret e => exact ret_ps C.toCxOk S h
    | retn =>
      unfold matS at h; simp only at h
      split at h
      · exact retn_ps
      · cases h
    | pass =>
      unfold matS at h; simp only at h
      split at h
      · exact pass_ps
      · cases h
    | brk =>
      unfold matS at h; simp only at h
      split at h
      · exact brk_ps
      · cases h
    | cnt =>
      unfold matS at h; simp only at h
      split at h
      · exact cnt_ps
      · cases h
    | iff c a b =>
      unfold matS at h; simp only at h
      split at h
      · simp only [Bool.and_eq_true] at h
        exact iff_ps S h.1.1.1 (by simpa using h.1.1.2) (ih h.1.2) (ih h.2)
      · cases h
    | whl c b =>
      unfold matS at h; simp only at h
      split at h
      · simp only [Bool.and_eq_true] at h
        exact whl_ps C S h.1.1 (by simpa using h.1.2) (ih h.2)
      · cases h
    | for_ tg it b =>
      unfold matS at h; simp only at h
      split at h
      · simp only [Bool.and_eq_true] at h
        exact for_ps C S h.1.1.1 h.1.1.2 h.1.2 (ih h.2)
      · cases h
    | _ => cases h
end
section
variable {K : PySem.W.Frag} {mg : Str → Option Value} {H H' : Hp} {Z Z' F : Fb} {σ : Sg} {L : Slots} {O : List Addr}
theorem outs_rep : ∀ {ms : List Bool} {L : Slots} {σ : Sg} {O : List Addr} {vs : List V} {outs : List T}, RepL K H Z L σ O → outS ms L = some outs → ms.length ≤ vs.length → vs.length ≤ σ.length → (∀ i : Nat, ms[i]? = some true → σ[i]? = some (vs[i]?)) →
    ∃ B, B.Sublist O ∧ RepOs K H Z outs (mutV ms vs) B
  | [], L, σ, O, vs, outs, r, e, _, _, _ => by
    have e : some ([] : List T) = some outs := by cases L <;> exact e
    cases e
    exact ⟨[], List.nil_sublist _, by cases vs <;> exact ⟨rfl, rfl⟩⟩
  | m :: ms, L, σ, O, [], outs, r, e, hl, _, _ => by simp at hl
  | false :: ms, L, σ, O, v :: vs, outs, r, e, hl, hv, hs => by
    cases r with
    | nil => simp at hv
    | free r =>
      obtain ⟨B, s, rp⟩ := outs_rep r (show outS ms _ = some outs from e) (by simpa using hl) (by simpa using hv) fun i hi => hs (i + 1) hi
      exact ⟨B, s, rp⟩
    | held r0 r =>
      obtain ⟨B, s, rp⟩ := outs_rep r (show outS ms _ = some outs from e) (by simpa using hl) (by simpa using hv) fun i hi => hs (i + 1) hi
      exact ⟨B, s.trans (List.sublist_append_right _ _), rp⟩
  | true :: ms, L, σ, O, v :: vs, outs, r, e, hl, hv, hs => by
    cases r with
    | nil => cases e
    | free r => cases e
    | held r0 r =>
      rename_i L σ O t w A
      have e : (if (isOwn t && !isLkd t) = true then (outS ms L).map (t :: ·) else none) = some outs := e
      by_cases ho : (isOwn t && !isLkd t) = true
      · rw [if_pos ho] at e
        cases q : outS ms L with
        | none => rw [q] at e; cases e
        | some os =>
          rw [q] at e
          have e : t :: os = outs := Option.some.inj e
          subst e
          obtain ⟨B, s, rp⟩ := outs_rep r q (by simpa using hl) (by simpa using hv) fun i hi => hs (i + 1) hi
          have hw := hs 0 rfl
          have hw : some (some w) = some (some v) := hw
          cases hw
          rw [Bool.and_eq_true] at ho
          exact ⟨A ++ B, List.Sublist.append (List.Sublist.refl A) s, v, _, A, B, rfl, rfl, by simpa using ho.2, r0, rp⟩
      · rw [if_neg ho] at e; cases e
theorem nones0 : ∀ n, RepL K H Z (List.replicate n none) (List.replicate n none) []
  | 0 => .nil
  | n + 1 => .free (nones0 n)
theorem RepL.nones (r : RepL K H Z L σ O) (n : Nat) : RepL K H Z (L ++ List.replicate n none) (σ ++ List.replicate n none) O := by
  induction r with
  | nil => exact nones0 n
  | free _ ih => exact .free ih
  | held r0 _ ih => exact .held r0 ih
theorem StOk.nones (h : StOk K H F σ L O) (n : Nat) : StOk K H F (σ ++ List.replicate n none) (L ++ List.replicate n none) O := by
  obtain ⟨O0, p, r, x⟩ := h
  exact ⟨O0, p, r.nones n, x⟩
end
/-! ### a def -/
def scopeB (N ps : List Str) (sc : Scope) : Bool :=
  (match sc.kind with | .function => true | _ => false) && (!sc.isCoroutine && !sc.isGenerator) && (decide N.Nodup && decide (N.take ps.length = ps)) && ps.all (locOwn sc) && sc.names.all fun y => match y.2 with | .free => false | _ => true
theorem scopeB_ok {N ps : List Str} {sc : Scope} (h : scopeB N ps sc = true) : FnScope N ps sc := by
  unfold scopeB at h
  simp only [Bool.and_eq_true, Bool.not_eq_true', decide_eq_true_eq, List.all_eq_true] at h
  obtain ⟨⟨⟨⟨h1, h2⟩, h3⟩, h4⟩, h5⟩ := h
  refine ⟨?_, h2.1, h2.2, h3.1, h3.2, fun x hx => ?_, fun y hy e => ?_⟩
  · split at h1
    · assumption
    · cases h1
  · have := h4 x hx
    unfold locOwn at this
    split at this
    · exact .inl (by assumption)
    · exact .inr (by assumption)
    · cases this
  · have := h5 y hy
    rw [e] at this; cases this
structure FnChk (Γ : Gm) (sc : Scope) (ps : List Str) (body : List Stmt) (fn : Fn) : Prop where
  pn : fn.params = ps.length
  sn : fn.slots = Γ.N.length
  mn : fn.muts.length ≤ fn.params
  scp : scopeB Γ.N ps sc = true
  bd : ∃ n k, matSs (matS Γ (mat Γ n) sc k) body fn.body = true
theorem parOk_at : ∀ {ms : List Bool} {i k : Nat} {b : Sms}, parOk ms k b = true → ms[i]? = some true → aSs (k + i) b = false
  | [], _, _, _, _, h => by simp at h
  | m :: ms, 0, k, b, h, e => by
    have e : m = true := by simpa using e
    subst e
    have h : (!aSs k b && parOk ms (k + 1) b) = true := h
    simp only [Bool.and_eq_true, Bool.not_eq_true'] at h
    exact h.1
  | m :: ms, i + 1, k, b, h, e => by
    have h' : parOk ms (k + 1) b = true := by
      cases m with
      | true =>
        have h : (!aSs k b && parOk ms (k + 1) b) = true := h
        simp only [Bool.and_eq_true] at h
        exact h.2
      | false => exact h
    have := parOk_at (i := i) h' (by simpa using e)
    rw [show k + (i + 1) = k + 1 + i by omega]
    exact this
section
variable {P : Program} {w : World} {K : PySem.W.Frag} {mg : Str → Option Value} {base : Heap} {Γ : Gm} {Φ : Funs} {sg : String → List Bool} {Nf : Nat}
/-- a def keeps the promise of its run, if those that it calls do -/
theorem fn_ok {x qual : Str} {st : Stmt} {f : Addr} {fd : FuncData} {ps : List Str} {d : Nat} {fn : Fn} (Fd : Fun K x qual st f fd) (ck : FnChk Γ (defScope st) ps (defBody st) fn)
    (gb : ∀ x ∈ Γ.bs, mg x = none) (gc : ∀ x c, Γ.cs.lookup x = some c → ∃ v u, mg x = some u ∧ RelV v u ∧ ∀ H Z, RepO K H Z c v [])
    (hf : ∀ x f, Γ.fs.lookup x = some f → ∃ fa fd ps, mg x = some (.ref fa) ∧ PySem.W.keepIn K (.ref fa) = true ∧ Binds K fd ps [] ∧ FnOk P w K mg base (L2.CX P w) d fa fd ps (spF K mg (sg f) (Φ f)))
    (ar : ∀ f ts, Φ f ts ≠ .stuck → ∃ us, argS (sg f) ts = some us) : FnOk P w K mg base (L2.CX P w) (d + 1) f fd ps (spF K mg fn.muts (evFn Φ sg Nf fn)) := by
  have S := scopeB_ok ck.scp
  refine Fd.okX S (fun vs H Q E h => ?_) fun cdv A outer s H vs Q E hr h => ?_
  · obtain ⟨F, ts, us, B, e1, e2, _, h⟩ := h
    by_cases hp : ts.length = fn.params ∧ parOk fn.muts 0 fn.body = true
    · rw [← e2, hp.1, ck.pn]
    · unfold evFn at h
      rw [if_neg hp] at h
      exact h.elim
  · obtain ⟨F, ts, us, B, e1, e2, st0, h⟩ := h
    unfold evFn at h
    by_cases hp : ts.length = fn.params ∧ parOk fn.muts 0 fn.body = true
    · rw [if_pos hp, e1] at h
      replace h : match finF fn.muts (execs Φ sg Nf fn.body (us.map some ++ List.replicate (fn.slots - fn.params) none)) with
        | .stuck => False
        | .err c => ∀ H' C, mg (Str.ofString c) = some (.ref C) → Grow H H' B [] → E (.ref C) none H'
        | .ok r outs => ∀ v H' B' A', RepOs K H' (Zz B' A' F) outs (mutV fn.muts vs) B' → isLkd r = false → RepO K H' (Zz B' A' F) r v A' → (B' ++ A').Nodup → (∀ a ∈ B' ++ A', ¬ F a) → Grow H H' B (B' ++ A') → Q v H' := h
      have C : CxS Γ (cxOf (L2.CX P w) P w K mg base Γ.N qual (defScope st) f cdv A outer s H E) (fun cls d _ H => E cls d H) Φ sg :=
        { hN := rfl
          nd := S.nd
          calm := rfl
          un := by have := hr.un; show (A.deeper _).units + 70 < _; omega
          tk := L2.takes_of rfl rfl rfl rfl
          gb := gb
          gc := gc
          fn := fun x f e => by
            obtain ⟨fa, fd, ps, h1, h2, h3, h4⟩ := hf x f e
            exact ⟨d, fa, fd, ps, hr, h1, h2, h3, h4⟩
          ar := ar
          fnT := fun _ => rfl
          po := L2.passes_of rfl
          kd := S.kind }
      obtain ⟨n, k, hb⟩ := ck.bd
      refine ⟨_, matSs_sound (N := Nf) (matS_sound C (fun X W c fo => mat_sound n X W c fo) k) hb, F, us.map some ++ List.replicate (fn.slots - fn.params) none, B, ?_, ?_⟩
      · have : L2.start Γ.N vs = vs.map some ++ List.replicate (fn.slots - fn.params) none := by
          unfold L2.start
          rw [ck.sn, ← hp.1, e2]
        rw [this]
        exact st0.nones _
      · have lv : vs.length = fn.params := by rw [← e2]; exact hp.1
        cases q : execs Φ sg Nf fn.body (us.map some ++ List.replicate (fn.slots - fn.params) none) with
        | stuck => rw [q] at h; exact h.elim
        | err c L' =>
          rw [q] at h
          intro σ' H' O' C' ec kp mid
          exact h H' C' ec ⟨mid.gr.keep, (fun a z => by cases z), mid.gr.fz⟩
        | ok fl L' =>
          rw [q] at h
          have fin : ∀ (r : T) (v : V) (σ' : Sg) (H' : Hp) (O' A' : List Addr), (match finS fn.muts r L' with | .stuck => False | .err c => ∀ H' C, mg (Str.ofString c) = some (.ref C) → Grow H H' B [] → E (.ref C) none H' | .ok r outs => ∀ v H' B' A', RepOs K H' (Zz B' A' F) outs (mutV fn.muts vs) B' → isLkd r = false → RepO K H' (Zz B' A' F) r v A' → (B' ++ A').Nodup → (∀ a ∈ B' ++ A', ¬ F a) → Grow H H' B (B' ++ A') → Q v H') →
              Keep (fun j => aSs j fn.body) (L2.start Γ.N vs) σ' → Mid K H B H' F σ' L' O' A' → isLkd r = false → RepO K H' (Zz O' A' F) r v A' → Q v H' := fun r v σ' H' O' A' h kp mid hk rv => by
            unfold finS at h
            cases q2 : outS fn.muts L' with
            | none => rw [q2] at h; exact h.elim
            | some outs =>
              rw [q2] at h
              obtain ⟨O0, p0, rl, nd, df, fe⟩ := id mid.st
              have e0 : L2.start Γ.N vs = vs.map some ++ List.replicate (Γ.N.length - vs.length) none := rfl
              obtain ⟨B', sB, rB⟩ := outs_rep rl q2 (by rw [lv]; exact ck.mn) (by rw [kp.1, e0]; simp) fun i hi => by
                have hlt : i < vs.length := by
                  rw [lv]
                  exact Nat.lt_of_lt_of_le (List.getElem?_eq_some_iff.mp hi).1 ck.mn
                rw [kp.2 i (by have := parOk_at hp.2 hi; simpa using this), e0, List.getElem?_append_left (by simpa using hlt), List.getElem?_map, List.getElem?_eq_getElem hlt]; rfl
              have sB' : ∀ a ∈ B', a ∈ O' := fun a ha => p0.mem_iff.mp (sB.subset ha)
              refine h v H' B' A' (rB.later1 fun a z => ?_) hk (rv.later1 fun a z => z.imp (sB' a) id) ?_ (fun a ha => ?_) (mid.gr.mono fun a ha => ?_)
              · rcases z with z | z | z
                · exact .inl (sB' a z)
                · exact .inr (.inl z)
                · exact .inr (.inr z)
              · rw [List.nodup_append]
                exact ⟨(p0.nodup_iff.mpr nd).sublist sB, mid.nd, fun a ha b hb e => by subst e; exact df a (sB' a ha) (.inl hb)⟩
              · rcases List.mem_append.mp ha with z | z
                · exact fun y => df a (sB' a z) (.inr y)
                · exact mid.df a z
              · rcases List.mem_append.mp ha with z | z
                · exact List.mem_append_left _ (sB' a z)
                · exact List.mem_append_right _ z
          intro σ' H' O' A' kp mid
          cases fl with
          | rt r => exact fun v hk rv => fin r v σ' H' O' A' h kp mid hk rv
          | nx => exact fin .non .non σ' H' O' [] h kp mid.bare rfl ⟨rfl, rfl⟩
          | bk => exact h.elim
          | ct => exact h.elim
    · rw [if_neg hp] at h
      exact h.elim
end
end TV

set_option Elab.async false
set_option linter.all false
set_option maxRecDepth 100000
set_option maxHeartbeats 4000000
/-! TV31: all defs of a text, by levels; a law's end. -/
namespace TV
open PySem PySem.Spec PyProof.Rows L2

theorem FnOk.to {P : Program} {w : World} {K : PySem.W.Frag} {mg : Str → Option Value} {base : Heap} {CX : CXT} {k : Nat} {f : Addr} {fd : FuncData} {ps : List Str} {sp sp' : Sp} (h : FnOk P w K mg base CX k f fd ps sp) (t : ∀ vs H Q E, sp' vs H Q E → sp vs H Q E) : FnOk P w K mg base CX k f fd ps sp' :=
  ⟨fun vs H Q E q => h.len vs H Q E (t _ _ _ _ q), fun A outer s H args us vs Q E r e b v q => h.run A outer s H args us vs Q E r e b v (t _ _ _ _ q)⟩
/-- a def of the text, where it stands, its run -/
structure DefAt (K : PySem.W.Frag) (mg : Str → Option Value) (bs : List Str) (cs : List (Str × T)) (fs : List (Str × String)) (tb : Tbl) (x : Str) (key : String) (fa : Addr) (fd : FuncData) (ps : List Str) : Prop where
  mg : mg x = some (.ref fa)
  kp : PySem.W.keepIn K (.ref fa) = true
  bi : Binds K fd ps []
  ex : ∃ nm qual st N fn, Fun K nm qual st fa fd ∧ tb.lookup key = some fn ∧ FnChk ⟨N, bs, cs, fs⟩ (defScope st) ps (defBody st) fn
section
variable {P : Program} {w : World} {K : PySem.W.Frag} {mg : Str → Option Value} {base : Heap} {bs : List Str} {cs : List (Str × T)} {fs : List (Str × String)} {tb : Tbl} {Nf : Nat}
theorem run_ar {d : Nat} : ∀ f ts, run tb Nf d f ts ≠ .stuck → ∃ us, argS (sgOf tb f) ts = some us := fun f ts h => by
  cases d with
  | zero => exact absurd rfl h
  | succ d =>
    unfold run at h
    unfold sgOf
    cases q : tb.lookup f with
    | none => rw [q] at h; exact absurd rfl h
    | some fn =>
      rw [q] at h
      replace h : evFn (run tb Nf d) (sgOf tb) Nf fn ts ≠ .stuck := h
      unfold evFn at h
      split at h
      · show ∃ us, argS fn.muts ts = some us
        cases q2 : argS fn.muts ts with
        | none => rw [q2] at h; exact absurd rfl h
        | some us => exact ⟨us, rfl⟩
      · exact absurd rfl h
/-- every def keeps its promise at every level -/
theorem level_ok (gb : ∀ x ∈ bs, mg x = none) (gc : ∀ x c, cs.lookup x = some c → ∃ v u, mg x = some u ∧ RelV v u ∧ ∀ H Z, RepO K H Z c v [])
    (hd : ∀ x key, fs.lookup x = some key → ∃ fa fd ps, DefAt K mg bs cs fs tb x key fa fd ps) : ∀ d x key, fs.lookup x = some key → ∀ fa fd ps, DefAt K mg bs cs fs tb x key fa fd ps →
      FnOk P w K mg base (L2.CX P w) d fa fd ps (spF K mg (sgOf tb key) (run tb Nf d key))
  | 0, x, key, h, fa, fd, ps, D => ⟨fun vs H Q E q => by obtain ⟨_, _, _, _, _, _, _, z⟩ := q; exact z.elim, fun A outer s H args us vs Q E _ _ _ _ q => by obtain ⟨_, _, _, _, _, _, _, z⟩ := q; exact z.elim⟩
  | d + 1, x, key, h, fa, fd, ps, D => by
    obtain ⟨nm, qual, st, N, fn, F, lk, ck⟩ := D.ex
    have e1 : sgOf tb key = fn.muts := by unfold sgOf; rw [lk]
    have e2 : run tb Nf (d + 1) key = evFn (run tb Nf d) (sgOf tb) Nf fn := by
      funext ts
      unfold run
      rw [lk]
    rw [e1, e2]
    exact fn_ok F ck gb gc (fun y k hk => by
      obtain ⟨fa', fd', ps', D'⟩ := hd y k hk
      exact ⟨fa', fd', ps', D'.mg, D'.kp, D'.bi, level_ok gb gc hd d y k hk fa' fd' ps' D'⟩) run_ar
end
theorem lk_nil {α : Type} {P : Str → α → Prop} : ∀ x k, ([] : List (Str × α)).lookup x = some k → P x k := fun x k h => by cases h
theorem lk_cons {α : Type} {P : Str → α → Prop} {a : Str} {b : α} {l : List (Str × α)} (h1 : P a b) (h2 : ∀ x k, l.lookup x = some k → P x k) : ∀ x k, ((a, b) :: l).lookup x = some k → P x k := fun x k h => by
  rw [List.lookup_cons] at h
  cases q : x == a with
  | true =>
    rw [q] at h
    have e : x = a := by simpa using q
    cases h
    rw [e]; exact h1
  | false => rw [q] at h; exact h2 x k h
theorem al_nil {P : Str → Prop} : ∀ x ∈ ([] : List Str), P x := fun x h => by cases h
theorem al_cons {P : Str → Prop} {a : Str} {l : List Str} (h1 : P a) (h2 : ∀ x ∈ l, P x) : ∀ x ∈ a :: l, P x := fun x h => by
  rcases List.mem_cons.mp h with e | h
  · rw [e]; exact h1
  · exact h2 x h
theorem cx_no {P : Program} : ∀ (w : World) (H : Hp) (s : Shared) (e : Value) (s' : Shared), L2.CX P w [] H s (fun _ _ _ => False) e s' → False := fun w H s e s' h => by
  obtain ⟨_, _, _, _, _, _, _, _, _, _, _, _, z⟩ := h
  exact z
/-- a law's own promise -/
def spLaw (K : PySem.W.Frag) (n : Nat) : Sp := fun vs H Q _ => ∃ (a : Addr) (ns : List Int), vs = [.ref a] ∧ SqL K H a (ns.map V.int) ∧ Only H ∧ ns.length ≤ n ∧ (∀ z ∈ ns, Builtin.Int.intBits z ≤ 1048576) ∧ ∀ H', Q (.bl true) H'
theorem law_sp {K : PySem.W.Frag} {mg : Str → Option Value} {n : Nat} {φ : List T → FOut} (h : ∀ ns : List Int, ns.length ≤ n → (∀ z ∈ ns, Builtin.Int.intBits z ≤ 1048576) → φ [.scr ns] = .ok (.bl true) []) (vs : List V) (H : Hp) (Q : VK) (E : XK)
    (q : spLaw K n vs H Q E) : spF K mg [] φ vs H Q E := by
  obtain ⟨a, ns, rfl, hS, hO, hl, hb, q⟩ := q
  refine ⟨fun _ => False, [.scr ns], [.scr ns], [], rfl, rfl, ?_, ?_⟩
  · have sc : ScrL K H (Zo [] fun _ => False) ns (.ref a) := by
      refine ⟨a, rfl, ?_⟩
      rcases hS with hS | hS
      · rcases hS with hS | ⟨o, hS⟩
        · rcases hO a with z | ⟨o, xs, z⟩ <;> (rw [hS] at z; cases z)
        · exact .inl ⟨⟨o, hS⟩, fun z => z.elim (fun q => by cases q) id⟩
      · exact .inr hS
    exact ⟨[], .refl _, RepL.held (A := []) ⟨sc, rfl⟩ .nil, .nil, (fun _ z => by cases z), fun _ z => z.elim⟩
  · rw [h ns hl hb]
    intro v H' B' A' _ _ rv _ _ _
    rw [show v = V.bl true from rv.1]
    exact q H'
end TV

set_option Elab.async false
set_option linter.all false
set_option maxRecDepth 100000
set_option maxHeartbeats 4000000
/-! TW1: what a run comes to; a def by its table. -/
namespace TV
open PySem PySem.Spec PyProof.Rows L2
/-- the run ends well, and so -/
def wx {α : Type} (x : Out α) (Q : α → Slots → Prop) : Prop := ∃ a L, x = .ok a L ∧ Q a L
def wf (x : FOut) (Q : T → List T → Prop) : Prop := ∃ r outs, x = .ok r outs ∧ Q r outs
section
variable {α β : Type} {Φ : Funs} {sg : String → List Bool} {N : Nat} {x₀ : Option T} {L : Slots} {Q : α → Slots → Prop} {R : T → List T → Prop}
theorem wx_ok (a : α) : wx (.ok a L) Q = Q a L := propext ⟨fun ⟨_, _, e, q⟩ => by cases e; exact q, fun q => ⟨_, _, rfl, q⟩⟩
theorem wx_stuck : wx (.stuck : Out α) Q = False := propext ⟨fun ⟨_, _, e, _⟩ => (by cases e), False.elim⟩
theorem wx_bind {x : Out β} {k : β → Slots → Out α} : wx (x.bind k) Q = wx x fun b L => wx (k b L) Q := propext ⟨fun ⟨a, L, e, q⟩ => by
  cases x with
  | stuck => cases e
  | err _ _ => cases e
  | ok b L1 => exact ⟨b, L1, rfl, a, L, e, q⟩, fun ⟨b, L1, e, a, L, e2, q⟩ => by subst e; exact ⟨a, L, e2, q⟩⟩
theorem wx_noErr {x : Out β} {k : β → Slots → Out α} : wx (noErr x k) Q = wx x fun b L => wx (k b L) Q := propext ⟨fun ⟨a, L, e, q⟩ => by
  cases x with
  | stuck => cases e
  | err _ _ => cases e
  | ok b L1 => exact ⟨b, L1, rfl, a, L, e, q⟩, fun ⟨b, L1, e, a, L, e2, q⟩ => by subst e; exact ⟨a, L, e2, q⟩⟩
theorem wx_mono {x : Out α} {Q' : α → Slots → Prop} (h : wx x Q') (k : ∀ a L, Q' a L → Q a L) : wx x Q := by
  obtain ⟨a, L, e, q⟩ := h; exact ⟨a, L, e, k _ _ q⟩
theorem wx_cB {c : Bool} {a b : Out α} (h1 : c = true → wx a Q) (h2 : c = false → wx b Q) : wx (cB c a b) Q := by
  cases c
  · exact h2 rfl
  · exact h1 rfl
theorem wx_bcB {c : Bool} {a b : Out β} {k : β → Slots → Out α} (h1 : c = true → wx (a.bind k) Q) (h2 : c = false → wx (b.bind k) Q) : wx ((cB c a b).bind k) Q := by
  cases c
  · exact h2 rfl
  · exact h1 rfl
theorem wf_ok (r : T) (outs : List T) : wf (.ok r outs) R = R r outs := propext ⟨fun ⟨_, _, e, q⟩ => by cases e; exact q, fun q => ⟨_, _, rfl, q⟩⟩
theorem wf_mono {x : FOut} {R' : T → List T → Prop} (h : wf x R') (k : ∀ a L, R' a L → R a L) : wf x R := by
  obtain ⟨a, L, e, q⟩ := h; exact ⟨a, L, e, k _ _ q⟩
theorem wf_eq {x : FOut} {r : T} {outs : List T} (h : wf x fun r' o' => r' = r ∧ o' = outs) : x = .ok r outs := by
  obtain ⟨a, b, e, rfl, rfl⟩ := h; exact e
/-- the arms wait for the truth -/
def cS (Φ : Funs) (sg : String → List Bool) (N : Nat) (c : Bool) (a b : Sms) (L : Slots) : Out Fl := cB c (execs Φ sg N a L) (execs Φ sg N b L)
theorem cS_t (a b : Sms) : cS Φ sg N true a b L = execs Φ sg N a L := rfl
theorem cS_f (a b : Sms) : cS Φ sg N false a b L = execs Φ sg N b L := rfl
theorem exec_iffS (c : Ex) (a b : Sms) : exec Φ sg N (.iff c a b) (x₀ :: L) = (evb Φ sg c (x₀ :: L)).bind fun t L1 => cS Φ sg N t a b L1 := rfl
def eS (Φ : Funs) (sg : String → List Bool) (c : Bool) (a b : Ex) (L : Slots) : Out T := cB c (ev Φ sg a L) (ev Φ sg b L)
theorem eS_t (a b : Ex) : eS Φ sg true a b L = ev Φ sg a L := rfl
theorem eS_f (a b : Ex) : eS Φ sg false a b L = ev Φ sg b L := rfl
def onBe (Φ : Funs) (sg : String → List Bool) (t : T) (a b : Ex) (L : Slots) : Out T :=
  match t with
  | .bl c => eS Φ sg c a b L
  | _ => .stuck
theorem onBe_bl (c : Bool) (a b : Ex) : onBe Φ sg (.bl c) a b L = eS Φ sg c a b L := rfl
theorem ev_iteS (c a b : Ex) : ev Φ sg (.ite c a b) (x₀ :: L) = (ev Φ sg c (x₀ :: L)).bind fun t L1 => onBe Φ sg t a b L1 := by
  show (ev Φ sg c (x₀ :: L)).bind _ = _
  congr 1; funext t L1
  cases t with
  | bl c => cases c <;> rfl
  | _ => rfl
theorem wx_cS {c : Bool} {a b : Sms} {Q : Fl → Slots → Prop} (h1 : c = true → wx (execs Φ sg N a L) Q) (h2 : c = false → wx (execs Φ sg N b L) Q) : wx (cS Φ sg N c a b L) Q := wx_cB h1 h2
theorem wx_bcS {c : Bool} {a b : Sms} {k : Fl → Slots → Out α} (h1 : c = true → wx ((execs Φ sg N a L).bind k) Q) (h2 : c = false → wx ((execs Φ sg N b L).bind k) Q) : wx ((cS Φ sg N c a b L).bind k) Q := wx_bcB h1 h2
theorem wx_beS {c : Bool} {a b : Ex} {k : T → Slots → Out α} (h1 : c = true → wx ((ev Φ sg a L).bind k) Q) (h2 : c = false → wx ((ev Φ sg b L).bind k) Q) : wx ((eS Φ sg c a b L).bind k) Q := wx_bcB h1 h2
theorem cB_and (c d : Bool) : cB c (.ok (T.bl d) L) (.ok (.bl false) L) = .ok (.bl (c && d)) L := by cases c <;> rfl
theorem cB_or (c d : Bool) : cB c (.ok (T.bl true) L) (.ok (.bl d) L) = .ok (.bl (c || d)) L := by cases c <;> rfl
theorem cB_not (c : Bool) : cB c (.ok (T.bl false) L) (.ok (.bl true) L) = .ok (.bl (!c)) L := by cases c <;> rfl
theorem cB_b (c : Bool) : cB c (.ok true L) (.ok false L) = .ok c L := by cases c <;> rfl
/-- the table has the def -/
class Has (tb : Tbl) (f : String) (ps sl : outParam Nat) (ms : outParam (List Bool)) (b : outParam Sms) : Prop where
  h : tb.lookup f = some ⟨ps, sl, ms, b⟩
theorem sg_has {tb : Tbl} {f : String} {ps sl : Nat} {ms : List Bool} {b : Sms} [i : Has tb f ps sl ms b] : sgOf tb f = ms := by unfold sgOf; rw [i.h]
theorem run_has {tb : Tbl} {f : String} {ps sl : Nat} {ms : List Bool} {b : Sms} [i : Has tb f ps sl ms b] (d : Nat) (ts : List T) : run tb N (d + 1) f ts = evFn (run tb N d) (sgOf tb) N ⟨ps, sl, ms, b⟩ ts := by
  show (match tb.lookup f with | some fn => _ | none => _) = _; rw [i.h]
def goA (us : Option (List T)) (k : List T → FOut) : FOut := match us with
  | some us => k us
  | none => .stuck
theorem goA_some (us : List T) (k : List T → FOut) : goA (some us) k = k us := rfl
/-- the body is by its own name -/
theorem evFn_go (ps sl : Nat) (ms : List Bool) (b : Sms) (ts : List T) (h : ts.length = ps) (h0 : parOk ms 0 b = true) : evFn Φ sg N ⟨ps, sl, ms, b⟩ ts = goA (argS ms ts) fun us => finF ms (execs Φ sg N b (us.map some ++ List.replicate (sl - ps) none)) := by
  unfold evFn
  rw [if_pos ⟨h, h0⟩]
  cases argS ms ts <;> rfl
theorem wf_fin {ms : List Bool} {x : Out Fl} : wf (finF ms x) R = wx x fun f L => wf (finF ms (.ok f L)) R := propext ⟨fun h => by
  cases x with
  | stuck => obtain ⟨_, _, e, _⟩ := h; cases e
  | err _ _ => obtain ⟨_, _, e, _⟩ := h; cases e
  | ok f L1 => exact ⟨f, L1, rfl, h⟩, fun ⟨f, L1, e, q⟩ => by subst e; exact q⟩
theorem wf_in {tb : Tbl} {f : String} {ps sl : Nat} {ms : List Bool} {b : Sms} [i : Has tb f ps sl ms b] {d : Nat} {ts us : List T} (h : ts.length = ps) (h0 : parOk ms 0 b = true) (h2 : argS ms ts = some us)
    (k : wx (execs (run tb N d) (sgOf tb) N b (us.map some ++ List.replicate (sl - ps) none)) fun f L => wf (finF ms (.ok f L)) R) : wf (run tb N (d + 1) f ts) R := by
  rw [run_has, evFn_go _ _ _ _ _ h h0, h2, goA_some, wf_fin]; exact k
/-- a call's way back -/
theorem wx_call {ms : List Bool} {ps : List Opd} {is : List Nat} {x : FOut} {Q : T → Slots → Prop} {R : T → List T → Prop} (h : wf x R) (k : ∀ r outs, R r outs → wx (callBack ms ps is L (.ok r outs)) Q) : wx (callBack ms ps is L x) Q := by
  obtain ⟨r, outs, e, q⟩ := h; rw [e]; exact k r outs q
theorem callRun_eq (f : String) (ps : List Opd) : callRun Φ sg f ps L = onO (rds L ps) fun ts => onO (mutsOf (sg f) ps) fun is =>
    if noDup is && is.all (fun i => !(lent (sg f) ps).contains i) then callBack (sg f) ps is L (Φ f ts) else .stuck := rfl
theorem callBack_ok (ms : List Bool) (ps : List Opd) (is : List Nat) (r : T) (outs : List T) : callBack ms ps is L (.ok r outs) = if isLkd r then .stuck else
    if cln r && clns outs then onO (setOuts is outs L) fun L1 => .ok r L1
    else onO (frzO ms ps L) fun L0 => onO (setOuts is outs L0) fun L1 => .ok r L1 := rfl
/-! by what stands there -/
theorem evq_cst (c : T) (es : Exs) : evq Φ sg (.cons (.cst c) es) (x₀ :: L) = (ev Φ sg (.cst c) (x₀ :: L)).bind fun t L1 => (evq Φ sg es L1).bind fun ps L2 => .ok (.v t :: ps) L2 := evq_cons _ _ (fun _ h => by cases h) (fun _ _ h => by cases h)
theorem evo_cst (c : T) (u : Bool) (φ : Slots → Out T) : evo (.cst c) u φ (x₀ :: L) = (φ (x₀ :: L)).bind fun t L1 => .ok (.v t) L1 := evo_else _ _ _ (fun _ h => by cases h) (fun _ _ h => by cases h)
theorem mv_cst (c : T) : mv Φ sg (.cst c) (x₀ :: L) = ev Φ sg (.cst c) (x₀ :: L) := mv_else _ (fun _ h => by cases h)
theorem mvr_cst (c : T) : mvr Φ sg (.cst c) (x₀ :: L) = ev Φ sg (.cst c) (x₀ :: L) := mvr_else _ (fun _ h => by cases h) (fun _ h => by cases h) (fun _ h => by cases h)
theorem evq_op (o : Op) (q : Exs) (es : Exs) : evq Φ sg (.cons (.op o q) es) (x₀ :: L) = (ev Φ sg (.op o q) (x₀ :: L)).bind fun t L1 => (evq Φ sg es L1).bind fun ps L2 => .ok (.v t :: ps) L2 := evq_cons _ _ (fun _ h => by cases h) (fun _ _ h => by cases h)
theorem evo_op (o : Op) (q : Exs) (u : Bool) (φ : Slots → Out T) : evo (.op o q) u φ (x₀ :: L) = (φ (x₀ :: L)).bind fun t L1 => .ok (.v t) L1 := evo_else _ _ _ (fun _ h => by cases h) (fun _ _ h => by cases h)
theorem mv_op (o : Op) (q : Exs) : mv Φ sg (.op o q) (x₀ :: L) = ev Φ sg (.op o q) (x₀ :: L) := mv_else _ (fun _ h => by cases h)
theorem mvr_op (o : Op) (q : Exs) : mvr Φ sg (.op o q) (x₀ :: L) = ev Φ sg (.op o q) (x₀ :: L) := mvr_else _ (fun _ h => by cases h) (fun _ h => by cases h) (fun _ h => by cases h)
theorem evq_lst (q : Exs) (es : Exs) : evq Φ sg (.cons (.lst q) es) (x₀ :: L) = (ev Φ sg (.lst q) (x₀ :: L)).bind fun t L1 => (evq Φ sg es L1).bind fun ps L2 => .ok (.v t :: ps) L2 := evq_cons _ _ (fun _ h => by cases h) (fun _ _ h => by cases h)
theorem evo_lst (q : Exs) (u : Bool) (φ : Slots → Out T) : evo (.lst q) u φ (x₀ :: L) = (φ (x₀ :: L)).bind fun t L1 => .ok (.v t) L1 := evo_else _ _ _ (fun _ h => by cases h) (fun _ _ h => by cases h)
theorem mv_lst (q : Exs) : mv Φ sg (.lst q) (x₀ :: L) = ev Φ sg (.lst q) (x₀ :: L) := mv_else _ (fun _ h => by cases h)
theorem evq_tup (q : Exs) (es : Exs) : evq Φ sg (.cons (.tup q) es) (x₀ :: L) = (ev Φ sg (.tup q) (x₀ :: L)).bind fun t L1 => (evq Φ sg es L1).bind fun ps L2 => .ok (.v t :: ps) L2 := evq_cons _ _ (fun _ h => by cases h) (fun _ _ h => by cases h)
theorem evo_tup (q : Exs) (u : Bool) (φ : Slots → Out T) : evo (.tup q) u φ (x₀ :: L) = (φ (x₀ :: L)).bind fun t L1 => .ok (.v t) L1 := evo_else _ _ _ (fun _ h => by cases h) (fun _ _ h => by cases h)
theorem mv_tup (q : Exs) : mv Φ sg (.tup q) (x₀ :: L) = ev Φ sg (.tup q) (x₀ :: L) := mv_else _ (fun _ h => by cases h)
theorem evq_dic (q r : Exs) (es : Exs) : evq Φ sg (.cons (.dic q r) es) (x₀ :: L) = (ev Φ sg (.dic q r) (x₀ :: L)).bind fun t L1 => (evq Φ sg es L1).bind fun ps L2 => .ok (.v t :: ps) L2 := evq_cons _ _ (fun _ h => by cases h) (fun _ _ h => by cases h)
theorem evo_dic (q r : Exs) (u : Bool) (φ : Slots → Out T) : evo (.dic q r) u φ (x₀ :: L) = (φ (x₀ :: L)).bind fun t L1 => .ok (.v t) L1 := evo_else _ _ _ (fun _ h => by cases h) (fun _ _ h => by cases h)
theorem mv_dic (q r : Exs) : mv Φ sg (.dic q r) (x₀ :: L) = ev Φ sg (.dic q r) (x₀ :: L) := mv_else _ (fun _ h => by cases h)
theorem mvr_dic (q r : Exs) : mvr Φ sg (.dic q r) (x₀ :: L) = ev Φ sg (.dic q r) (x₀ :: L) := mvr_else _ (fun _ h => by cases h) (fun _ h => by cases h) (fun _ h => by cases h)
theorem evq_dit0  (es : Exs) : evq Φ sg (.cons .dit0 es) (x₀ :: L) = (ev Φ sg .dit0 (x₀ :: L)).bind fun t L1 => (evq Φ sg es L1).bind fun ps L2 => .ok (.v t :: ps) L2 := evq_cons _ _ (fun _ h => by cases h) (fun _ _ h => by cases h)
theorem evo_dit0  (u : Bool) (φ : Slots → Out T) : evo .dit0 u φ (x₀ :: L) = (φ (x₀ :: L)).bind fun t L1 => .ok (.v t) L1 := evo_else _ _ _ (fun _ h => by cases h) (fun _ _ h => by cases h)
theorem mv_dit0  : mv Φ sg .dit0 (x₀ :: L) = ev Φ sg .dit0 (x₀ :: L) := mv_else _ (fun _ h => by cases h)
theorem mvr_dit0  : mvr Φ sg .dit0 (x₀ :: L) = ev Φ sg .dit0 (x₀ :: L) := mvr_else _ (fun _ h => by cases h) (fun _ h => by cases h) (fun _ h => by cases h)
theorem evq_call (f : String) (q : Exs) (es : Exs) : evq Φ sg (.cons (.call f q) es) (x₀ :: L) = (ev Φ sg (.call f q) (x₀ :: L)).bind fun t L1 => (evq Φ sg es L1).bind fun ps L2 => .ok (.v t :: ps) L2 := evq_cons _ _ (fun _ h => by cases h) (fun _ _ h => by cases h)
theorem evo_call (f : String) (q : Exs) (u : Bool) (φ : Slots → Out T) : evo (.call f q) u φ (x₀ :: L) = (φ (x₀ :: L)).bind fun t L1 => .ok (.v t) L1 := evo_else _ _ _ (fun _ h => by cases h) (fun _ _ h => by cases h)
theorem mv_call (f : String) (q : Exs) : mv Φ sg (.call f q) (x₀ :: L) = ev Φ sg (.call f q) (x₀ :: L) := mv_else _ (fun _ h => by cases h)
theorem mvr_call (f : String) (q : Exs) : mvr Φ sg (.call f q) (x₀ :: L) = ev Φ sg (.call f q) (x₀ :: L) := mvr_else _ (fun _ h => by cases h) (fun _ h => by cases h) (fun _ h => by cases h)
theorem evq_and (a b : Ex) (es : Exs) : evq Φ sg (.cons (.and a b) es) (x₀ :: L) = (ev Φ sg (.and a b) (x₀ :: L)).bind fun t L1 => (evq Φ sg es L1).bind fun ps L2 => .ok (.v t :: ps) L2 := evq_cons _ _ (fun _ h => by cases h) (fun _ _ h => by cases h)
theorem evo_and (a b : Ex) (u : Bool) (φ : Slots → Out T) : evo (.and a b) u φ (x₀ :: L) = (φ (x₀ :: L)).bind fun t L1 => .ok (.v t) L1 := evo_else _ _ _ (fun _ h => by cases h) (fun _ _ h => by cases h)
theorem mv_and (a b : Ex) : mv Φ sg (.and a b) (x₀ :: L) = ev Φ sg (.and a b) (x₀ :: L) := mv_else _ (fun _ h => by cases h)
theorem mvr_and (a b : Ex) : mvr Φ sg (.and a b) (x₀ :: L) = ev Φ sg (.and a b) (x₀ :: L) := mvr_else _ (fun _ h => by cases h) (fun _ h => by cases h) (fun _ h => by cases h)
theorem evq_or (a b : Ex) (es : Exs) : evq Φ sg (.cons (.or a b) es) (x₀ :: L) = (ev Φ sg (.or a b) (x₀ :: L)).bind fun t L1 => (evq Φ sg es L1).bind fun ps L2 => .ok (.v t :: ps) L2 := evq_cons _ _ (fun _ h => by cases h) (fun _ _ h => by cases h)
theorem evo_or (a b : Ex) (u : Bool) (φ : Slots → Out T) : evo (.or a b) u φ (x₀ :: L) = (φ (x₀ :: L)).bind fun t L1 => .ok (.v t) L1 := evo_else _ _ _ (fun _ h => by cases h) (fun _ _ h => by cases h)
theorem mv_or (a b : Ex) : mv Φ sg (.or a b) (x₀ :: L) = ev Φ sg (.or a b) (x₀ :: L) := mv_else _ (fun _ h => by cases h)
theorem mvr_or (a b : Ex) : mvr Φ sg (.or a b) (x₀ :: L) = ev Φ sg (.or a b) (x₀ :: L) := mvr_else _ (fun _ h => by cases h) (fun _ h => by cases h) (fun _ h => by cases h)
theorem evq_not (a : Ex) (es : Exs) : evq Φ sg (.cons (.not a) es) (x₀ :: L) = (ev Φ sg (.not a) (x₀ :: L)).bind fun t L1 => (evq Φ sg es L1).bind fun ps L2 => .ok (.v t :: ps) L2 := evq_cons _ _ (fun _ h => by cases h) (fun _ _ h => by cases h)
theorem evo_not (a : Ex) (u : Bool) (φ : Slots → Out T) : evo (.not a) u φ (x₀ :: L) = (φ (x₀ :: L)).bind fun t L1 => .ok (.v t) L1 := evo_else _ _ _ (fun _ h => by cases h) (fun _ _ h => by cases h)
theorem mv_not (a : Ex) : mv Φ sg (.not a) (x₀ :: L) = ev Φ sg (.not a) (x₀ :: L) := mv_else _ (fun _ h => by cases h)
theorem mvr_not (a : Ex) : mvr Φ sg (.not a) (x₀ :: L) = ev Φ sg (.not a) (x₀ :: L) := mvr_else _ (fun _ h => by cases h) (fun _ h => by cases h) (fun _ h => by cases h)
theorem evq_ite (c a b : Ex) (es : Exs) : evq Φ sg (.cons (.ite c a b) es) (x₀ :: L) = (ev Φ sg (.ite c a b) (x₀ :: L)).bind fun t L1 => (evq Φ sg es L1).bind fun ps L2 => .ok (.v t :: ps) L2 := evq_cons _ _ (fun _ h => by cases h) (fun _ _ h => by cases h)
theorem evo_ite (c a b : Ex) (u : Bool) (φ : Slots → Out T) : evo (.ite c a b) u φ (x₀ :: L) = (φ (x₀ :: L)).bind fun t L1 => .ok (.v t) L1 := evo_else _ _ _ (fun _ h => by cases h) (fun _ _ h => by cases h)
theorem mv_ite (c a b : Ex) : mv Φ sg (.ite c a b) (x₀ :: L) = ev Φ sg (.ite c a b) (x₀ :: L) := mv_else _ (fun _ h => by cases h)
theorem mvr_ite (c a b : Ex) : mvr Φ sg (.ite c a b) (x₀ :: L) = ev Φ sg (.ite c a b) (x₀ :: L) := mvr_else _ (fun _ h => by cases h) (fun _ h => by cases h) (fun _ h => by cases h)
theorem evq_chain (o p : CmpOp) (a b c : Ex) (es : Exs) : evq Φ sg (.cons (.chain o p a b c) es) (x₀ :: L) = (ev Φ sg (.chain o p a b c) (x₀ :: L)).bind fun t L1 => (evq Φ sg es L1).bind fun ps L2 => .ok (.v t :: ps) L2 := evq_cons _ _ (fun _ h => by cases h) (fun _ _ h => by cases h)
theorem evo_chain (o p : CmpOp) (a b c : Ex) (u : Bool) (φ : Slots → Out T) : evo (.chain o p a b c) u φ (x₀ :: L) = (φ (x₀ :: L)).bind fun t L1 => .ok (.v t) L1 := evo_else _ _ _ (fun _ h => by cases h) (fun _ _ h => by cases h)
theorem mv_chain (o p : CmpOp) (a b c : Ex) : mv Φ sg (.chain o p a b c) (x₀ :: L) = ev Φ sg (.chain o p a b c) (x₀ :: L) := mv_else _ (fun _ h => by cases h)
theorem mvr_chain (o p : CmpOp) (a b c : Ex) : mvr Φ sg (.chain o p a b c) (x₀ :: L) = ev Φ sg (.chain o p a b c) (x₀ :: L) := mvr_else _ (fun _ h => by cases h) (fun _ h => by cases h) (fun _ h => by cases h)
theorem evq_comp (e : Ex) (t : Tg) (i : Itr) (c : Exs) (es : Exs) : evq Φ sg (.cons (.comp e t i c) es) (x₀ :: L) = (ev Φ sg (.comp e t i c) (x₀ :: L)).bind fun t L1 => (evq Φ sg es L1).bind fun ps L2 => .ok (.v t :: ps) L2 := evq_cons _ _ (fun _ h => by cases h) (fun _ _ h => by cases h)
theorem evo_comp (e : Ex) (t : Tg) (i : Itr) (c : Exs) (u : Bool) (φ : Slots → Out T) : evo (.comp e t i c) u φ (x₀ :: L) = (φ (x₀ :: L)).bind fun t L1 => .ok (.v t) L1 := evo_else _ _ _ (fun _ h => by cases h) (fun _ _ h => by cases h)
theorem mv_comp (e : Ex) (t : Tg) (i : Itr) (c : Exs) : mv Φ sg (.comp e t i c) (x₀ :: L) = ev Φ sg (.comp e t i c) (x₀ :: L) := mv_else _ (fun _ h => by cases h)
theorem mvr_comp (e : Ex) (t : Tg) (i : Itr) (c : Exs) : mvr Φ sg (.comp e t i c) (x₀ :: L) = ev Φ sg (.comp e t i c) (x₀ :: L) := mvr_else _ (fun _ h => by cases h) (fun _ h => by cases h) (fun _ h => by cases h)
theorem evq_srtk (a : Ex) (f : String) (es : Exs) : evq Φ sg (.cons (.srtk a f) es) (x₀ :: L) = (ev Φ sg (.srtk a f) (x₀ :: L)).bind fun t L1 => (evq Φ sg es L1).bind fun ps L2 => .ok (.v t :: ps) L2 := evq_cons _ _ (fun _ h => by cases h) (fun _ _ h => by cases h)
theorem evo_srtk (a : Ex) (f : String) (u : Bool) (φ : Slots → Out T) : evo (.srtk a f) u φ (x₀ :: L) = (φ (x₀ :: L)).bind fun t L1 => .ok (.v t) L1 := evo_else _ _ _ (fun _ h => by cases h) (fun _ _ h => by cases h)
theorem mv_srtk (a : Ex) (f : String) : mv Φ sg (.srtk a f) (x₀ :: L) = ev Φ sg (.srtk a f) (x₀ :: L) := mv_else _ (fun _ h => by cases h)
theorem mvr_srtk (a : Ex) (f : String) : mvr Φ sg (.srtk a f) (x₀ :: L) = ev Φ sg (.srtk a f) (x₀ :: L) := mvr_else _ (fun _ h => by cases h) (fun _ h => by cases h) (fun _ h => by cases h)
theorem evq_pop (i : Nat) (ks : List Int) (q : Exs) (es : Exs) : evq Φ sg (.cons (.pop i ks q) es) (x₀ :: L) = (ev Φ sg (.pop i ks q) (x₀ :: L)).bind fun t L1 => (evq Φ sg es L1).bind fun ps L2 => .ok (.v t :: ps) L2 := evq_cons _ _ (fun _ h => by cases h) (fun _ _ h => by cases h)
theorem evo_pop (i : Nat) (ks : List Int) (q : Exs) (u : Bool) (φ : Slots → Out T) : evo (.pop i ks q) u φ (x₀ :: L) = (φ (x₀ :: L)).bind fun t L1 => .ok (.v t) L1 := evo_else _ _ _ (fun _ h => by cases h) (fun _ _ h => by cases h)
theorem mv_pop (i : Nat) (ks : List Int) (q : Exs) : mv Φ sg (.pop i ks q) (x₀ :: L) = ev Φ sg (.pop i ks q) (x₀ :: L) := mv_else _ (fun _ h => by cases h)
theorem mvr_pop (i : Nat) (ks : List Int) (q : Exs) : mvr Φ sg (.pop i ks q) (x₀ :: L) = ev Φ sg (.pop i ks q) (x₀ :: L) := mvr_else _ (fun _ h => by cases h) (fun _ h => by cases h) (fun _ h => by cases h)
theorem mv_pth (i : Nat) (ks : List Int) : mv Φ sg (.pth i ks) (x₀ :: L) = ev Φ sg (.pth i ks) (x₀ :: L) := mv_else _ (fun _ h => by cases h)
theorem mvr_pth (i : Nat) (ks : List Int) : mvr Φ sg (.pth i ks) (x₀ :: L) = ev Φ sg (.pth i ks) (x₀ :: L) := mvr_else _ (fun _ h => by cases h) (fun _ h => by cases h) (fun _ h => by cases h)
/-! loops -/
theorem wx_for {ent : T → Slots → Option Slots} {body : Slots → Out Fl} {γ : Type} {Q : Fl → Slots → Prop} (enc : γ → T) (as : List γ) (I : List γ → Slots → Prop) (h0 : I [] L)
    (hs : ∀ pre a post L, as = pre ++ a :: post → I pre L → ∃ L1, ent (enc a) L = some L1 ∧ wx (body L1) fun f L2 => match f with | .nx => I (pre ++ [a]) L2 | .ct => I (pre ++ [a]) L2 | .bk => Q .nx L2 | .rt r => Q (.rt r) L2)
    (he : ∀ L, I as L → Q .nx L) : wx (forRun ent body (as.map enc) L) Q := by
  have key : ∀ (post pre : List γ) (L : Slots), as = pre ++ post → I pre L → wx (forRun ent body (post.map enc) L) Q := by
    intro post
    induction post with
    | nil => intro pre L e i; rw [List.append_nil] at e; subst e; exact ⟨.nx, L, rfl, he L i⟩
    | cons a post ih =>
      intro pre L e i
      obtain ⟨L1, e1, f, L2, e2, q⟩ := hs pre a post L e i
      have go : I (pre ++ [a]) L2 → wx (forRun ent body (post.map enc) L2) Q := ih (pre ++ [a]) L2 (by rw [e]; simp)
      simp only [List.map_cons, forRun, e1, onO_some, e2, Out.bind_ok]
      cases f with
      | nx => exact go q
      | ct => exact go q
      | bk => exact ⟨_, _, rfl, q⟩
      | rt r => exact ⟨_, _, rfl, q⟩
  exact key as [] L rfl h0
theorem wx_whl {c : Slots → Out Bool} {body : Slots → Out Fl} {Q : Fl → Slots → Prop} (I : Nat → Slots → Prop) {n : Nat} (m : Nat) (hm : m < n) (h0 : I m L)
    (hs : ∀ m L, I m L → wx (c L) fun b L1 => if b then wx (body L1) fun f L2 => match f with | .nx => ∃ m', m' < m ∧ I m' L2 | .ct => ∃ m', m' < m ∧ I m' L2 | .bk => Q .nx L2 | .rt r => Q (.rt r) L2 else Q .nx L1) : wx (whlRun c body n L) Q := by
  induction n generalizing m L with
  | zero => omega
  | succ n ih =>
    obtain ⟨b, L1, e1, q⟩ := hs m L h0
    show wx ((c L).bind _) Q
    rw [e1, Out.bind_ok]
    cases b with
    | false => exact ⟨_, _, rfl, q⟩
    | true =>
      obtain ⟨f, L2, e2, q⟩ := q
      show wx ((body L1).bind _) Q
      rw [e2, Out.bind_ok]
      cases f with
      | nx => obtain ⟨m', h, i⟩ := q; exact ih m' (by omega) i
      | ct => obtain ⟨m', h, i⟩ := q; exact ih m' (by omega) i
      | bk => exact ⟨_, _, rfl, q⟩
      | rt r => exact ⟨_, _, rfl, q⟩
/-- a comprehension whose turns change but the walked slot -/
theorem comp_run {ent : T → Slots → Option Slots} {cond : Slots → Out Bool} {elt : Slots → Out T} {γ : Type} (enc : γ → T) (p : γ → Bool) (g : γ → T) (E : γ → Slots) (as : List γ) (X : Slots → Prop) (h0 : X L)
    (he : ∀ a ∈ as, ∀ L, X L → ent (enc a) L = some (E a)) (hx : ∀ a ∈ as, X (E a)) (hc : ∀ a ∈ as, cond (E a) = .ok (p a) (E a)) (hg : ∀ a ∈ as, p a = true → elt (E a) = .ok (g a) (E a)) :
    ∃ L', compRun ent cond elt (as.map enc) L = .ok ((as.filter p).map g) L' ∧ X L' := by
  induction as generalizing L with
  | nil => exact ⟨L, rfl, h0⟩
  | cons a as ih =>
    obtain ⟨L', e, x⟩ := ih (hx a List.mem_cons_self) (fun b hb => he b (List.mem_cons_of_mem _ hb)) (fun b hb => hx b (List.mem_cons_of_mem _ hb)) (fun b hb => hc b (List.mem_cons_of_mem _ hb)) (fun b hb => hg b (List.mem_cons_of_mem _ hb))
    refine ⟨L', ?_, x⟩
    simp only [List.map_cons, compRun, he a List.mem_cons_self L h0, onO_some, hc a List.mem_cons_self, noErr_ok]
    cases hp : p a with
    | false => simp only [cB_f, e, List.filter_cons, hp, Bool.false_eq_true, if_false]
    | true => simp only [cB_t, hg a List.mem_cons_self hp, noErr_ok, e, List.filter_cons, hp, if_true, List.map_cons]
/-- by one name -/
theorem wx_comp1 {cond : Slots → Out Bool} {elt : Slots → Out T} {γ : Type} {Q : List T → Slots → Prop} (enc : γ → T) (p : γ → Bool) (g : γ → T) (as : List γ) {j : Nat}
    (hc : ∀ a ∈ as, cond (L.set j (some (enc a))) = .ok (p a) (L.set j (some (enc a)))) (hg : ∀ a ∈ as, p a = true → elt (L.set j (some (enc a))) = .ok (g a) (L.set j (some (enc a))))
    (hq : ∀ y, Q ((as.filter p).map g) (L.set j y)) : wx (compRun (entT (.one j)) cond elt (as.map enc) (L.set j none)) Q := by
  obtain ⟨L', e, y, rfl⟩ := comp_run (ent := entT (.one j)) (cond := cond) (elt := elt) (L := L.set j none) enc p g (fun a => L.set j (some (enc a))) as (fun L' => ∃ y, L' = L.set j y) ⟨_, rfl⟩
    (fun a _ L' ⟨y, e⟩ => by subst e; show some _ = _; rw [List.set_set]) (fun a _ => ⟨_, rfl⟩) hc hg
  exact ⟨_, _, e, hq y⟩
theorem filter_tt {γ : Type} (xs : List γ) : xs.filter (fun _ => true) = xs := List.filter_eq_self.mpr fun _ _ => rfl
theorem wx_compA {cond : Slots → Out Bool} {elt : Slots → Out T} {γ : Type} {Q : List T → Slots → Prop} (enc : γ → T) (p : γ → Bool) (g : γ → T) {as : List γ} {j : Nat} (hj : L.set j none = L)
    (hc : ∀ a ∈ as, cond (L.set j (some (enc a))) = .ok (p a) (L.set j (some (enc a)))) (hg : ∀ a ∈ as, p a = true → elt (L.set j (some (enc a))) = .ok (g a) (L.set j (some (enc a))))
    (hq : ∀ y, Q ((as.filter p).map g) (L.set j y)) : wx (compRun (entT (.one j)) cond elt (as.map enc) L) Q := by
  have := wx_comp1 (L := L) (cond := cond) (elt := elt) (Q := Q) enc p g as hc hg hq
  rw [hj] at this; exact this
/-- no condition -/
theorem wx_compT {sg' : String → List Bool} {elt : Slots → Out T} {γ : Type} {Q : List T → Slots → Prop} (enc : γ → T) (g : γ → T) {as : List γ} {j : Nat} (hj : (x₀ :: L).set j none = x₀ :: L) (hne : ∀ x, ∃ y L', (x₀ :: L).set j x = y :: L')
    (hg : ∀ a ∈ as, elt ((x₀ :: L).set j (some (enc a))) = .ok (g a) ((x₀ :: L).set j (some (enc a))))
    (hq : ∀ y, Q (as.map g) ((x₀ :: L).set j y)) : wx (compRun (entT (.one j)) (evt Φ sg' .nil) elt (as.map enc) (x₀ :: L)) Q :=
  wx_compA enc (fun _ => true) g hj (fun a _ => by obtain ⟨y, L', e⟩ := hne (some (enc a)); rw [e]; rfl) (fun a ha _ => hg a ha) (by rw [filter_tt]; exact hq)
/-- a comprehension by an invariant over what is made and the slots -/
theorem wx_compN {ent : T → Slots → Option Slots} {cond : Slots → Out Bool} {elt : Slots → Out T} {γ : Type} {Q : List T → Slots → Prop} (enc : γ → T) (as : List γ) (I : List γ → List T → Slots → Prop) (h0 : I [] [] L)
    (hs : ∀ pre a post ys L, as = pre ++ a :: post → I pre ys L → ∃ L1, ent (enc a) L = some L1 ∧ wx (cond L1) fun b L2 => (b = true → wx (elt L2) fun t L3 => I (pre ++ [a]) (ys ++ [t]) L3) ∧ (b = false → I (pre ++ [a]) ys L2))
    (he : ∀ ys L, I as ys L → Q ys L) : wx (compRun ent cond elt (as.map enc) L) Q := by
  have key : ∀ (post pre : List γ) (ys : List T) (L : Slots), as = pre ++ post → I pre ys L → wx (compRun ent cond elt (post.map enc) L) fun zs L' => I as (ys ++ zs) L' := by
    intro post
    induction post with
    | nil => intro pre ys L e i; rw [List.append_nil] at e; subst e; exact ⟨[], L, rfl, by show I as (ys ++ []) L; rw [List.append_nil]; exact i⟩
    | cons a post ih =>
      intro pre ys L e i
      obtain ⟨L1, e1, b, L2, e2, q1, q2⟩ := hs pre a post ys L e i
      have e' : as = (pre ++ [a]) ++ post := by rw [e]; simp
      show wx (onO (ent (enc a) L) _) _
      rw [e1, onO_some, e2, noErr_ok]
      cases b with
      | true =>
        obtain ⟨t, L3, e3, q⟩ := q1 rfl
        rw [cB_t, e3, noErr_ok, wx_noErr]
        refine wx_mono (ih _ _ L3 e' q) fun zs L' i => ?_
        rw [wx_ok]
        show I as (ys ++ t :: zs) L'
        rw [List.append_assoc] at i; exact i
      | false =>
        rw [cB_f]
        exact ih _ _ L2 e' (q2 rfl)
  refine wx_mono (key as [] [] L rfl h0) fun zs L' i => he _ _ i
theorem wx_forT {ent : T → Slots → Option Slots} {body : Slots → Out Fl} {Q : Fl → Slots → Prop} {as : List T} (I : List T → Slots → Prop) (h0 : I [] L)
    (hs : ∀ pre a post L, as = pre ++ a :: post → I pre L → ∃ L1, ent a L = some L1 ∧ wx (body L1) fun f L2 => match f with | .nx => I (pre ++ [a]) L2 | .ct => I (pre ++ [a]) L2 | .bk => Q .nx L2 | .rt r => Q (.rt r) L2)
    (he : ∀ L, I as L → Q .nx L) : wx (forRun ent body as L) Q := by
  have := wx_for (ent := ent) (body := body) (Q := Q) (id : T → T) as I h0 hs he
  rwa [List.map_id] at this
end
end TV

set_option Elab.async false
set_option linter.all false
set_option maxRecDepth 100000
set_option maxHeartbeats 4000000
/-! TW2: operations, by kinds. -/
namespace TV
open PySem PySem.Spec PyProof.Rows L2
section
variable {α β : Type} {L : Slots}
theorem isLkd_non : isLkd .non = false := rfl
theorem isOwn_non : isOwn .non = false := rfl
theorem isLkd_bl (b : Bool) : isLkd (.bl b) = false := rfl
theorem isOwn_bl (b : Bool) : isOwn (.bl b) = false := rfl
theorem isLkd_int (b : Int) : isLkd (.int b) = false := rfl
theorem isOwn_int (b : Int) : isOwn (.int b) = false := rfl
theorem isLkd_str (b : Str) : isLkd (.str b) = false := rfl
theorem isOwn_str (b : Str) : isOwn (.str b) = false := rfl
theorem isLkd_lst (o : Bool) (xs : List T) : isLkd (.lst o xs) = false := rfl
theorem isOwn_lst (o : Bool) (xs : List T) : isOwn (.lst o xs) = o := rfl
theorem isLkd_tup (o : Bool) (xs : List T) : isLkd (.tup o xs) = false := rfl
theorem isOwn_tup (o : Bool) (xs : List T) : isOwn (.tup o xs) = o := rfl
theorem isLkd_dic (o : Bool) (ks : List Key) (xs : List T) : isLkd (.dic o ks xs) = false := rfl
theorem isOwn_dic (o : Bool) (ks : List Key) (xs : List T) : isOwn (.dic o ks xs) = o := rfl
theorem isLkd_dit (o : Bool) (ks : List (List Key)) (xs : List T) : isLkd (.dit o ks xs) = false := rfl
theorem isOwn_dit (o : Bool) (ks : List (List Key)) (xs : List T) : isOwn (.dit o ks xs) = o := rfl
theorem isLkd_lkd (ks : List Key) (xs : List T) : isLkd (.lkd ks xs) = true := rfl
theorem isOwn_lkd (ks : List Key) (xs : List T) : isOwn (.lkd ks xs) = true := rfl
theorem isLkd_scr (ns : List Int) : isLkd (.scr ns) = false := rfl
theorem isOwn_scr (ns : List Int) : isOwn (.scr ns) = false := rfl
theorem bits_le {x : Int} {m : Nat} (h : x.natAbs < 2 ^ m) : bits x ≤ m := by
  unfold bits Builtin.Int.intBits
  by_cases h0 : x = 0
  · simp [h0]
  · have h1 : x.natAbs ≠ 0 := by omega
    have h2 : x.natAbs.log2 < m := (Nat.log2_lt h1).mpr h
    have h3 : (x == 0) = false := by simpa using h0
    rw [h3]
    exact h2
def MulOk (i j : Int) : Prop := bits i + bits j ≤ 134217728
theorem MulOk.of {i j : Int} (m : Nat) (h1 : i.natAbs < 2 ^ m) (h2 : j.natAbs < 2 ^ m) (hm : m ≤ 1000000 := by decide) : MulOk i j := by
  have := bits_le h1
  have := bits_le h2
  show _ ≤ _
  omega
theorem bAdd (i j : Int) : binS .Add (.int i) (.int j) = some (.int (i + j)) := rfl
theorem bSub (i j : Int) : binS .Sub (.int i) (.int j) = some (.int (i - j)) := rfl
theorem bMul_h {i j : Int} (h : MulOk i j) : binS .Mult (.int i) (.int j) = some (.int (i * j)) := if_pos h
theorem bMul {i j : Int} (h1 : -18446744073709551616 < i) (h2 : i < 18446744073709551616) (h3 : -18446744073709551616 < j) (h4 : j < 18446744073709551616) : binS .Mult (.int i) (.int j) = some (.int (i * j)) :=
  bMul_h (.of 64 (by omega) (by omega))
def DivOk (j : Int) : Prop := 0 < j ∧ j.natAbs.log2 < 9000
theorem bDiv_h {i j : Int} (h : DivOk j) : binS .FloorDiv (.int i) (.int j) = some (.int (i / j)) := if_pos h
theorem bDiv {i j : Int} (h : 0 < j) (h2 : j < 18446744073709551616) : binS .FloorDiv (.int i) (.int j) = some (.int (i / j)) :=
  bDiv_h ⟨h, by
    have : j.natAbs.log2 < 64 := (Nat.log2_lt (by omega)).mpr (by omega)
    omega⟩
theorem bMod {i j : Int} (h : 0 < j) : binS .Mod (.int i) (.int j) = some (.int (i % j)) := if_pos h
theorem bPow {i j : Int} (h : 0 ≤ j) (h2 : j ≤ 1000000) (h3 : -18446744073709551616 < i) (h4 : i < 18446744073709551616) : binS .Pow (.int i) (.int j) = some (.int (i ^ j.toNat)) := if_pos ⟨h, h2, by omega⟩
theorem bShl {i j : Int} (h : 0 ≤ j) (h2 : j ≤ 1000000) (h3 : -18446744073709551616 < i) (h4 : i < 18446744073709551616) : binS .LShift (.int i) (.int j) = some (.int (i * 2 ^ j.toNat)) := if_pos ⟨h, by
  have := bits_le (x := i) (m := 64) (by omega)
  omega⟩
theorem bShr {i j : Int} (h : 0 ≤ j) : binS .RShift (.int i) (.int j) = some (.int (i / 2 ^ j.toNat)) := if_pos h
theorem bAnd (i j : Int) : binS .BitAnd (.int i) (.int j) = some (.int (Builtin.bitAnd i j)) := rfl
theorem bOr (i j : Int) : binS .BitOr (.int i) (.int j) = some (.int (Builtin.bitOr i j)) := rfl
theorem bXor (i j : Int) : binS .BitXor (.int i) (.int j) = some (.int (Builtin.bitXor i j)) := rfl
theorem bSAdd {x y : Str} (h : x.length + y.length ≤ 16777216) : binS .Add (.str x) (.str y) = some (.str (x ++ y)) := if_pos (LINE_eq ▸ h)
theorem bSMul {x : Str} {k : Int} (h : 0 ≤ k) (h2 : k ≤ 1000) (h3 : x.length ≤ 1000) : binS .Mult (.str x) (.int k) = some (.str ⟨((List.replicate k.toNat x.cps.toList).flatten).toArray⟩) := if_pos ⟨h, h2, h3⟩
theorem cEq_i (i j : Int) : cmpS .Eq (.int i) (.int j) = some (.bl (decide (i = j))) := by
  show some (T.bl (i == j)) = _
  congr 2
theorem cEq_s (i j : Str) : cmpS .Eq (.str i) (.str j) = some (.bl (decide (i = j))) := by
  show some (T.bl (i == j)) = _
  congr 2
theorem cEq_b (i j : Bool) : cmpS .Eq (.bl i) (.bl j) = some (.bl (i == j)) := rfl
theorem cNe_i (i j : Int) : cmpS .NotEq (.int i) (.int j) = some (.bl (!decide (i = j))) := by
  show some (T.bl (!(i == j))) = _
  congr 2
theorem cNe_s (i j : Str) : cmpS .NotEq (.str i) (.str j) = some (.bl (!decide (i = j))) := by
  show some (T.bl (!(i == j))) = _
  congr 2
theorem cEq_go {a b : T} (h1 : dep a ≤ 60) (h2 : dep b ≤ 60) : cmpS .Eq a b = some (.bl (eqT a b)) := by
  show (eqS a b).map T.bl = _
  unfold eqS; rw [if_pos ⟨h1, h2⟩]; rfl
theorem cNe_go {a b : T} (h1 : dep a ≤ 60) (h2 : dep b ≤ 60) : cmpS .NotEq a b = some (.bl (!eqT a b)) := by
  show (eqS a b).map (fun r => T.bl !r) = _
  unfold eqS; rw [if_pos ⟨h1, h2⟩]; rfl
theorem cLt_i (i j : Int) : cmpS .Lt (.int i) (.int j) = some (.bl (decide (i < j))) := rfl
theorem cLe_i (i j : Int) : cmpS .LtE (.int i) (.int j) = some (.bl (decide (i ≤ j))) := rfl
theorem cGt_i (i j : Int) : cmpS .Gt (.int i) (.int j) = some (.bl (decide (j < i))) := rfl
theorem cGe_i (i j : Int) : cmpS .GtE (.int i) (.int j) = some (.bl (decide (j ≤ i))) := rfl
theorem cLt_s (i j : Str) : cmpS .Lt (.str i) (.str j) = some (.bl (strLt i j)) := rfl
theorem cLe_s (i j : Str) : cmpS .LtE (.str i) (.str j) = some (.bl !(strLt j i)) := rfl
theorem cGt_s (i j : Str) : cmpS .Gt (.str i) (.str j) = some (.bl (strLt j i)) := rfl
theorem cGe_s (i j : Str) : cmpS .GtE (.str i) (.str j) = some (.bl !(strLt i j)) := rfl
theorem cIs_n (a : T) : cmpS .Is a .non = some (.bl (isNon a)) := rfl
theorem cIsN_n (a : T) : cmpS .IsNot a .non = some (.bl !(isNon a)) := rfl
theorem cIn_L {o : Bool} {a : T} {xs : List T} (h1 : dep a ≤ 60) (h2 : deps xs ≤ 59) : cmpS .In a (.lst o xs) = some (.bl (xs.any fun z => eqT z a)) := by
  show (if _ then _ else _ : Option Bool).map T.bl = _; rw [if_pos ⟨h1, h2⟩]; rfl
theorem cNin_L {o : Bool} {a : T} {xs : List T} (h1 : dep a ≤ 60) (h2 : deps xs ≤ 59) : cmpS .NotIn a (.lst o xs) = some (.bl !(xs.any fun z => eqT z a)) := by
  show (if _ then _ else _ : Option Bool).map (fun r => T.bl !r) = _; rw [if_pos ⟨h1, h2⟩]; rfl
-- how deep
theorem dep_lst {o : Bool} {xs : List T} {n : Nat} (h : deps xs ≤ n) : dep (.lst o xs) ≤ n + 1 := by rw [dep]; omega
theorem dep_s (s : Str) (n : Nat) : dep (.str s) ≤ n := Nat.zero_le _
theorem dep_i (s : Int) (n : Nat) : dep (.int s) ≤ n := Nat.zero_le _
theorem dep_b (s : Bool) (n : Nat) : dep (.bl s) ≤ n := Nat.zero_le _
theorem dep_n (n : Nat) : dep .non ≤ n := Nat.zero_le _
theorem dep_tup {o : Bool} {xs : List T} {n : Nat} (h : deps xs ≤ n) : dep (.tup o xs) ≤ n + 1 := by rw [dep]; omega
theorem deps_map {γ : Type} {f : γ → T} {n : Nat} : ∀ {xs : List γ}, (∀ x ∈ xs, dep (f x) ≤ n) → deps (xs.map f) ≤ n
  | [], _ => Nat.zero_le _
  | x :: xs, h => by
    rw [List.map_cons, deps]
    exact Nat.max_le.mpr ⟨h x List.mem_cons_self, deps_map fun y hy => h y (List.mem_cons_of_mem _ hy)⟩
theorem deps_str (xs : List Str) (n : Nat) : deps (xs.map T.str) ≤ n := deps_map fun _ _ => Nat.zero_le _
theorem deps_int (xs : List Int) (n : Nat) : deps (xs.map T.int) ≤ n := deps_map fun _ _ => Nat.zero_le _
theorem deps_bl (xs : List Bool) (n : Nat) : deps (xs.map T.bl) ≤ n := deps_map fun _ _ => Nat.zero_le _
theorem deps_nil (n : Nat) : deps [] ≤ n := Nat.zero_le _
theorem deps_cons {x : T} {xs : List T} {n : Nat} (h1 : dep x ≤ n) (h2 : deps xs ≤ n) : deps (x :: xs) ≤ n := by rw [deps]; exact Nat.max_le.mpr ⟨h1, h2⟩
theorem deps_app {xs ys : List T} {n : Nat} (h1 : deps xs ≤ n) (h2 : deps ys ≤ n) : deps (xs ++ ys) ≤ n := by
  induction xs with
  | nil => exact h2
  | cons x xs ih =>
    rw [deps] at h1
    have := Nat.max_le.mp h1
    exact deps_cons this.1 (ih this.2)
theorem dep_lst2 {o : Bool} {xs : List T} {m : Nat} (h : deps xs ≤ m - 1) (hm : 1 ≤ m) : dep (.lst o xs) ≤ m := by rw [dep]; omega
theorem dep_tup2 {o : Bool} {xs : List T} {m : Nat} (h : deps xs ≤ m - 1) (hm : 1 ≤ m) : dep (.tup o xs) ≤ m := by rw [dep]; omega
-- equal
theorem eqT_int (i j : Int) : eqT (.int i) (.int j) = decide (i = j) := by
  show (i == j) = _; rfl
theorem eqT_str (i j : Str) : eqT (.str i) (.str j) = decide (i = j) := by
  show (i == j) = _; rfl
theorem eqT_bl (i j : Bool) : eqT (.bl i) (.bl j) = (i == j) := rfl
theorem entT_two {L : Slots} (i j : Nat) (o : Bool) (x y : T) : entT (.many [i, j]) (.tup o [x, y]) L = some ((L.set i (some x)).set j (some y)) := rfl
theorem entT_three {L : Slots} (i j k : Nat) (o : Bool) (x y z : T) : entT (.many [i, j, k]) (.tup o [x, y, z]) L = some (((L.set i (some x)).set j (some y)).set k (some z)) := rfl
theorem eqT_lst (o p : Bool) (xs ys : List T) : eqT (.lst o xs) (.lst p ys) = eqTs xs ys := rfl
theorem eqT_tup (o p : Bool) (xs ys : List T) : eqT (.tup o xs) (.tup p ys) = eqTs xs ys := rfl
theorem eqTs_nil : eqTs [] [] = true := rfl
theorem eqTs_cons (x y : T) (xs ys : List T) : eqTs (x :: xs) (y :: ys) = (eqT x y && eqTs xs ys) := rfl
theorem eqTs_n1 (y : T) (ys : List T) : eqTs [] (y :: ys) = false := rfl
theorem eqTs_n2 (y : T) (ys : List T) : eqTs (y :: ys) [] = false := rfl
theorem eqTs_map {γ : Type} [DecidableEq γ] {f g : γ → T} (h : ∀ x y, eqT (f x) (g y) = decide (x = y)) : ∀ xs ys : List γ, eqTs (xs.map f) (ys.map g) = decide (xs = ys)
  | [], [] => rfl
  | [], y :: ys => by rw [List.map_cons, List.map_nil, eqTs_n1]; simp
  | x :: xs, [] => by rw [List.map_cons, List.map_nil, eqTs_n2]; simp
  | x :: xs, y :: ys => by rw [List.map_cons, List.map_cons, eqTs_cons, h, eqTs_map h xs ys]; simp
theorem eqTs_nilR {γ : Type} {f : γ → T} (xs : List γ) : eqTs (xs.map f) [] = xs.isEmpty := by cases xs <;> rfl
theorem eqTs_str (xs ys : List Str) : eqTs (xs.map T.str) (ys.map T.str) = decide (xs = ys) := eqTs_map eqT_str xs ys
theorem eqTs_int (xs ys : List Int) : eqTs (xs.map T.int) (ys.map T.int) = decide (xs = ys) := eqTs_map eqT_int xs ys
/-- a row of names, many rows -/
abbrev sL (o : Bool) (xs : List Str) : T := .lst o (xs.map T.str)
abbrev sLL (o p : Bool) (xs : List (List Str)) : T := .lst o (xs.map fun r => T.lst p (r.map T.str))
theorem eqTs_rows (o p : Bool) (xs ys : List (List Str)) : eqTs (xs.map fun r => T.lst o (r.map T.str)) (ys.map fun r => T.lst p (r.map T.str)) = decide (xs = ys) :=
  eqTs_map (fun x y => by rw [eqT_lst, eqTs_str]) xs ys
theorem deps_rows (o : Bool) (xs : List (List Str)) (n : Nat) (h : 1 ≤ n) : deps (xs.map fun r => T.lst o (r.map T.str)) ≤ n :=
  deps_map fun x _ => Nat.le_trans (dep_lst (n := 0) (deps_str x 0)) h
theorem frz_dit (o : Bool) (ks : List (List Key)) (xs : List T) : frz (.dit o ks xs) = .dit false ks (frzs xs) := by rw [frz]
theorem frzs_rows (o : Bool) (xs : List (List Str)) : frzs (xs.map fun r => T.lst o (r.map T.str)) = xs.map fun r => T.lst false (r.map T.str) := by
  rw [frzs_map, List.map_map]; congr 1; funext r; show frz _ = _; rw [frz_lst, frzs_str]
theorem shrs_rows (xs : List (List Str)) : shrs (xs.map fun r => T.lst false (r.map T.str)) = true := by
  rw [shrs_all, List.all_map]; simp [shr, shrs_str]
theorem clns_rows (xs : List (List Str)) : clns (xs.map fun r => T.lst true (r.map T.str)) = true := by
  rw [clns_all, List.all_map]; simp [cln, clns_str]
theorem any_str (xs : List Str) (a : Str) : (xs.map T.str).any (fun z => eqT z (.str a)) = decide (a ∈ xs) := by
  induction xs with
  | nil => rfl
  | cons x xs ih =>
    rw [List.map_cons, List.any_cons, ih, eqT_str, Bool.eq_iff_iff, Bool.or_eq_true, decide_eq_true_eq, decide_eq_true_eq, decide_eq_true_eq, List.mem_cons, eq_comm]
theorem frzs_app (xs ys : List T) : frzs (xs ++ ys) = frzs xs ++ frzs ys := by rw [frzs_map, frzs_map, frzs_map, List.map_append]
theorem shrs_app (xs ys : List T) : shrs (xs ++ ys) = (shrs xs && shrs ys) := by rw [shrs_all, shrs_all, shrs_all, List.all_append]
theorem clns_app (xs ys : List T) : clns (xs ++ ys) = (clns xs && clns ys) := by rw [clns_all, clns_all, clns_all, List.all_append]
-- items
theorem ixN_nn {n : Nat} {j : Int} (h : 0 ≤ j) (h2 : j < n) : ixN n j = some j.toNat := by unfold ixN; rw [if_pos h, if_pos h2]
theorem ixN_neg {n : Nat} {j : Int} (h : j < 0) (h2 : 0 ≤ j + n) : ixN n j = some (j + n).toNat := by
  unfold ixN; rw [if_neg (by omega), if_pos (by omega)]
theorem get_map {γ : Type} (f : γ → T) (xs : List γ) (n : Nat) : (xs.map f)[n]? = xs[n]?.map f := List.getElem?_map
theorem idxL_go {p : Opd} {xs : List T} {j : Int} {n : Nat} {x : T} (h : ixN xs.length j = some n) (h2 : xs[n]? = some x) (h3 : isOwn x = false) : idxL p xs j L = some (x, L) := by
  unfold idxL; rw [h, obind_some, h2, obind_some]; unfold itemAt
  cases p with
  | v _ => rfl
  | s i ks => show (if isOwn x then _ else _) = _; rw [h3]; rfl
/-- an item of what is not held, of scalars -/
theorem idxL_str {p : Opd} {xs : List Str} {j : Int} {n : Nat} (h : ixN xs.length j = some n) (h2 : n < xs.length) : idxL p (xs.map T.str) j L = some (.str (xs.getD n default), L) :=
  idxL_go (n := n) (by rw [List.length_map]; exact h) (by rw [List.getElem?_map, List.getElem?_eq_getElem h2, List.getD_eq_getElem?_getD, List.getElem?_eq_getElem h2]; rfl) rfl
theorem idxL_strn {p : Opd} {xs : List Str} {j : Int} (h : 0 ≤ j) (h2 : j < xs.length) : idxL p (xs.map T.str) j L = some (.str (xs.getD j.toNat default), L) := idxL_str (ixN_nn h h2) (by omega)
theorem idxL_intn {p : Opd} {xs : List Int} {j : Int} (h : 0 ≤ j) (h2 : j < xs.length) : idxL p (xs.map T.int) j L = some (.int (xs.getD j.toNat 0), L) :=
  idxL_go (n := j.toNat) (by rw [List.length_map]; exact ixN_nn h h2) (by rw [List.getElem?_map, List.getD_eq_getElem?_getD, List.getElem?_eq_getElem (by omega)]; rfl) rfl
theorem idxL_row {p : Opd} {xs : List (List Str)} {j : Int} (h : 0 ≤ j) (h2 : j < xs.length) : idxL p (xs.map fun r => T.lst false (r.map T.str)) j L = some (.lst false ((xs.getD j.toNat []).map T.str), L) :=
  idxL_go (n := j.toNat) (by rw [List.length_map]; exact ixN_nn h h2) (by rw [List.getElem?_map, List.getD_eq_getElem?_getD, List.getElem?_eq_getElem (by omega)]; rfl) rfl
theorem cutT_hi {xs : List T} {j : Int} (h : 0 ≤ j) : cutT xs none (some j) = xs.take j.toNat := by
  unfold cutT
  have e : HT.sIx xs.length xs.length (some j) = min j.toNat xs.length := by show (if j < 0 then _ else _) = _; rw [if_neg (by omega)]
  rw [e, show HT.sIx xs.length 0 none = 0 from rfl, List.drop_zero, Nat.sub_zero]
  by_cases h2 : j.toNat ≤ xs.length
  · rw [Nat.min_eq_left h2]
  · rw [Nat.min_eq_right (by omega), List.take_of_length_le (by omega), List.take_of_length_le (by omega)]
theorem cutT_lo {xs : List T} {j : Int} (h : 0 ≤ j) : cutT xs (some j) none = xs.drop j.toNat := by
  unfold cutT
  have e : HT.sIx xs.length 0 (some j) = min j.toNat xs.length := by show (if j < 0 then _ else _) = _; rw [if_neg (by omega)]
  rw [e, show HT.sIx xs.length xs.length none = xs.length from rfl]
  by_cases h2 : j.toNat ≤ xs.length
  · rw [Nat.min_eq_left h2, List.take_of_length_le (by rw [List.length_drop]; omega)]
  · rw [Nat.min_eq_right (by omega), List.drop_eq_nil_of_le (Nat.le_refl _), List.drop_eq_nil_of_le (by omega)]; simp
theorem take_map {γ δ : Type} (f : γ → δ) (n : Nat) (xs : List γ) : (xs.map f).take n = (xs.take n).map f := List.map_take.symm
theorem drop_map {γ δ : Type} (f : γ → δ) (n : Nat) (xs : List γ) : (xs.map f).drop n = (xs.drop n).map f := List.map_drop.symm
theorem atI_nn {xs : List Int} {j : Int} (h : 0 ≤ j) (h2 : j < xs.length) : atI xs j = some (xs.getD j.toNat 0) := by
  unfold atI; rw [ixN_nn h h2, obind_some, List.getD_eq_getElem?_getD, List.getElem?_eq_getElem (by omega)]; rfl
/-- one number, held -/
theorem idxL_one {p : Opd} {x : Int} : idxL p [.int x] 0 L = some (.int x, L) := idxL_go (n := 0) rfl rfl rfl
theorem sub_one {x y : Int} : updT (subT (.int 0) (.int y)) [] (.lst true [.int x]) = some (.lst true [.int y]) := rfl
theorem signAt_nn {s : Str} {j : Int} (h : s.length ≤ 16777216) (h1 : 0 ≤ j) (h2 : j < s.cps.toList.length) : signAt s j = some (.str ⟨#[s.cps.toList.getD j.toNat 0]⟩) := by
  unfold signAt; rw [if_pos (LINE_eq ▸ h)]; unfold atI; rw [ixN_nn h1 h2, obind_some, List.getD_eq_getElem?_getD, List.getElem?_eq_getElem (by omega)]; rfl
theorem rng_n {n : Int} (h : n ≤ 16777216) (h2 : -4611686018427387904 ≤ n) : rngRun [.int n] = some ((List.range n.toNat).map fun k : Nat => T.int k) := by
  unfold rngRun; simp only []
  rw [if_pos ⟨LINE_eq ▸ h, by unfold big; rw [decide_eq_true_eq]; omega⟩]; unfold rngT; congr 2; funext k; congr 1; omega
theorem rng_ab {a b : Int} (h : b - a ≤ 16777216) (h1 : -4611686018427387904 ≤ a) (h2 : a < 4611686018427387904) (h3 : -4611686018427387904 ≤ b) (h4 : b < 4611686018427387904) : rngRun [.int a, .int b] = some ((List.range (b - a).toNat).map fun k : Nat => T.int (a + k)) := by
  unfold rngRun; simp only []
  rw [if_pos ⟨LINE_eq ▸ h, by unfold big; rw [decide_eq_true_eq]; omega, by unfold big; rw [decide_eq_true_eq]; omega⟩]; rfl
theorem lenS_l (o : Bool) (xs : List T) : lenS (.lst o xs) = some (.int xs.length) := rfl
theorem lenS_t (o : Bool) (xs : List T) : lenS (.tup o xs) = some (.int xs.length) := rfl
theorem lenS_scr (xs : List Int) : lenS (.scr xs) = some (.int xs.length) := rfl
theorem lenS_d (o : Bool) (ks : List Key) (xs : List T) : lenS (.dic o ks xs) = some (.int ks.length) := rfl
theorem lenS_s {s : Str} (h : s.length ≤ 16777216) : lenS (.str s) = some (.int s.length) := if_pos (LINE_eq ▸ h)
theorem isiS_str (n : String) (h : n = "str" ∨ n = "list" ∨ n = "tuple" ∨ n = "bool" ∨ n = "dict") (s : Str) : isiS n (.str s) = some (.bl (decide (n = "str"))) := by
  unfold isiS; rw [if_pos h]; show some (T.bl (decide ("str" = n))) = _; congr 2; simp [eq_comm]
theorem opK_catT (a b : Bool) (xs ys : List T) (p q : Opd) : opK (.bin .Add) [.tup a xs, .tup b ys] [p, q] L = catTRun p q L := rfl
theorem opK_listT (o : Bool) (xs : List T) (p : Opd) : opK .list [.tup o xs] [p] L = (kidT p L).map fun r => (.lst true r.1, r.2) := rfl
theorem opK_srtset (o : Bool) (xs : List T) (p : Opd) : opK .sortset [.lst o xs] [p] L = sortSetL p L := rfl
def kidTs (i : Nat) (L : Slots) (t : Option T) : Option (List T × Slots) :=
  match t with
  | some (.tup true xs) => some (frzs xs, L.set i (some (.tup true (frzs xs))))
  | some (.tup false xs) => some (xs, L)
  | _ => none
theorem kidT_v (o : Bool) (xs : List T) : kidT (.v (.tup o xs)) L = some (xs, L) := rfl
theorem kidT_s (i : Nat) : kidT (.s i []) L = kidTs i L (slot L i) := rfl
theorem kidTs_t (i : Nat) (xs : List T) : kidTs i L (some (.tup true xs)) = some (frzs xs, L.set i (some (.tup true (frzs xs)))) := rfl
theorem kidTs_f (i : Nat) (xs : List T) : kidTs i L (some (.tup false xs)) = some (xs, L) := rfl
theorem opK_tupl (o : Bool) (xs : List T) (p : Opd) : opK .tuple [.lst o xs] [p] L = (kidL p L).map fun r => (.tup true r.1, r.2) := rfl
theorem opK_lrng1 (b : Int) (ps : List Opd) : opK .lrng [.int b] ps L = rgRun 0 b L := rfl
theorem opK_lrng2 (a b : Int) (ps : List Opd) : opK .lrng [.int a, .int b] ps L = rgRun a b L := rfl
theorem opK_sortd (o : Bool) (xs : List T) (p : Opd) : opK .sorted [.lst o xs] [p] L = sortL p L := rfl
theorem itStr_ss (i : Nat) : itStr (.s i []) L = match slot L i with | some (.str s) => some (signs s, L, none) | _ => none := by
  unfold itStr; rw [rd_s] <;> (rcases slot L i with _ | t <;> first | rfl | (cases t <;> rfl))
theorem outS_nil (L : Slots) : outS [] L = some [] := by unfold outS; rfl
theorem finS_eq (ms : List Bool) (r : T) : finS ms r L = match outS ms L with | some outs => .ok r outs | none => .stuck := rfl
theorem big_no {n : Nat} (h : n ≤ 16777216) {x y : Out α} : (if 16777216 < n then x else y) = y := by rw [if_neg]; omega
theorem big_w {xs : List T} (h : xs.length ≤ 16777216) {x y : Out α} : (if LINE < xs.length then x else y) = y := by rw [if_neg]; rw [LINE_eq]; omega
end
end TV

set_option Elab.async false
set_option linter.all false
set_option maxRecDepth 100000
set_option maxHeartbeats 4000000

namespace D
open PySem PySem.Spec PyProof.Rows L2 TV
/-! wood: 0=net 1=heap_of 2=found 3=name 4=one 5=other 6=here 7=there 8=point -/
def c_wood_1 : Ex := (.var 8)
def c_wood_1i : Exs := (.cons (.op (.cmp .Eq) (.cons (.op .idx (.cons (.var 1) (.cons (.var 8) .nil))) (.cons (.var 7) .nil))) .nil)
def b_wood_2 : Sms := (.cons (.sub 1 [] (.var 8) (.var 6)) .nil)
def b_wood_1 : Sms := (.cons (.set 6 (.op .get (.cons (.var 1) (.cons (.var 4) (.cons (.var 4) .nil))))) (.cons (.set 7 (.op .get (.cons (.var 1) (.cons (.var 5) (.cons (.var 5) .nil))))) (.cons (.iff (.op (.cmp .NotEq) (.cons (.var 6) (.cons (.var 7) .nil))) (.cons (.mut 2 [] .append (.cons (.var 3) .nil)) (.cons (.for_ (.one 8) (.seq .L false (.comp c_wood_1 (.one 8) (.seq .K true (.var 1)) c_wood_1i)) b_wood_2) (.cons (.sub 1 [] (.var 4) (.var 6)) (.cons (.sub 1 [] (.var 5) (.var 6)) .nil)))) .nil) .nil)))
def b_wood : Sms := (.cons (.set 1 (.dic .nil .nil)) (.cons (.set 2 (.lst .nil)) (.cons (.for_ (.many [3, 4, 5]) (.seq .L false (.var 0)) b_wood_1) (.cons (.ret (.var 2)) .nil))))
abbrev H_wood (tb : Tbl) := Has tb "wood" 1 9 [] b_wood
/-! points: 0=net 1=tie -/
def c_points_1 : Ex := (.op .idx (.cons (.var 1) (.cons (.cst (.int 1)) .nil)))
def c_points_1i : Exs := .nil
def c_points_2 : Ex := (.op .idx (.cons (.var 1) (.cons (.cst (.int 2)) .nil)))
def c_points_2i : Exs := .nil
def b_points : Sms := (.cons (.ret (.op .sortset (.cons (.op (.bin .Add) (.cons (.comp c_points_1 (.one 1) (.seq .L false (.var 0)) c_points_1i) (.cons (.comp c_points_2 (.one 1) (.seq .L false (.var 0)) c_points_2i) .nil))) .nil))) .nil)
abbrev H_points (tb : Tbl) := Has tb "points" 1 2 [] b_points
/-! heaps_of: 0=net 1=names 2=heaps 3=name 4=one 5=other 6=joined 7=others 8=heap -/
def b_heaps_of_2 : Sms := (.cons (.iff (.or (.op (.cmp .In) (.cons (.var 4) (.cons (.op .idx (.cons (.var 8) (.cons (.cst (.int 0)) .nil))) .nil))) (.op (.cmp .In) (.cons (.var 5) (.cons (.op .idx (.cons (.var 8) (.cons (.cst (.int 0)) .nil))) .nil)))) (.cons (.set 6 (.lst (.cons (.op (.bin .Add) (.cons (.op .idx (.cons (.var 6) (.cons (.cst (.int 0)) .nil))) (.cons (.op .idx (.cons (.var 8) (.cons (.cst (.int 0)) .nil))) .nil))) (.cons (.op (.bin .Add) (.cons (.op .idx (.cons (.var 8) (.cons (.cst (.int 1)) .nil))) (.cons (.op .idx (.cons (.var 6) (.cons (.cst (.int 1)) .nil))) .nil))) .nil)))) .nil) (.cons (.mut 7 [] .append (.cons (.var 8) .nil)) .nil)) .nil)
def b_heaps_of_1 : Sms := (.cons (.iff (.op (.cmp .In) (.cons (.var 3) (.cons (.var 1) .nil))) (.cons (.set 6 (.lst (.cons (.lst (.cons (.var 4) (.cons (.var 5) .nil))) (.cons (.lst (.cons (.var 3) .nil)) .nil)))) (.cons (.set 7 (.lst .nil)) (.cons (.for_ (.one 8) (.seq .L false (.var 2)) b_heaps_of_2) (.cons (.set 2 (.op (.bin .Add) (.cons (.var 7) (.cons (.lst (.cons (.var 6) .nil)) .nil)))) .nil)))) .nil) .nil)
def b_heaps_of : Sms := (.cons (.set 2 (.lst .nil)) (.cons (.for_ (.many [3, 4, 5]) (.seq .L false (.var 0)) b_heaps_of_1) (.cons (.ret (.var 2)) .nil)))
abbrev H_heaps_of (tb : Tbl) := Has tb "heaps_of" 2 9 [] b_heaps_of
/-! pieces: 0=net 1=names 2=tie 3=heap -/
def c_pieces_1 : Ex := (.op .idx (.cons (.var 2) (.cons (.cst (.int 0)) .nil)))
def c_pieces_1i : Exs := .nil
def c_pieces_2 : Ex := (.op .sorted (.cons (.op .idx (.cons (.var 3) (.cons (.cst (.int 1)) .nil))) .nil))
def c_pieces_2i : Exs := .nil
def b_pieces : Sms := (.cons (.set 1 (.comp c_pieces_1 (.one 2) (.seq .L false (.var 0)) c_pieces_1i)) (.cons (.ret (.op .sorted (.cons (.comp c_pieces_2 (.one 3) (.seq .L false (.call "heaps_of" (.cons (.var 0) (.cons (.var 1) .nil)))) c_pieces_2i) .nil))) .nil))
abbrev H_pieces (tb : Tbl) := Has tb "pieces" 1 4 [] b_pieces
/-! _law_cell_at: 0=_law_script 1=_law_k -/
def b__law_cell_at : Sms := (.cons (.iff (.op (.cmp .Lt) (.cons (.var 1) (.cons (.op .len (.cons (.var 0) .nil)) .nil))) (.cons (.ret (.op .idx (.cons (.var 0) (.cons (.var 1) .nil)))) .nil) .nil) (.cons (.ret (.cst (.int 0))) .nil))
abbrev H__law_cell_at (tb : Tbl) := Has tb "_law_cell_at" 2 2 [] b__law_cell_at
/-! _law_big: 0=_law_script 1=_law_k 2=_law_x 3=_law_total 4=_law_j -/
def b__law_big_1 : Sms := (.cons (.set 2 (.op (.bin .Mod) (.cons (.op (.bin .Add) (.cons (.op (.bin .Add) (.cons (.op (.bin .Add) (.cons (.op (.bin .Mult) (.cons (.var 2) (.cons (.cst (.int 48271)) .nil))) (.cons (.op (.bin .FloorDiv) (.cons (.var 2) (.cons (.cst (.int 40692)) .nil))) .nil))) (.cons (.op (.bin .Mult) (.cons (.op (.bin .Mult) (.cons (.cst (.int 19)) (.cons (.var 4) .nil))) (.cons (.var 4) .nil))) .nil))) (.cons (.var 1) .nil))) (.cons (.cst (.int 2147483647)) .nil)))) (.cons (.set 3 (.op (.bin .Add) (.cons (.op (.bin .Mult) (.cons (.var 3) (.cons (.cst (.int 2147483647)) .nil))) (.cons (.op (.bin .Mod) (.cons (.op (.bin .Mult) (.cons (.var 2) (.cons (.cst (.int 69621)) .nil))) (.cons (.cst (.int 2147483629)) .nil))) .nil)))) .nil))
def b__law_big : Sms := (.cons (.iff (.op (.cmp .GtE) (.cons (.op .abs (.cons (.call "_law_cell_at" (.cons (.var 0) (.cons (.var 1) .nil))) .nil)) (.cons (.op (.bin .Pow) (.cons (.cst (.int 10)) (.cons (.cst (.int 18)) .nil))) .nil))) (.cons (.ret (.op (.bin .Sub) (.cons (.op .abs (.cons (.call "_law_cell_at" (.cons (.var 0) (.cons (.var 1) .nil))) .nil)) (.cons (.op (.bin .Pow) (.cons (.cst (.int 10)) (.cons (.cst (.int 18)) .nil))) .nil)))) .nil) .nil) (.cons (.set 2 (.op (.bin .Add) (.cons (.op (.bin .Add) (.cons (.op (.bin .Add) (.cons (.op (.bin .Mod) (.cons (.call "_law_cell_at" (.cons (.var 0) (.cons (.cst (.int 0)) .nil))) (.cons (.cst (.int 1000003)) .nil))) (.cons (.op (.bin .Mult) (.cons (.cst (.int 7919)) (.cons (.var 1) .nil))) .nil))) (.cons (.op (.bin .Mult) (.cons (.cst (.int 31)) (.cons (.call "_law_cell_at" (.cons (.var 0) (.cons (.var 1) .nil))) .nil))) .nil))) (.cons (.cst (.int 17)) .nil)))) (.cons (.set 2 (.op (.bin .Add) (.cons (.op (.bin .Mod) (.cons (.var 2) (.cons (.cst (.int 2147483629)) .nil))) (.cons (.cst (.int 11)) .nil)))) (.cons (.set 3 (.cst (.int 0))) (.cons (.for_ (.one 4) (.rng (.cons (.cst (.int 8)) .nil)) b__law_big_1) (.cons (.ret (.var 3)) .nil))))))
abbrev H__law_big (tb : Tbl) := Has tb "_law_big" 2 5 [] b__law_big
/-! _law_names_v3: 0=_law_big_here 1=_law_many 2=_law_signs 3=_law_word 4=_law_k 5=_law_spot 6=_law_first 7=_law_head 8=_law_tail -/
def b__law_names_v3_1 : Sms := (.cons (.set 3 (.op (.bin .Add) (.cons (.var 3) (.cons (.op .idx (.cons (.var 2) (.cons (.op (.bin .Mod) (.cons (.op (.bin .FloorDiv) (.cons (.var 0) (.cons (.cst (.int 6)) .nil))) (.cons (.cst (.int 36)) .nil))) .nil))) .nil)))) (.cons (.set 0 (.op (.bin .FloorDiv) (.cons (.var 0) (.cons (.cst (.int 36)) .nil)))) .nil))
def c__law_names_v3_1 : Ex := (.op (.bin .Add) (.cons (.op (.bin .Add) (.cons (.var 7) (.cons (.op .idx (.cons (.var 2) (.cons (.op (.bin .Mod) (.cons (.op (.bin .Add) (.cons (.var 6) (.cons (.op (.bin .Mult) (.cons (.cst (.int 7)) (.cons (.var 4) .nil))) .nil))) (.cons (.cst (.int 36)) .nil))) .nil))) .nil))) (.cons (.var 8) .nil)))
def c__law_names_v3_1i : Exs := .nil
def b__law_names_v3 : Sms := (.cons (.set 2 (.cst (.str "abcdefghijklmnopqrstuvwxyz0123456789"))) (.cons (.set 3 (.cst (.str ""))) (.cons (.for_ (.one 4) (.rng (.cons (.op (.bin .Add) (.cons (.cst (.int 1)) (.cons (.op (.bin .Mod) (.cons (.var 0) (.cons (.cst (.int 6)) .nil))) .nil))) .nil)) b__law_names_v3_1) (.cons (.set 5 (.op (.bin .Mod) (.cons (.op (.bin .FloorDiv) (.cons (.var 0) (.cons (.cst (.int 6)) .nil))) (.cons (.op .len (.cons (.var 3) .nil)) .nil)))) (.cons (.set 6 (.op (.bin .Mod) (.cons (.op (.bin .FloorDiv) (.cons (.var 0) (.cons (.cst (.int 216)) .nil))) (.cons (.cst (.int 36)) .nil)))) (.cons (.setm [7, 8] (.tup (.cons (.op (.slc false true) (.cons (.var 3) (.cons (.var 5) .nil))) (.cons (.op (.slc true false) (.cons (.var 3) (.cons (.op (.bin .Add) (.cons (.var 5) (.cons (.cst (.int 1)) .nil))) .nil))) .nil)))) (.cons (.ret (.comp c__law_names_v3_1 (.one 4) (.rng (.cons (.var 1) .nil)) c__law_names_v3_1i)) .nil)))))))
abbrev H__law_names_v3 (tb : Tbl) := Has tb "_law_names" 2 9 [] b__law_names_v3
/-! _law_ends: 0=_law_big_here 1=_law_many 2=_law_spread 3=_law_heaps 4=_law_found 5=_law_high 6=_law_k 7=_law_one 8=_law_other 9=_law_gone 10=_law_heap -/
def c__law_ends_1 : Ex := (.ite (.op (.cmp .Eq) (.cons (.var 10) (.cons (.var 9) .nil))) (.op .idx (.cons (.var 3) (.cons (.var 7) .nil))) (.var 10))
def c__law_ends_1i : Exs := .nil
def b__law_ends_1 : Sms := (.cons (.setm [7, 8] (.tup (.cons (.op (.bin .Mod) (.cons (.var 0) (.cons (.var 2) .nil))) (.cons (.op (.bin .Mod) (.cons (.op (.bin .FloorDiv) (.cons (.var 0) (.cons (.var 2) .nil))) (.cons (.var 2) .nil))) .nil)))) (.cons (.set 0 (.op (.bin .FloorDiv) (.cons (.op (.bin .FloorDiv) (.cons (.var 0) (.cons (.var 2) .nil))) (.cons (.var 2) .nil)))) (.cons (.iff (.and (.op (.cmp .Eq) (.cons (.op .idx (.cons (.var 3) (.cons (.var 7) .nil))) (.cons (.op .idx (.cons (.var 3) (.cons (.var 8) .nil))) .nil))) (.op (.cmp .Lt) (.cons (.op (.bin .Sub) (.cons (.op .len (.cons (.var 4) .nil)) (.cons (.var 5) .nil))) (.cons (.cst (.int 8)) .nil)))) (.cons (.mut 4 [] .append (.cons (.tup (.cons (.var 7) (.cons (.var 8) .nil))) .nil)) .nil) (.cons (.iff (.and (.op (.cmp .NotEq) (.cons (.op .idx (.cons (.var 3) (.cons (.var 7) .nil))) (.cons (.op .idx (.cons (.var 3) (.cons (.var 8) .nil))) .nil))) (.op (.cmp .Lt) (.cons (.var 5) (.cons (.cst (.int 8)) .nil)))) (.cons (.mut 4 [] .append (.cons (.tup (.cons (.var 7) (.cons (.var 8) .nil))) .nil)) (.cons (.aug 5 .Add (.cst (.int 1))) (.cons (.set 9 (.op .idx (.cons (.var 3) (.cons (.var 8) .nil)))) (.cons (.set 3 (.comp c__law_ends_1 (.one 10) (.seq .L true (.var 3)) c__law_ends_1i)) .nil)))) .nil) .nil)) .nil)))
def b__law_ends : Sms := (.cons (.set 3 (.op .lrng (.cons (.var 2) .nil))) (.cons (.set 4 (.lst .nil)) (.cons (.set 5 (.cst (.int 0))) (.cons (.for_ (.one 6) (.rng (.cons (.var 1) .nil)) b__law_ends_1) (.cons (.ret (.var 4)) .nil)))))
abbrev H__law_ends (tb : Tbl) := Has tb "_law_ends" 3 11 [] b__law_ends
/-! _law_net: 0=_law_script 1=_law_at 2=_law_head 3=_law_ends_here 4=_law_ties 5=_law_knots 6=_law_net_here 7=_law_tie 8=_law_two -/
def b__law_net_1 : Sms := (.cons (.mut 6 [] .append (.cons (.op (.bin .Add) (.cons (.tup (.cons (.var 7) .nil)) (.cons (.op .tuple (.cons (.op .sorted (.cons (.lst (.cons (.op .idx (.cons (.var 5) (.cons (.op .idx (.cons (.var 8) (.cons (.cst (.int 0)) .nil))) .nil))) (.cons (.op .idx (.cons (.var 5) (.cons (.op .idx (.cons (.var 8) (.cons (.cst (.int 1)) .nil))) .nil))) .nil))) .nil)) .nil)) .nil))) .nil)) .nil)
def b__law_net : Sms := (.cons (.set 2 (.call "_law_big" (.cons (.var 0) (.cons (.var 1) .nil)))) (.cons (.set 3 (.call "_law_ends" (.cons (.call "_law_big" (.cons (.var 0) (.cons (.op (.bin .Add) (.cons (.var 1) (.cons (.cst (.int 1)) .nil))) .nil))) (.cons (.op (.bin .Mod) (.cons (.op (.bin .FloorDiv) (.cons (.var 2) (.cons (.cst (.int 8)) .nil))) (.cons (.cst (.int 13)) .nil))) (.cons (.op .idx (.cons (.lst (.cons (.cst (.int 4)) (.cons (.cst (.int 5)) (.cons (.cst (.int 3)) (.cons (.cst (.int 6)) (.cons (.cst (.int 5)) (.cons (.cst (.int 9)) (.cons (.cst (.int 2)) (.cons (.cst (.int 10)) .nil))))))))) (.cons (.op (.bin .Mod) (.cons (.var 2) (.cons (.cst (.int 8)) .nil))) .nil))) .nil))))) (.cons (.set 4 (.call "_law_names" (.cons (.op (.bin .FloorDiv) (.cons (.var 2) (.cons (.cst (.int 104)) .nil))) (.cons (.op .len (.cons (.var 3) .nil)) .nil)))) (.cons (.set 5 (.call "_law_names" (.cons (.call "_law_big" (.cons (.var 0) (.cons (.op (.bin .Add) (.cons (.var 1) (.cons (.cst (.int 2)) .nil))) .nil))) (.cons (.cst (.int 10)) .nil)))) (.cons (.set 6 (.lst .nil)) (.cons (.for_ (.many [7, 8]) (.zip (.cons (.var 4) (.cons (.var 3) .nil))) b__law_net_1) (.cons (.ret (.op .sorted (.cons (.var 6) .nil))) .nil)))))))
abbrev H__law_net (tb : Tbl) := Has tb "_law_net" 2 9 [] b__law_net
/-! _law_wood: 0=_law_net_here 1=_law_found 2=_law_heaps 3=_law_name 4=_law_one 5=_law_other 6=_law_mine 7=_law_heap 8=_law_both -/
def c__law_wood_1 : Ex := (.var 7)
def c__law_wood_1i : Exs := (.cons (.or (.op (.cmp .In) (.cons (.var 4) (.cons (.var 7) .nil))) (.op (.cmp .In) (.cons (.var 5) (.cons (.var 7) .nil)))) .nil)
def c__law_wood_2 : Ex := (.and (.op (.cmp .In) (.cons (.var 4) (.cons (.var 7) .nil))) (.op (.cmp .In) (.cons (.var 5) (.cons (.var 7) .nil))))
def c__law_wood_2i : Exs := .nil
def b__law_wood_2 : Sms := (.cons (.set 8 (.op (.bin .Add) (.cons (.var 8) (.cons (.var 7) .nil)))) .nil)
def c__law_wood_3 : Ex := (.var 7)
def c__law_wood_3i : Exs := (.cons (.op (.cmp .NotIn) (.cons (.var 7) (.cons (.var 6) .nil))) .nil)
def b__law_wood_1 : Sms := (.cons (.set 6 (.comp c__law_wood_1 (.one 7) (.seq .L false (.var 2)) c__law_wood_1i)) (.cons (.iff (.or (.op (.cmp .Eq) (.cons (.var 4) (.cons (.var 5) .nil))) (.op .any (.cons (.comp c__law_wood_2 (.one 7) (.seq .L false (.var 6)) c__law_wood_2i) .nil))) (.cons .cnt .nil) .nil) (.cons (.mut 1 [] .append (.cons (.var 3) .nil)) (.cons (.set 8 (.lst (.cons (.var 4) (.cons (.var 5) .nil)))) (.cons (.for_ (.one 7) (.seq .L false (.var 6)) b__law_wood_2) (.cons (.set 2 (.op (.bin .Add) (.cons (.comp c__law_wood_3 (.one 7) (.seq .L false (.var 2)) c__law_wood_3i) (.cons (.lst (.cons (.var 8) .nil)) .nil)))) .nil))))))
def b__law_wood : Sms := (.cons (.set 1 (.lst .nil)) (.cons (.set 2 (.lst .nil)) (.cons (.for_ (.many [3, 4, 5]) (.seq .L false (.var 0)) b__law_wood_1) (.cons (.ret (.var 1)) .nil))))
abbrev H__law_wood (tb : Tbl) := Has tb "_law_wood" 1 9 [] b__law_wood
/-! law_v19: 0=_law_script 1=_law_net_here 2=_law_handed 3=_law_due 4=_law_k 5=_law_found -/
def b_law_v19_1 : Sms := (.cons (.set 5 (.call "wood" (.cons (.var 2) .nil))) (.cons (.iff (.or (.not (.op (.isi "list") (.cons (.var 5) .nil))) (.or (.op (.cmp .NotEq) (.cons (.var 5) (.cons (.var 3) .nil))) (.op (.cmp .NotEq) (.cons (.var 2) (.cons (.var 1) .nil))))) (.cons (.ret (.cst (.bl false))) .nil) .nil) (.cons (.iff (.op (.cmp .NotEq) (.cons (.op .len (.cons (.var 5) .nil)) (.cons (.op (.bin .Sub) (.cons (.op .len (.cons (.call "points" (.cons (.var 2) .nil)) .nil)) (.cons (.op .len (.cons (.call "pieces" (.cons (.var 2) .nil)) .nil)) .nil))) .nil))) (.cons (.ret (.cst (.bl false))) .nil) .nil) (.cons (.mut 5 [] .reverse .nil) (.cons (.mut 5 [] .append (.cons (.cst (.str "zz")) .nil)) .nil)))))
def b_law_v19 : Sms := (.cons (.set 1 (.call "_law_net" (.cons (.var 0) (.cons (.cst (.int 1)) .nil)))) (.cons (.set 2 (.op .list (.cons (.var 1) .nil))) (.cons (.set 3 (.call "_law_wood" (.cons (.var 1) .nil))) (.cons (.for_ (.one 4) (.rng (.cons (.cst (.int 2)) .nil)) b_law_v19_1) (.cons (.ret (.op (.cmp .Eq) (.cons (.var 2) (.cons (.var 1) .nil)))) .nil)))))
abbrev H_law_v19 (tb : Tbl) := Has tb "law" 1 6 [] b_law_v19
/-! summed: 0=rows 1=odd 2=row 3=name -/
def b_summed_2 : Sms := (.cons (.sub 1 [] (.var 3) (.not (.op .get (.cons (.var 1) (.cons (.var 3) (.cons (.cst (.bl false)) .nil)))))) .nil)
def b_summed_1 : Sms := (.cons (.for_ (.one 3) (.seq .L false (.var 2)) b_summed_2) .nil)
def c_summed_1 : Ex := (.var 3)
def c_summed_1i : Exs := (.cons (.op .idx (.cons (.var 1) (.cons (.var 3) .nil))) .nil)
def b_summed : Sms := (.cons (.set 1 (.dic .nil .nil)) (.cons (.for_ (.one 2) (.seq .L false (.var 0)) b_summed_1) (.cons (.ret (.op .sorted (.cons (.comp c_summed_1 (.one 3) (.seq .K true (.var 1)) c_summed_1i) .nil))) .nil)))
abbrev H_summed (tb : Tbl) := Has tb "summed" 1 4 [] b_summed
/-! meets_evenly: 0=one 1=other 2=name -/
def c_meets_evenly_1 : Ex := (.var 2)
def c_meets_evenly_1i : Exs := (.cons (.op (.cmp .In) (.cons (.var 2) (.cons (.var 1) .nil))) .nil)
def b_meets_evenly : Sms := (.cons (.ret (.op (.cmp .Eq) (.cons (.op (.bin .Mod) (.cons (.op .len (.cons (.comp c_meets_evenly_1 (.one 2) (.seq .L false (.var 0)) c_meets_evenly_1i) .nil)) (.cons (.cst (.int 2)) .nil))) (.cons (.cst (.int 0)) .nil)))) .nil)
abbrev H_meets_evenly (tb : Tbl) := Has tb "meets_evenly" 2 3 [] b_meets_evenly
/-! _law_purse: 0=_law_script 1=_law_at 2=_law_cell 3=_law_come 4=_law_k 5=_law_one 6=_law_mixed -/
def b__law_purse_1 : Sms := (.cons (.set 5 (.op (.bin .Add) (.cons (.op (.bin .Add) (.cons (.op (.bin .Add) (.cons (.op (.bin .Mod) (.cons (.call "_law_cell_at" (.cons (.var 0) (.cons (.op (.bin .Add) (.cons (.var 1) (.cons (.op (.bin .Mod) (.cons (.var 4) (.cons (.cst (.int 9)) .nil))) .nil))) .nil))) (.cons (.op (.bin .Pow) (.cons (.cst (.int 10)) (.cons (.cst (.int 18)) .nil))) .nil))) (.cons (.cst (.int 1)) .nil))) (.cons (.op (.bin .Mult) (.cons (.op (.bin .Mult) (.cons (.cst (.int 131)) (.cons (.var 4) .nil))) (.cons (.var 4) .nil))) .nil))) (.cons (.op (.bin .Mult) (.cons (.cst (.int 17)) (.cons (.var 1) .nil))) .nil)))) (.cons (.set 6 (.op (.bin .Mod) (.cons (.op (.bin .Mult) (.cons (.var 5) (.cons (.cst (.int 48271)) .nil))) (.cons (.cst (.int 2147483647)) .nil)))) (.cons (.set 3 (.op (.bin .Add) (.cons (.op (.bin .Mult) (.cons (.var 3) (.cons (.cst (.int 9973)) .nil))) (.cons (.op (.bin .Mod) (.cons (.op (.bin .Add) (.cons (.op (.bin .Mod) (.cons (.op (.bin .Mult) (.cons (.var 6) (.cons (.var 6) .nil))) (.cons (.cst (.int 2147483629)) .nil))) (.cons (.op (.bin .FloorDiv) (.cons (.var 5) (.cons (.cst (.int 7)) .nil))) .nil))) (.cons (.cst (.int 9973)) .nil))) .nil)))) .nil)))
def b__law_purse : Sms := (.cons (.set 2 (.call "_law_cell_at" (.cons (.var 0) (.cons (.var 1) .nil)))) (.cons (.iff (.op (.cmp .GtE) (.cons (.var 2) (.cons (.op (.bin .Pow) (.cons (.cst (.int 10)) (.cons (.cst (.int 18)) .nil))) .nil))) (.cons (.ret (.lst (.cons (.var 2) .nil))) .nil) .nil) (.cons (.set 3 (.cst (.int 0))) (.cons (.for_ (.one 4) (.rng (.cons (.cst (.int 60)) .nil)) b__law_purse_1) (.cons (.ret (.lst (.cons (.var 3) .nil))) .nil)))))
abbrev H__law_purse (tb : Tbl) := Has tb "_law_purse" 2 7 [] b__law_purse
/-! _law_take: 0=_law_draw 1=_law_many 2=_law_digit -/
def b__law_take : Sms := (.cons (.set 2 (.op (.bin .Mod) (.cons (.op .idx (.cons (.var 0) (.cons (.cst (.int 0)) .nil))) (.cons (.var 1) .nil)))) (.cons (.sub 0 [] (.cst (.int 0)) (.op (.bin .FloorDiv) (.cons (.op .idx (.cons (.var 0) (.cons (.cst (.int 0)) .nil))) (.cons (.var 1) .nil)))) (.cons (.ret (.var 2)) .nil)))
abbrev H__law_take (tb : Tbl) := Has tb "_law_take" 2 3 [true] b__law_take
/-! _law_names: 0=_law_draw 1=_law_many 2=_law_signs 3=_law_size 4=_law_spot 5=_law_word 6=_law_k 7=_law_first 8=_law_found 9=_law_one 10=_law_other -/
def b__law_names_1 : Sms := (.cons (.set 5 (.op (.bin .Add) (.cons (.var 5) (.cons (.op .idx (.cons (.var 2) (.cons (.call "_law_take" (.cons (.var 0) (.cons (.cst (.int 36)) .nil))) .nil))) .nil)))) .nil)
def c__law_names_1 : Ex := (.op (.bin .Add) (.cons (.op (.bin .Add) (.cons (.op (.slc false true) (.cons (.var 5) (.cons (.var 4) .nil))) (.cons (.op .idx (.cons (.var 2) (.cons (.op (.bin .Mod) (.cons (.op (.bin .Add) (.cons (.var 7) (.cons (.op (.bin .Mult) (.cons (.cst (.int 7)) (.cons (.var 6) .nil))) .nil))) (.cons (.cst (.int 36)) .nil))) .nil))) .nil))) (.cons (.op (.slc true false) (.cons (.var 5) (.cons (.op (.bin .Add) (.cons (.var 4) (.cons (.cst (.int 1)) .nil))) .nil))) .nil)))
def c__law_names_1i : Exs := .nil
def c__law_names_2 : Ex := (.op (.bin .Mult) (.cons (.var 9) (.cons (.op (.bin .Add) (.cons (.cst (.int 1)) (.cons (.var 6) .nil))) .nil)))
def c__law_names_2i : Exs := .nil
def c__law_names_3 : Ex := (.op (.bin .Add) (.cons (.op (.bin .Mult) (.cons (.var 9) (.cons (.op (.bin .Sub) (.cons (.var 6) (.cons (.cst (.int 6)) .nil))) .nil))) (.cons (.var 10) .nil)))
def c__law_names_3i : Exs := .nil
def b__law_names : Sms := (.cons (.set 2 (.cst (.str "abcdefghijklmnopqrstuvwxyz0123456789"))) (.cons (.set 3 (.op (.bin .Add) (.cons (.cst (.int 1)) (.cons (.call "_law_take" (.cons (.var 0) (.cons (.cst (.int 6)) .nil))) .nil)))) (.cons (.set 4 (.call "_law_take" (.cons (.var 0) (.cons (.var 3) .nil)))) (.cons (.set 5 (.cst (.str ""))) (.cons (.for_ (.one 6) (.rng (.cons (.var 3) .nil)) b__law_names_1) (.cons (.set 7 (.call "_law_take" (.cons (.var 0) (.cons (.cst (.int 36)) .nil)))) (.cons (.set 8 (.comp c__law_names_1 (.one 6) (.rng (.cons (.var 1) .nil)) c__law_names_1i)) (.cons (.iff (.op (.cmp .Eq) (.cons (.call "_law_take" (.cons (.var 0) (.cons (.cst (.int 3)) .nil))) (.cons (.cst (.int 0)) .nil))) (.cons (.set 9 (.op .idx (.cons (.var 2) (.cons (.var 7) .nil)))) (.cons (.set 10 (.op .idx (.cons (.var 2) (.cons (.op (.bin .Mod) (.cons (.op (.bin .Add) (.cons (.var 7) (.cons (.cst (.int 1)) .nil))) (.cons (.cst (.int 36)) .nil))) .nil)))) (.cons (.set 8 (.comp c__law_names_2 (.one 6) (.rng (.cons (.op .min (.cons (.var 1) (.cons (.cst (.int 6)) .nil))) .nil)) c__law_names_2i)) (.cons (.set 8 (.op (.bin .Add) (.cons (.var 8) (.cons (.comp c__law_names_3 (.one 6) (.rng (.cons (.cst (.int 6)) (.cons (.var 1) .nil))) c__law_names_3i) .nil)))) .nil)))) .nil) (.cons (.ret (.op .sorted (.cons (.var 8) .nil))) .nil)))))))))
abbrev H__law_names (tb : Tbl) := Has tb "_law_names" 2 11 [true] b__law_names
/-! _law_row: 0=_law_names_here 1=_law_mask 2=_law_k -/
def c__law_row_1 : Ex := (.op .idx (.cons (.var 0) (.cons (.var 2) .nil)))
def c__law_row_1i : Exs := (.cons (.op (.cmp .Eq) (.cons (.op (.bin .BitAnd) (.cons (.op (.bin .RShift) (.cons (.var 1) (.cons (.var 2) .nil))) (.cons (.cst (.int 1)) .nil))) (.cons (.cst (.int 1)) .nil))) .nil)
def b__law_row : Sms := (.cons (.ret (.comp c__law_row_1 (.one 2) (.rng (.cons (.op .len (.cons (.var 0) .nil)) .nil)) c__law_row_1i)) .nil)
abbrev H__law_row (tb : Tbl) := Has tb "_law_row" 2 3 [] b__law_row
/-! _law_says: 0=_law_found 1=_law_due -/
def b__law_says : Sms := (.cons (.ret (.and (.op (.isi "bool") (.cons (.var 0) .nil)) (.op (.cmp .Eq) (.cons (.var 0) (.cons (.var 1) .nil))))) .nil)
abbrev H__law_says (tb : Tbl) := Has tb "_law_says" 2 2 [] b__law_says
/-! _law_rows_good: 0=_law_found 1=_law_due 2=_law_row_here 3=_law_name -/
def c__law_rows_good_1 : Ex := (.var 3)
def c__law_rows_good_1i : Exs := (.cons (.not (.op (.isi "str") (.cons (.var 3) .nil))) .nil)
def b__law_rows_good_1 : Sms := (.cons (.iff (.or (.not (.op (.isi "list") (.cons (.var 2) .nil))) (.op (.cmp .NotEq) (.cons (.comp c__law_rows_good_1 (.one 3) (.seq .L false (.var 2)) c__law_rows_good_1i) (.cons (.lst .nil) .nil)))) (.cons (.ret (.cst (.bl false))) .nil) .nil) .nil)
def b__law_rows_good : Sms := (.cons (.iff (.or (.not (.op (.isi "list") (.cons (.var 0) .nil))) (.op (.cmp .NotEq) (.cons (.var 0) (.cons (.var 1) .nil)))) (.cons (.ret (.cst (.bl false))) .nil) .nil) (.cons (.for_ (.one 2) (.seq .L false (.var 0)) b__law_rows_good_1) (.cons (.ret (.cst (.bl true))) .nil)))
abbrev H__law_rows_good (tb : Tbl) := Has tb "_law_rows_good" 2 4 [] b__law_rows_good
/-! law_v2: 0=_law_script 1=_law_draw 2=_law_names_here 3=_law_rows 4=_law_k 5=_law_due 6=_law_name 7=_law_row_here 8=_law_handed 9=_law_turn 10=_law_found 11=_law_both -/
def b_law_v2_1 : Sms := (.cons (.mut 3 [] .append (.cons (.call "_law_row" (.cons (.var 2) (.cons (.call "_law_take" (.cons (.var 1) (.cons (.op (.bin .LShift) (.cons (.cst (.int 1)) (.cons (.op .len (.cons (.var 2) .nil)) .nil))) .nil))) .nil))) .nil)) .nil)
def c_law_v2_2 : Ex := (.var 7)
def c_law_v2_2i : Exs := (.cons (.op (.cmp .In) (.cons (.var 6) (.cons (.var 7) .nil))) .nil)
def c_law_v2_1 : Ex := (.var 6)
def c_law_v2_1i : Exs := (.cons (.op (.cmp .Eq) (.cons (.op (.bin .Mod) (.cons (.op .len (.cons (.comp c_law_v2_2 (.one 7) (.seq .L false (.var 3)) c_law_v2_2i) .nil)) (.cons (.cst (.int 2)) .nil))) (.cons (.cst (.int 1)) .nil))) .nil)
def c_law_v2_3 : Ex := (.op .list (.cons (.var 7) .nil))
def c_law_v2_3i : Exs := .nil
def b_law_v2_2 : Sms := (.cons (.set 10 (.call "summed" (.cons (.var 8) .nil))) (.cons (.iff (.or (.not (.lend "_law_rows_good" [(true, 10), (true, 5)])) (.op (.cmp .NotEq) (.cons (.var 8) (.cons (.var 3) .nil)))) (.cons (.ret (.cst (.bl false))) .nil) .nil) (.cons (.mut 10 [] .append (.cons (.cst (.str "a")) .nil)) .nil)))
def c_law_v2_4 : Ex := (.var 6)
def c_law_v2_4i : Exs := (.cons (.op (.cmp .In) (.cons (.var 6) (.cons (.op .idx (.cons (.var 3) (.cons (.op (.bin .Sub) (.cons (.var 4) (.cons (.cst (.int 1)) .nil))) .nil))) .nil))) .nil)
def b_law_v2_3 : Sms := (.cons (.set 11 (.comp c_law_v2_4 (.one 6) (.seq .L false (.op .idx (.cons (.var 3) (.cons (.var 4) .nil)))) c_law_v2_4i)) (.cons (.iff (.not (.call "_law_says" (.cons (.call "meets_evenly" (.cons (.op .idx (.cons (.var 8) (.cons (.var 4) .nil))) (.cons (.op .idx (.cons (.var 8) (.cons (.op (.bin .Sub) (.cons (.var 4) (.cons (.cst (.int 1)) .nil))) .nil))) .nil))) (.cons (.op (.cmp .Eq) (.cons (.op (.bin .Mod) (.cons (.op .len (.cons (.var 11) .nil)) (.cons (.cst (.int 2)) .nil))) (.cons (.cst (.int 0)) .nil))) .nil)))) (.cons (.ret (.cst (.bl false))) .nil) .nil) (.cons (.iff (.not (.call "_law_says" (.cons (.call "meets_evenly" (.cons (.op .idx (.cons (.var 8) (.cons (.var 4) .nil))) (.cons (.op .idx (.cons (.var 8) (.cons (.var 4) .nil))) .nil))) (.cons (.op (.cmp .Eq) (.cons (.op (.bin .Mod) (.cons (.op .len (.cons (.op .idx (.cons (.var 3) (.cons (.var 4) .nil))) .nil)) (.cons (.cst (.int 2)) .nil))) (.cons (.cst (.int 0)) .nil))) .nil)))) (.cons (.ret (.cst (.bl false))) .nil) .nil) .nil)))
def b_law_v2 : Sms := (.cons (.set 1 (.call "_law_purse" (.cons (.var 0) (.cons (.cst (.int 0)) .nil)))) (.cons (.set 2 (.call "_law_names" (.cons (.var 1) (.cons (.call "_law_take" (.cons (.var 1) (.cons (.cst (.int 13)) .nil))) .nil)))) (.cons (.set 3 (.lst .nil)) (.cons (.for_ (.one 4) (.rng (.cons (.call "_law_take" (.cons (.var 1) (.cons (.cst (.int 9)) .nil))) .nil)) b_law_v2_1) (.cons (.iff (.and (.op (.cmp .NotEq) (.cons (.var 3) (.cons (.lst .nil) .nil))) (.op (.cmp .Eq) (.cons (.call "_law_take" (.cons (.var 1) (.cons (.cst (.int 3)) .nil))) (.cons (.cst (.int 0)) .nil)))) (.cons (.mut 3 [] .append (.cons (.op .list (.cons (.op .idx (.cons (.var 3) (.cons (.cst (.int 0)) .nil))) .nil)) .nil)) .nil) .nil) (.cons (.set 5 (.comp c_law_v2_1 (.one 6) (.seq .L false (.var 2)) c_law_v2_1i)) (.cons (.set 8 (.comp c_law_v2_3 (.one 7) (.seq .L false (.var 3)) c_law_v2_3i)) (.cons (.for_ (.one 9) (.rng (.cons (.cst (.int 2)) .nil)) b_law_v2_2) (.cons (.for_ (.one 4) (.rng (.cons (.op .len (.cons (.var 3) .nil)) .nil)) b_law_v2_3) (.cons (.ret (.op (.cmp .Eq) (.cons (.var 8) (.cons (.var 3) .nil)))) .nil))))))))))
abbrev H_law_v2 (tb : Tbl) := Has tb "law" 1 12 [] b_law_v2
end D

set_option Elab.async false
set_option linter.all false
set_option maxRecDepth 100000
set_option maxHeartbeats 4000000
set_option exponentiation.threshold 4000
set_option pp.maxSteps 1500
/-! TW3: texts by their signs; what is sorted. -/
namespace TV
open PySem PySem.Spec PyProof.Rows L2
def mkS (l : List Nat) : Str := ⟨l.toArray⟩
theorem mkS_cps (l : List Nat) : (mkS l).cps.toList = l := rfl
theorem mkS_len (l : List Nat) : (mkS l).length = l.length := rfl
theorem mkS_app (a b : List Nat) : mkS a ++ mkS b = mkS (a ++ b) := by
  show Str.mk (a.toArray ++ b.toArray) = _
  rw [List.append_toArray]; rfl
theorem mkS_self (s : Str) : mkS s.cps.toList = s := rfl
theorem mkS_inj {a b : List Nat} : mkS a = mkS b ↔ a = b := ⟨fun h => by
  have := congrArg (fun s : Str => s.cps.toList) h; exact this, fun h => by rw [h]⟩
theorem mkS_one (c : Nat) : (⟨#[c]⟩ : Str) = mkS [c] := rfl
theorem cutS_mk (l : List Nat) (lo hi : Option Int) : cutS (mkS l) lo hi = mkS ((l.drop (HT.sIx l.length 0 lo)).take (HT.sIx l.length l.length hi - HT.sIx l.length 0 lo)) := rfl
theorem sIx_nn {n d : Nat} {v : Int} (h : 0 ≤ v) : HT.sIx n d (some v) = min v.toNat n := by
  show (if v < 0 then _ else _) = _; rw [if_neg (by omega)]
theorem slcS_hi {l : List Nat} {j : Int} {L : Slots} (hl : l.length ≤ 16777216) (h : 0 ≤ j) : slcS (mkS l) none (some j) L = some (.str (mkS (l.take j.toNat)), L) := by
  unfold slcS; rw [if_pos (by rw [LINE_eq]; exact hl), cutS_mk, sIx_nn h]
  show some (T.str (mkS ((l.drop 0).take _)), L) = _
  rw [List.drop_zero]
  congr 3
  by_cases h2 : j.toNat ≤ l.length
  · rw [show HT.sIx l.length 0 none = 0 from rfl, Nat.min_eq_left h2, Nat.sub_zero]
  · rw [show HT.sIx l.length 0 none = 0 from rfl, Nat.min_eq_right (by omega), Nat.sub_zero, List.take_of_length_le (by omega), List.take_of_length_le (by omega)]
theorem slcS_lo {l : List Nat} {j : Int} {L : Slots} (hl : l.length ≤ 16777216) (h : 0 ≤ j) : slcS (mkS l) (some j) none L = some (.str (mkS (l.drop j.toNat)), L) := by
  unfold slcS; rw [if_pos (by rw [LINE_eq]; exact hl), cutS_mk, sIx_nn h, show HT.sIx l.length l.length none = l.length from rfl]
  congr 3
  by_cases h2 : j.toNat ≤ l.length
  · rw [Nat.min_eq_left h2, List.take_of_length_le (by rw [List.length_drop]; omega)]
  · rw [Nat.min_eq_right (by omega), List.drop_eq_nil_of_le (Nat.le_refl _), List.drop_eq_nil_of_le (by omega)]; simp
theorem bSAdd_mk {x y : List Nat} (h : x.length + y.length ≤ 16777216) : binS .Add (.str (mkS x)) (.str (mkS y)) = some (.str (mkS (x ++ y))) := by
  rw [bSAdd (by exact h), mkS_app]
theorem bSMul_mk {x : List Nat} {k : Int} (h : 0 ≤ k) (h2 : k ≤ 1000) (h3 : x.length ≤ 1000) : binS .Mult (.str (mkS x)) (.int k) = some (.str (mkS (List.replicate k.toNat x).flatten)) := bSMul h h2 h3
theorem signAt_mk {l : List Nat} {j : Int} (h : l.length ≤ 16777216) (h1 : 0 ≤ j) (h2 : j < l.length) : signAt (mkS l) j = some (.str (mkS [l.getD j.toNat 0])) := signAt_nn h h1 h2
theorem lenS_mk {l : List Nat} (h : l.length ≤ 16777216) : lenS (.str (mkS l)) = some (.int l.length) := lenS_s h
theorem strLt_mk (a b : List Nat) : strLt (mkS a) (mkS b) = decide (a < b) := rfl
theorem and_1 (x : Int) : Builtin.bitAnd x 1 = x % 2 := bitAnd_m1 x
/-! order -/
theorem strLt_irrefl (a : Str) : strLt a a = false := decide_eq_false (List.lt_irrefl _)
theorem strLt_trans {a b c : Str} (h1 : strLt a b = true) (h2 : strLt b c = true) : strLt a c = true := by
  unfold strLt at *; rw [decide_eq_true_eq] at *; exact List.lt_trans h1 h2
theorem strLt_asymm {a b : Str} (h1 : strLt a b = true) : strLt b a = false := by
  cases h : strLt b a with
  | false => rfl
  | true => have := strLt_trans h1 h; rw [strLt_irrefl] at this; cases this
theorem strLt_tri {a b : Str} (h1 : strLt a b = false) (h2 : strLt b a = false) : a = b := by
  unfold strLt at *; rw [decide_eq_false_iff_not] at *
  have : a.cps.toList = b.cps.toList := List.le_antisymm (List.not_lt.mp h2) (List.not_lt.mp h1)
  rw [← mkS_self a, ← mkS_self b, this]
theorem strSort_perm (xs : List Str) : (strSort xs).Perm xs := List.mergeSort_perm _ _
theorem strSort_len (xs : List Str) : (strSort xs).length = xs.length := (strSort_perm xs).length_eq
theorem strSort_le (xs : List Str) : (strSort xs).Pairwise fun a b => (!strLt b a) = true := by
  refine List.pairwise_mergeSort (fun a b c h1 h2 => ?_) (fun a b => ?_) xs
  · simp only [Bool.not_eq_true'] at *
    cases h : strLt c a with
    | false => rfl
    | true =>
      exfalso
      cases h3 : strLt a b with
      | true => have := strLt_trans h h3; rw [h2] at this; cases this
      | false =>
        have e := strLt_tri h3 h1
        subst e; rw [h2] at h; cases h
  · cases h : strLt b a with
    | false => rfl
    | true => rw [strLt_asymm h]; rfl
abbrev SLt (xs : List Str) : Prop := xs.Pairwise fun a b => strLt a b = true
theorem strSort_lt {xs : List Str} (h : xs.Nodup) : SLt (strSort xs) := by
  have h1 := strSort_le xs
  have h2 : (strSort xs).Nodup := (strSort_perm xs).nodup_iff.mpr h
  exact (List.Pairwise.and h1 h2).imp fun {a b} ⟨h3, h4⟩ => by
    cases h5 : strLt a b with
    | true => rfl
    | false => exact absurd (strLt_tri h5 (by simpa using h3)) h4
theorem SLt.nodup {xs : List Str} (h : SLt xs) : xs.Nodup := List.Pairwise.imp (fun {a b} h e => by subst e; rw [strLt_irrefl] at h; cases h) h
theorem SLt.uniq {xs ys : List Str} (hx : SLt xs) (hy : SLt ys) (h : ∀ a, a ∈ xs ↔ a ∈ ys) : xs = ys := by
  induction xs generalizing ys with
  | nil =>
    cases ys with
    | nil => rfl
    | cons y ys => exact absurd ((h y).mpr List.mem_cons_self) (by simp)
  | cons x xs ih =>
    cases ys with
    | nil => exact absurd ((h x).mp List.mem_cons_self) (by simp)
    | cons y ys =>
      have hx' := List.pairwise_cons.mp hx
      have hy' := List.pairwise_cons.mp hy
      have e : x = y := by
        rcases List.mem_cons.mp ((h x).mp List.mem_cons_self) with e | e
        · exact e
        · rcases List.mem_cons.mp ((h y).mpr List.mem_cons_self) with e2 | e2
          · exact e2.symm
          · have := strLt_trans (hx'.1 y e2) (hy'.1 x e); rw [strLt_irrefl] at this; cases this
      subst e
      congr 1
      refine ih hx'.2 hy'.2 fun a => ?_
      constructor
      · intro m
        rcases List.mem_cons.mp ((h a).mp (List.mem_cons_of_mem _ m)) with e | e
        · subst e; exact absurd (hx'.1 a m) (by rw [strLt_irrefl]; decide)
        · exact e
      · intro m
        rcases List.mem_cons.mp ((h a).mpr (List.mem_cons_of_mem _ m)) with e | e
        · subst e; exact absurd (hy'.1 a m) (by rw [strLt_irrefl]; decide)
        · exact e
theorem strSort_eq {xs ys : List Str} (hn : xs.Nodup) (hy : SLt ys) (h : ∀ a, a ∈ xs ↔ a ∈ ys) : strSort xs = ys :=
  SLt.uniq (strSort_lt hn) hy fun a => by rw [(strSort_perm xs).mem_iff]; exact h a
theorem strsOf_map : ∀ xs : List Str, strsOf (xs.map T.str) = some xs
  | [] => rfl
  | x :: xs => by rw [List.map_cons]; show (strsOf (xs.map T.str)).map _ = _; rw [strsOf_map xs]; rfl
theorem sortT_str {xs : List Str} (h : xs.length < 64) : sortT (xs.map T.str) = some ((strSort xs).map T.str) := by
  unfold sortT sortT0; rw [strsOf_map]; simp only []; rw [if_pos h]
theorem sortL_str {xs : List Str} {o : Bool} {L : Slots} (h : xs.length < 64) : sortL (.v (.lst o (xs.map T.str))) L = some (.lst true ((strSort xs).map T.str), L) := by
  unfold sortL; rw [kidL_v, obind_some]; show (sortT (xs.map T.str)).map _ = _; rw [sortT_str h]; rfl
theorem sortL_s (i : Nat) (L : Slots) : sortL (.s i []) L = (kidLs i L (slot L i)).bind fun r => (sortT r.1).map fun xs => (.lst true xs, r.2) := by
  unfold sortL; rw [kidL_s]
theorem map_str {γ : Type} (f : γ → List Nat) (xs : List γ) : (xs.map fun k => T.str (mkS (f k))) = (xs.map fun k => mkS (f k)).map T.str := by rw [List.map_map]; rfl
theorem app_str (a b : List Str) : a.map T.str ++ b.map T.str = (a ++ b).map T.str := by rw [List.map_append]
theorem ite_le {α : Type} {n m : Nat} (h : n ≤ m) {x y : α} : (if n ≤ m then x else y) = x := if_pos h
theorem ite_lt {α : Type} {n m : Nat} (h : n < m) {x y : α} : (if n < m then x else y) = x := if_pos h
end TV

set_option Elab.async false
set_option linter.all false
set_option maxRecDepth 100000
set_option maxHeartbeats 4000000
set_option exponentiation.threshold 4000
set_option pp.maxSteps 1500
namespace TV
open PySem PySem.Spec PyProof.Rows L2
local macro_rules | `(tactic| ktf_call [$as,*]) => `(tactic| simp (maxSteps := 1000000) (disch := first | omega | assumption | (with_reducible ((repeat (first | assumption | exact deps_str _ _ | exact deps_int _ _ | exact deps_bl _ _ | exact deps_rows _ _ _ (by decide) | exact deps_nil _ | exact dep_s _ _ | exact dep_i _ _ | exact dep_b _ _ | exact dep_n _ | (refine deps_map ?_; intro _ _) | apply deps_cons | apply deps_app | refine dep_lst2 ?_ (by decide) | refine dep_tup2 ?_ (by decide) | exact Nat.zero_le _)); done)) | (simp only [List.length_append, List.length_cons, List.length_nil, List.length_take, List.length_drop, List.length_replicate, List.length_map, List.length_range, List.length_singleton, mkS_len]; omega) | (decide; done)) only [wx_ok, wx_stuck, wx_bind, wx_noErr, wf_ok, cS_t, cS_f, eS_t, eS_f, exec_iffS, ev_iteS, onBe_bl, cB_t, cB_f, cB_and, cB_or, cB_not, cB_b, sg_has, goA_some, callRun_eq, callBack_ok, onO_some, onO_none, noErr_ok, onB_bl, onF_nx, onF_rt, onF_bk, onF_ct, loopF_nx, loopF_ct, loopF_bk, loopF_rt, slot_0, slot_s, obind_some, obind_none, omap_some, omap_none, rd_v, rd_s, rd_p, pathT_nil, pathT_lst, pathT_tup, rds_nil, rds_cons, ev_var, ev_cst, ev_pth, ev_op, nlkO_eq, ev_lst, ev_tup, ev_dic, ev_dit0, ev_call, ev_and, ev_or, ev_not, ev_chain, ev_comp, ev_pop, evs_nil, evs_cons, evq_nil, evq_var, evq_pth, evo_var, evo_pthT, evo_pthF, evt_nil, evt_one, evi_seq, evi_rng, evi_enm, evi_zip, evi_rev, mvr_var, mvr_tup, mvr_lst, mvs_nil, mvs_cons, mv_var, evb_eq, exec_set, exec_setm, exec_par, exec_aug, augRun_int, exec_sub, exec_mut, onL_l, exec_exp, exec_ret, exec_retn, exec_whl, exec_for, endF_nx, endF_rt, backS_n, backS_s, backSS_n, backSS_k, exec_brk, exec_cnt, exec_pass, exec_rais, execs_nil, execs_cons, formOpen_t, opRun_eq, opK_bin_int, opK_bin_str, opK_bin_si, opK_cat, opK_cmp, opK_neg, opK_inv, opK_len, opK_abs, opK_int, opK_str, opK_isi, opK_max, opK_min, opK_sum, opK_all, opK_any, opK_idx_str, opK_idx_scr, opK_idx_lst, opK_idx_tup, opK_idx_dic, opK_idx_lkd, opK_get, opK_slc_s01, opK_slc_s10, opK_slc_s11, opK_slc_l01, opK_slc_l10, opK_slc_l11, opK_list, opK_tupl, opK_sortd, kidL_v, kidL_s, kidLs_t, kidLs_f, frz_lst, frz_tup, frz_dic, frz_int, frz_str, frz_bl, frz_non, frz_scr, frzs_nil, frzs_cons, frzs_int, frzs_str, frzs_bl, shrs_int, shrs_str, clns_int, clns_str, frzs_rows, shrs_rows, clns_rows, frzs_app, shrs_app, clns_app, itSeq_L, itSeq_T, itSeq_S, itSeq_K, itTpl_v, itTpl_s, itTpl_f, itTpl_tF, itTpl_tT, itStr_v, itStr_ss, itKey_s, itKey_t, itFrz_v, itFrz_s, itFrz_f, itFrz_tF, itFrz_tT, finF_rt, finF_nx, finS_eq, outS_nil, outS, argS, varRun, pthRun, dspRun, mvV, shr, cln, shrs, clns, catRun, mutsOf, noDup, lent, frzO, setOuts, wipeL, backL, tgs, backOk, mT, aS, aSs, simpEs, simp1, setO, sub_one, mutT, LINE_eq, sop, bAdd, bSub, bMul_h, bMul, bDiv_h, bDiv, bMod, bPow, bShl, bShr, bAnd, bOr, bXor, cEq_i, cEq_s, cEq_b, cNe_i, cNe_s, cEq_go, cNe_go, cLt_i, cLe_i, cGt_i, cGe_i, cLt_s, cLe_s, cGt_s, cGe_s, cIs_n, cIsN_n, cIn_L, cNin_L, eqT_int, eqT_str, eqT_bl, eqT_lst, eqT_tup, eqTs_nil, eqTs_cons, eqTs_n1, eqTs_n2, eqTs_str, eqTs_int, eqTs_rows, eqTs_nilR, any_str, idxL_one, idxL_strn, idxL_intn, idxL_row, atI_nn, signAt_nn, rng_n, rng_ab, lenS_l, lenS_t, lenS_scr, lenS_d, lenS_s, isiS, tyOf, isNon, List.map_cons, List.map_nil, List.cons_append, List.nil_append, List.replicate_succ, List.replicate_zero, List.set_cons_zero, List.set_cons_succ, List.length_cons, List.length_nil, List.getElem?_cons_zero, List.getElem?_cons_succ, List.length_map, List.length_append, List.all_cons, List.all_nil, List.contains_nil, List.contains_cons, Option.some.injEq, Nat.reduceAdd, Nat.reduceSub, Nat.reduceLeDiff, Nat.reduceBEq, Nat.reduceEqDiff, Int.reduceNeg, Int.reduceToNat, Int.reduceAdd, Int.reduceSub, Int.reduceMul, Int.reducePow, Int.reduceLT, Int.reduceLE, Int.reduceEq, Int.reduceNe, String.reduceEq, if_true, if_false, reduceIte, reduceCtorEq, ne_eq, not_false_eq_true, implies_true, BEq.rfl, beq_self_eq_true, Bool.false_eq_true, Bool.true_eq_false, Bool.or_false, Bool.false_or, Bool.or_true, Bool.true_or, Bool.and_true, Bool.true_and, Bool.and_false, Bool.false_and, Bool.not_true, Bool.not_false, Bool.not_not, and_true, true_and, and_false, false_and, or_true, true_or, or_false, false_or, decide_true, decide_false, id_eq, evq_cst, evo_cst, mv_cst, mvr_cst, evq_op, evo_op, mv_op, mvr_op, evq_lst, evo_lst, mv_lst, evq_tup, evo_tup, mv_tup, evq_dic, evo_dic, mv_dic, mvr_dic, evq_dit0, evo_dit0, mv_dit0, mvr_dit0, evq_call, evo_call, mv_call, mvr_call, evq_and, evo_and, mv_and, mvr_and, evq_or, evo_or, mv_or, mvr_or, evq_not, evo_not, mv_not, mvr_not, evq_ite, evo_ite, mv_ite, mvr_ite, evq_chain, evo_chain, mv_chain, mvr_chain, evq_comp, evo_comp, mv_comp, mvr_comp, evq_srtk, evo_srtk, mv_srtk, mvr_srtk, evq_pop, evo_pop, mv_pop, mvr_pop, mv_pth, mvr_pth, sortL_str, sortL_s, sortT_str, mkS_one, mkS_len, mkS_app, slcS_hi, slcS_lo, bSMul_mk, bSAdd_mk, signAt_mk, lenS_mk, and_1, big_no, List.length_range, Out.bind_ok, filter_tt, Int.toNat_natCast, ite_le, ite_lt, app_str, opK_catT, opK_listT, opK_srtset, kidT_v, kidT_s, kidTs_t, kidTs_f, catTRun, sortSetL, frz_dit, isLkd_non, isLkd_bl, isLkd_int, isLkd_str, isLkd_lst, isLkd_tup, isLkd_dic, isLkd_dit, isLkd_lkd, isLkd_scr, isOwn_non, isOwn_bl, isOwn_int, isOwn_str, isOwn_lst, isOwn_tup, isOwn_dic, isOwn_dit, isOwn_lkd, isOwn_scr, ite_self, strsOf_map, true_imp_iff, false_imp_iff, slcL, cutT_hi, cutT_lo, take_map, drop_map, Int.cast_ofNat_Int, ev_lend, lendRun, lendA, lendBack, List.any_nil, List.any_cons, entT_two, entT_three, opK_lrng1, opK_lrng2, $[$as:term],*])
section
variable {tb : Tbl} {N d : Nat}
theorem take_ok [D.H__law_take tb] (p m : Int) (h : 0 < m) (h2 : DivOk m) : run tb N (d + 1) "_law_take" [.lst true [.int p], .int m] = .ok (.int (p % m)) [.lst true [.int (p / m)]] := by
  refine wf_eq (wf_in (us := [.lst true [.int p], .int m]) rfl rfl (by ktf_call [D.b__law_take]) ?_)
  ktf_call [D.b__law_take]
def cellAt (ns : List Int) (k : Int) : Int := if k < ns.length then ns.getD k.toNat 0 else 0
theorem cell_ok [D.H__law_cell_at tb] (ns : List Int) (k : Int) (h : 0 ≤ k) : run tb N (d + 1) "_law_cell_at" [.scr ns, .int k] = .ok (.int (cellAt ns k)) [] := by
  refine wf_eq (wf_in (us := [.scr ns, .int k]) rfl rfl (by ktf_call [D.b__law_cell_at]) ?_)
  ktf_call [D.b__law_cell_at]
  unfold cellAt
  (first | refine wx_cS (fun hb => ?_) (fun hb => ?_) | refine wx_beS (fun hb => ?_) (fun hb => ?_) | refine wx_cB (fun hb => ?_) (fun hb => ?_)) <;> (try simp only [decide_eq_true_eq, decide_eq_false_iff_not, Bool.not_eq_true', Bool.not_eq_false', Int.not_le, Int.not_lt, Bool.and_eq_true, Bool.or_eq_true, Bool.and_eq_false_iff, Bool.or_eq_false_iff, beq_iff_eq, beq_eq_false_iff_ne, ne_eq] at hb)
  · rw [if_pos hb]; ktf_call [D.b__law_cell_at]
  · rw [if_neg (by omega)]; ktf_call [D.b__law_cell_at]
theorem says_ok [D.H__law_says tb] (a b : Bool) : run tb N (d + 1) "_law_says" [.bl a, .bl b] = .ok (.bl (a == b)) [] := by
  refine wf_eq (wf_in (us := [.bl a, .bl b]) rfl rfl (by ktf_call [D.b__law_says]) ?_)
  ktf_call [D.b__law_says]
def one (ns : List Int) (k at_ : Nat) : Int := cellAt ns ((at_ : Int) + (k : Int) % 9) % 1000000000000000000 + 1 + 131 * k * k + 17 * at_
def mixed (ns : List Int) (k at_ : Nat) : Int := one ns k at_ * 48271 % 2147483647
def come (ns : List Int) (at_ : Nat) : Nat → Int
  | 0 => 0
  | k + 1 => come ns at_ k * 9973 + (mixed ns k at_ * mixed ns k at_ % 2147483629 + one ns k at_ / 7) % 9973
theorem one_lt (ns : List Int) {k at_ : Nat} (h : k < 60) (h2 : at_ ≤ 1000) : 0 < one ns k at_ ∧ one ns k at_ < 2305843009213693952 := by
  unfold one
  have h1 := Int.emod_nonneg (cellAt ns ((at_ : Int) + (k : Int) % 9)) (by decide : (1000000000000000000 : Int) ≠ 0)
  have h2 := Int.emod_lt_of_pos (cellAt ns ((at_ : Int) + (k : Int) % 9)) (by decide : (0 : Int) < 1000000000000000000)
  have h3 : (131 : Int) * k * k ≤ 131 * 60 * 60 := by
    have : (k : Int) * k ≤ 60 * 60 := Int.mul_le_mul (by omega) (by omega) (by omega) (by omega)
    rw [Int.mul_assoc]; omega
  have h4 : (0 : Int) ≤ 131 * k * k := Int.mul_nonneg (Int.mul_nonneg (by decide) (by omega)) (by omega)
  omega
theorem mixed_lt (ns : List Int) (k at_ : Nat) : 0 ≤ mixed ns k at_ ∧ mixed ns k at_ < 2147483647 :=
  ⟨Int.emod_nonneg _ (by decide), Int.emod_lt_of_pos _ (by decide)⟩
theorem come_lt (ns : List Int) (at_ : Nat) : ∀ k : Nat, 0 ≤ come ns at_ k ∧ come ns at_ k < 9973 ^ k
  | 0 => by constructor <;> simp [come]
  | k + 1 => by
    obtain ⟨h1, h2⟩ := come_lt ns at_ k
    unfold come
    have r1 := Int.emod_nonneg (mixed ns k at_ * mixed ns k at_ % 2147483629 + one ns k at_ / 7) (by decide : (9973 : Int) ≠ 0)
    have r2 := Int.emod_lt_of_pos (mixed ns k at_ * mixed ns k at_ % 2147483629 + one ns k at_ / 7) (by decide : (0 : Int) < 9973)
    rw [Int.pow_succ]
    constructor <;> omega
theorem come_mul (ns : List Int) {k at_ : Nat} (h : k < 60) : MulOk (come ns at_ k) 9973 := by
  obtain ⟨c1, c2⟩ := come_lt ns at_ k
  refine .of 840 ?_ (by decide)
  have h1 : 9973 ^ k ≤ 9973 ^ 60 := Nat.pow_le_pow_right (by decide) (by omega)
  have h2 : 9973 ^ 60 < 2 ^ 840 := by decide +kernel
  have h4 : ((come ns at_ k).natAbs : Int) < ((9973 ^ k : Nat) : Int) := by
    rw [Int.natAbs_of_nonneg c1, Int.natCast_pow]; exact c2
  exact Nat.lt_of_lt_of_le (Int.ofNat_lt.mp h4) (Nat.le_of_lt (Nat.lt_of_le_of_lt h1 h2))
theorem range_lt {n k : Nat} {pre post : List Nat} (h : List.range n = pre ++ k :: post) : k = pre.length ∧ k < n := by
  have h1 : (List.range n)[pre.length]? = some k := by rw [h]; simp
  rw [List.getElem?_range] at h1
  · have : pre.length = k := by simpa using h1
    have h2 : (List.range n).length = n := List.length_range
    rw [h] at h2; simp at h2; omega
  · have h2 : (List.range n).length = n := List.length_range
    rw [h] at h2; simp at h2; omega
theorem purse_ok [D.H__law_cell_at tb] [D.H__law_purse tb] (ns : List Int) (at_ : Nat) (ha : at_ ≤ 1000) : ∃ p, 0 ≤ p ∧ run tb N (d + 2) "_law_purse" [.scr ns, .int at_] = .ok (.lst true [.int p]) [] := by
  suffices wf (run tb N (d + 2) "_law_purse" [.scr ns, .int at_]) fun r o => ∃ p, 0 ≤ p ∧ r = .lst true [.int p] ∧ o = [] by
    obtain ⟨r, o, e, p, h, rfl, rfl⟩ := this; exact ⟨p, h, e⟩
  refine wf_in (us := [.scr ns, .int at_]) rfl rfl (by ktf_call [D.b__law_purse, D.b__law_purse_1, cell_ok]) ?_
  ktf_call [D.b__law_purse, D.b__law_purse_1, cell_ok]
  (first | refine wx_cS (fun hb => ?_) (fun hb => ?_) | refine wx_beS (fun hb => ?_) (fun hb => ?_) | refine wx_cB (fun hb => ?_) (fun hb => ?_)) <;> (try simp only [decide_eq_true_eq, decide_eq_false_iff_not, Bool.not_eq_true', Bool.not_eq_false', Int.not_le, Int.not_lt, Bool.and_eq_true, Bool.or_eq_true, Bool.and_eq_false_iff, Bool.or_eq_false_iff, beq_iff_eq, beq_eq_false_iff_ne, ne_eq] at hb)
  · ktf_call [D.b__law_purse, D.b__law_purse_1, cell_ok]
    exact ⟨_, by omega, rfl⟩
  · ktf_call [D.b__law_purse, D.b__law_purse_1, cell_ok]
    refine wx_for (fun k : Nat => T.int k) _ (fun pre L => ∃ x4 x5 x6, L = [some (.scr ns), some (.int at_), some (.int (cellAt ns at_)), some (.int (come ns at_ pre.length)), x4, x5, x6]) ⟨_, _, _, rfl⟩ ?_ ?_
    · rintro pre k post L e ⟨x4, x5, x6, rfl⟩
      obtain ⟨rfl, hk⟩ := range_lt e
      refine ⟨_, rfl, ?_⟩
      have o1 := one_lt ns hk ha
      have m1 := mixed_lt ns pre.length at_
      have c1 := come_mul ns (at_ := at_) hk
      have e1 : cellAt ns ((at_ : Int) + (pre.length : Int) % 9) % 1000000000000000000 + 1 + 131 * (pre.length : Int) * (pre.length : Int) + 17 * (at_ : Int) = one ns pre.length at_ := rfl
      have e2 : one ns pre.length at_ * 48271 % 2147483647 = mixed ns pre.length at_ := rfl
      ktf_call [D.b__law_purse, D.b__law_purse_1, cell_ok, e1, e2]
      exact ⟨_, _, _, rfl⟩
    · rintro L ⟨x4, x5, x6, rfl⟩
      ktf_call [D.b__law_purse, D.b__law_purse_1, cell_ok]
      exact ⟨_, (come_lt ns at_ 60).1, rfl⟩
end
end TV

set_option Elab.async false
set_option linter.all false
set_option maxRecDepth 100000
set_option maxHeartbeats 4000000
set_option exponentiation.threshold 4000
set_option pp.maxSteps 1500
namespace TV
open PySem PySem.Spec PyProof.Rows L2
section
variable {tb : Tbl} {N d : Nat}
def signsL : List Nat := [97,98,99,100,101,102,103,104,105,106,107,108,109,110,111,112,113,114,115,116,117,118,119,120,121,122,48,49,50,51,52,53,54,55,56,57]
theorem signs_mk : ((↑"abcdefghijklmnopqrstuvwxyz0123456789" : Str)) = mkS signsL := by decide +kernel
theorem empty_mk : ((↑"" : Str)) = mkS [] := by decide +kernel
theorem signsL_len : signsL.length = 36 := rfl
theorem signsL_nodup : signsL.Nodup := by decide
theorem signsL_mem {j : Nat} (h : j < 36) : signsL.getD j 0 ∈ signsL := by
  rw [List.getD_eq_getElem?_getD, List.getElem?_eq_getElem (by rw [signsL_len]; exact h)]; exact List.getElem_mem _
theorem signsL_inj {i j : Nat} (h : i < 36) (h2 : j < 36) (e : signsL.getD i 0 = signsL.getD j 0) : i = j := by
  rw [List.getD_eq_getElem?_getD, List.getElem?_eq_getElem (by rw [signsL_len]; exact h), List.getD_eq_getElem?_getD, List.getElem?_eq_getElem (by rw [signsL_len]; exact h2)] at e
  exact (List.getElem_inj signsL_nodup).mp e
theorem DivOk.lit {m : Int} (h : 0 < m) (h2 : m < 18446744073709551616) : DivOk m := ⟨h, by
    have : m.natAbs.log2 < 64 := (Nat.log2_lt (by omega)).mpr (by omega)
    omega⟩
theorem take_lit [D.H__law_take tb] (p m : Int) (h : 0 < m) (h2 : m < 18446744073709551616) : run tb N (d + 1) "_law_take" [.lst true [.int p], .int m] = .ok (.int (p % m)) [.lst true [.int (p / m)]] := take_ok p m h (.lit h h2)
end
end TV

set_option Elab.async false
set_option linter.all false
set_option maxRecDepth 100000
set_option maxHeartbeats 4000000
set_option exponentiation.threshold 4000
set_option pp.maxSteps 1500
namespace TV
open PySem PySem.Spec PyProof.Rows L2
local macro_rules | `(tactic| ktf_call [$as,*]) => `(tactic| simp (maxSteps := 1000000) (disch := first | omega | assumption | (with_reducible ((repeat (first | assumption | exact deps_str _ _ | exact deps_int _ _ | exact deps_bl _ _ | exact deps_rows _ _ _ (by decide) | exact deps_nil _ | exact dep_s _ _ | exact dep_i _ _ | exact dep_b _ _ | exact dep_n _ | (refine deps_map ?_; intro _ _) | apply deps_cons | apply deps_app | refine dep_lst2 ?_ (by decide) | refine dep_tup2 ?_ (by decide) | exact Nat.zero_le _)); done)) | (simp only [List.length_append, List.length_cons, List.length_nil, List.length_take, List.length_drop, List.length_replicate, List.length_map, List.length_range, List.length_singleton, mkS_len]; omega) | (decide; done)) only [wx_ok, wx_stuck, wx_bind, wx_noErr, wf_ok, cS_t, cS_f, eS_t, eS_f, exec_iffS, ev_iteS, onBe_bl, cB_t, cB_f, cB_and, cB_or, cB_not, cB_b, sg_has, goA_some, callRun_eq, callBack_ok, onO_some, onO_none, noErr_ok, onB_bl, onF_nx, onF_rt, onF_bk, onF_ct, loopF_nx, loopF_ct, loopF_bk, loopF_rt, slot_0, slot_s, obind_some, obind_none, omap_some, omap_none, rd_v, rd_s, rd_p, pathT_nil, pathT_lst, pathT_tup, rds_nil, rds_cons, ev_var, ev_cst, ev_pth, ev_op, nlkO_eq, ev_lst, ev_tup, ev_dic, ev_dit0, ev_call, ev_and, ev_or, ev_not, ev_chain, ev_comp, ev_pop, evs_nil, evs_cons, evq_nil, evq_var, evq_pth, evo_var, evo_pthT, evo_pthF, evt_nil, evt_one, evi_seq, evi_rng, evi_enm, evi_zip, evi_rev, mvr_var, mvr_tup, mvr_lst, mvs_nil, mvs_cons, mv_var, evb_eq, exec_set, exec_setm, exec_par, exec_aug, augRun_int, exec_sub, exec_mut, onL_l, exec_exp, exec_ret, exec_retn, exec_whl, exec_for, endF_nx, endF_rt, backS_n, backS_s, backSS_n, backSS_k, exec_brk, exec_cnt, exec_pass, exec_rais, execs_nil, execs_cons, formOpen_t, opRun_eq, opK_bin_int, opK_bin_str, opK_bin_si, opK_cat, opK_cmp, opK_neg, opK_inv, opK_len, opK_abs, opK_int, opK_str, opK_isi, opK_max, opK_min, opK_sum, opK_all, opK_any, opK_idx_str, opK_idx_scr, opK_idx_lst, opK_idx_tup, opK_idx_dic, opK_idx_lkd, opK_get, opK_slc_s01, opK_slc_s10, opK_slc_s11, opK_slc_l01, opK_slc_l10, opK_slc_l11, opK_list, opK_tupl, opK_sortd, kidL_v, kidL_s, kidLs_t, kidLs_f, frz_lst, frz_tup, frz_dic, frz_int, frz_str, frz_bl, frz_non, frz_scr, frzs_nil, frzs_cons, frzs_int, frzs_str, frzs_bl, shrs_int, shrs_str, clns_int, clns_str, frzs_rows, shrs_rows, clns_rows, frzs_app, shrs_app, clns_app, itSeq_L, itSeq_T, itSeq_S, itSeq_K, itTpl_v, itTpl_s, itTpl_f, itTpl_tF, itTpl_tT, itStr_v, itStr_ss, itKey_s, itKey_t, itFrz_v, itFrz_s, itFrz_f, itFrz_tF, itFrz_tT, finF_rt, finF_nx, finS_eq, outS_nil, outS, argS, varRun, pthRun, dspRun, mvV, shr, cln, shrs, clns, catRun, mutsOf, noDup, lent, frzO, setOuts, wipeL, backL, tgs, backOk, mT, aS, aSs, simpEs, simp1, setO, sub_one, mutT, LINE_eq, sop, bAdd, bSub, bMul_h, bMul, bDiv_h, bDiv, bMod, bPow, bShl, bShr, bAnd, bOr, bXor, cEq_i, cEq_s, cEq_b, cNe_i, cNe_s, cEq_go, cNe_go, cLt_i, cLe_i, cGt_i, cGe_i, cLt_s, cLe_s, cGt_s, cGe_s, cIs_n, cIsN_n, cIn_L, cNin_L, eqT_int, eqT_str, eqT_bl, eqT_lst, eqT_tup, eqTs_nil, eqTs_cons, eqTs_n1, eqTs_n2, eqTs_str, eqTs_int, eqTs_rows, eqTs_nilR, any_str, idxL_one, idxL_strn, idxL_intn, idxL_row, atI_nn, signAt_nn, rng_n, rng_ab, lenS_l, lenS_t, lenS_scr, lenS_d, lenS_s, isiS, tyOf, isNon, List.map_cons, List.map_nil, List.cons_append, List.nil_append, List.replicate_succ, List.replicate_zero, List.set_cons_zero, List.set_cons_succ, List.length_cons, List.length_nil, List.getElem?_cons_zero, List.getElem?_cons_succ, List.length_map, List.length_append, List.all_cons, List.all_nil, List.contains_nil, List.contains_cons, Option.some.injEq, Nat.reduceAdd, Nat.reduceSub, Nat.reduceLeDiff, Nat.reduceBEq, Nat.reduceEqDiff, Int.reduceNeg, Int.reduceToNat, Int.reduceAdd, Int.reduceSub, Int.reduceMul, Int.reducePow, Int.reduceLT, Int.reduceLE, Int.reduceEq, Int.reduceNe, String.reduceEq, if_true, if_false, reduceIte, reduceCtorEq, ne_eq, not_false_eq_true, implies_true, BEq.rfl, beq_self_eq_true, Bool.false_eq_true, Bool.true_eq_false, Bool.or_false, Bool.false_or, Bool.or_true, Bool.true_or, Bool.and_true, Bool.true_and, Bool.and_false, Bool.false_and, Bool.not_true, Bool.not_false, Bool.not_not, and_true, true_and, and_false, false_and, or_true, true_or, or_false, false_or, decide_true, decide_false, id_eq, evq_cst, evo_cst, mv_cst, mvr_cst, evq_op, evo_op, mv_op, mvr_op, evq_lst, evo_lst, mv_lst, evq_tup, evo_tup, mv_tup, evq_dic, evo_dic, mv_dic, mvr_dic, evq_dit0, evo_dit0, mv_dit0, mvr_dit0, evq_call, evo_call, mv_call, mvr_call, evq_and, evo_and, mv_and, mvr_and, evq_or, evo_or, mv_or, mvr_or, evq_not, evo_not, mv_not, mvr_not, evq_ite, evo_ite, mv_ite, mvr_ite, evq_chain, evo_chain, mv_chain, mvr_chain, evq_comp, evo_comp, mv_comp, mvr_comp, evq_srtk, evo_srtk, mv_srtk, mvr_srtk, evq_pop, evo_pop, mv_pop, mvr_pop, mv_pth, mvr_pth, sortL_str, sortL_s, sortT_str, mkS_one, mkS_len, mkS_app, slcS_hi, slcS_lo, bSMul_mk, bSAdd_mk, signAt_mk, lenS_mk, and_1, big_no, List.length_range, Out.bind_ok, filter_tt, Int.toNat_natCast, ite_le, ite_lt, app_str, opK_catT, opK_listT, opK_srtset, kidT_v, kidT_s, kidTs_t, kidTs_f, catTRun, sortSetL, frz_dit, isLkd_non, isLkd_bl, isLkd_int, isLkd_str, isLkd_lst, isLkd_tup, isLkd_dic, isLkd_dit, isLkd_lkd, isLkd_scr, isOwn_non, isOwn_bl, isOwn_int, isOwn_str, isOwn_lst, isOwn_tup, isOwn_dic, isOwn_dit, isOwn_lkd, isOwn_scr, ite_self, strsOf_map, true_imp_iff, false_imp_iff, slcL, cutT_hi, cutT_lo, take_map, drop_map, Int.cast_ofNat_Int, ev_lend, lendRun, lendA, lendBack, List.any_nil, List.any_cons, entT_two, entT_three, opK_lrng1, opK_lrng2, $[$as:term],*])
section
variable {tb : Tbl} {N d : Nat}
/-- a name: one to six signs -/
def IsNm (x : Str) : Prop := ∃ l, x = mkS l ∧ 0 < l.length ∧ l.length ≤ 6 ∧ ∀ c ∈ l, c ∈ signsL
def nm1 (w : List Nat) (t f : Int) (k : Nat) : List Nat := w.take t.toNat ++ [signsL.getD ((f + 7 * k) % 36).toNat 0] ++ w.drop (t + 1).toNat
def nm2 (c : Nat) (k : Nat) : List Nat := List.replicate (1 + (k : Int)).toNat c
def nm3 (c e : Nat) (k : Nat) : List Nat := List.replicate ((6 : Int) + k - 6).toNat c ++ [e]
theorem flat_one (c n : Nat) : (List.replicate n [c]).flatten = List.replicate n c := by
  induction n with
  | zero => rfl
  | succ n ih => rw [List.replicate_succ, List.flatten_cons, ih, List.replicate_succ]; rfl
theorem nm1_ok {w : List Nat} {t f : Int} {k : Nat} (h1 : w.length ≤ 6) (h2 : 0 ≤ t) (h3 : t < w.length) (hw : ∀ c ∈ w, c ∈ signsL) : IsNm (mkS (nm1 w t f k)) := by
  refine ⟨_, rfl, ?_, ?_, ?_⟩
  · unfold nm1; simp; omega
  · unfold nm1; simp; omega
  · intro c hc
    unfold nm1 at hc
    rcases List.mem_append.mp hc with hc | hc
    · rcases List.mem_append.mp hc with hc | hc
      · exact hw c (List.mem_of_mem_take hc)
      · rw [List.mem_singleton.mp hc]; exact signsL_mem (by omega)
    · exact hw c (List.mem_of_mem_drop hc)
theorem nm2_ok {c : Nat} {k : Nat} (h : k < 6) (hc : c ∈ signsL) : IsNm (mkS (nm2 c k)) := by
  refine ⟨_, rfl, ?_, ?_, ?_⟩
  · unfold nm2; simp; omega
  · unfold nm2; simp; omega
  · unfold nm2; intro x hx; rw [List.eq_of_mem_replicate hx]; exact hc
theorem nm3_ok {c e : Nat} {k : Nat} (h : k < 6) (hc : c ∈ signsL) (he : e ∈ signsL) : IsNm (mkS (nm3 c e k)) := by
  refine ⟨_, rfl, ?_, ?_, ?_⟩
  · unfold nm3; simp
  · unfold nm3; simp; omega
  · unfold nm3; intro x hx
    rcases List.mem_append.mp hx with hx | hx
    · rw [List.eq_of_mem_replicate hx]; exact hc
    · rw [List.mem_singleton.mp hx]; exact he
theorem nm1_inj {w : List Nat} {t f : Int} {j k : Nat} (h2 : 0 ≤ t) (h3 : t < w.length) (hj : j < 12) (hk : k < 12) (e : nm1 w t f j = nm1 w t f k) : j = k := by
  unfold nm1 at e
  rw [List.append_assoc, List.append_assoc] at e
  have e1 := List.append_cancel_left e
  simp only [List.cons_append, List.nil_append, List.cons.injEq] at e1
  have := signsL_inj (by omega) (by omega) e1.1
  omega
theorem nm2_inj {c j k : Nat} (e : nm2 c j = nm2 c k) : j = k := by
  unfold nm2 at e
  have := congrArg List.length e; simp at this; omega
theorem nm3_inj {c x j k : Nat} (e : nm3 c x j = nm3 c x k) : j = k := by
  unfold nm3 at e
  have := congrArg List.length e; simp at this; omega
theorem nm23_ne {c x j k : Nat} (hcx : c ≠ x) (e : nm2 c j = nm3 c x k) : False := by
  unfold nm2 nm3 at e
  have : x ∈ List.replicate (1 + (j : Int)).toNat c := by rw [e]; simp
  exact hcx (List.eq_of_mem_replicate this).symm
theorem nodup_map_range {α : Type} {f : Nat → α} {n : Nat} (h : ∀ j k, j < n → k < n → f j = f k → j = k) : ((List.range n).map f).Nodup := by
  refine List.pairwise_map.mpr ?_
  refine List.Pairwise.imp_of_mem (R := fun a b => a ≠ b) (fun {a b} ha hb hne e => hne (h a b (List.mem_range.mp ha) (List.mem_range.mp hb) e)) ?_
  exact List.nodup_range
/-- what names are told -/
structure Names (m : Int) (ns : List Str) : Prop where
  len : (ns.length : Int) = m
  lt : SLt ns
  nm : ∀ x ∈ ns, IsNm x
theorem Names.of {m : Int} {xs : List Str} (hl : (xs.length : Int) = m) (hn : xs.Nodup) (h : ∀ x ∈ xs, IsNm x) : Names m (strSort xs) :=
  ⟨by rw [strSort_len]; exact hl, strSort_lt hn, fun x hx => h x ((strSort_perm xs).mem_iff.mp hx)⟩
theorem names_ok [D.H__law_take tb] [D.H__law_names tb] (p m : Int) (hp : 0 ≤ p) (h0 : 0 ≤ m) (h12 : m ≤ 12) : wf (run tb N (d + 2) "_law_names" [.lst true [.int p], .int m]) fun r o => ∃ ns p', r = .lst true (ns.map T.str) ∧ o = [.lst true [.int p']] ∧ 0 ≤ p' ∧ Names m ns := by
  refine wf_in (us := [.lst true [.int p], .int m]) rfl rfl (by ktf_call [D.b__law_names, D.b__law_names_1, take_lit, signs_mk, empty_mk, signsL_len, D.c__law_names_1, D.c__law_names_1i, D.c__law_names_2, D.c__law_names_2i, D.c__law_names_3, D.c__law_names_3i, flat_one, map_str]) ?_
  have h36 := signsL_len
  ktf_call [D.b__law_names, D.b__law_names_1, take_lit, signs_mk, empty_mk, signsL_len, D.c__law_names_1, D.c__law_names_1i, D.c__law_names_2, D.c__law_names_2i, D.c__law_names_3, D.c__law_names_3i, flat_one, map_str]
  generalize hs : 1 + p % 6 = s
  have hs1 : 1 ≤ s := by omega
  have hs6 : s ≤ 6 := by omega
  generalize ht : p / 6 % s = t
  have ht0 : 0 ≤ t := by rw [← ht]; exact Int.emod_nonneg _ (by omega)
  have ht1 : t < s := by rw [← ht]; exact Int.emod_lt_of_pos _ (by omega)
  have hq : 0 ≤ p / 6 / s := Int.ediv_nonneg (by omega) (by omega)
  generalize p / 6 / s = q at hq
  refine wx_for (fun k : Nat => T.int k) _ (fun pre L => ∃ q w x6, 0 ≤ q ∧ w.length = pre.length ∧ (∀ c ∈ w, c ∈ signsL) ∧ L = [some (.lst true [.int q]), some (.int m), some (.str (mkS signsL)), some (.int s), some (.int t), some (.str (mkS w)), x6, none, none, none, none]) ⟨q, [], _, hq, rfl, by simp, rfl⟩ ?_ ?_
  · rintro pre k post L e ⟨q, w, x6, hq, hw, hc, rfl⟩
    obtain ⟨rfl, hk⟩ := range_lt e
    refine ⟨_, rfl, ?_⟩
    ktf_call [D.b__law_names, D.b__law_names_1, take_lit, signs_mk, empty_mk, signsL_len, D.c__law_names_1, D.c__law_names_1i, D.c__law_names_2, D.c__law_names_2i, D.c__law_names_3, D.c__law_names_3i, flat_one, map_str]
    refine ⟨_, w ++ [signsL.getD (q % 36).toNat 0], _, ?_, ?_, ?_, rfl⟩
    · omega
    · simp [hw]
    · intro c h
      rcases List.mem_append.mp h with h | h
      · exact hc c h
      · rw [List.mem_singleton.mp h]; exact signsL_mem (by omega)
  · rintro L ⟨q, w, x6, hq, hw, hc, rfl⟩
    rw [List.length_range] at hw
    ktf_call [D.b__law_names, D.b__law_names_1, take_lit, signs_mk, empty_mk, signsL_len, D.c__law_names_1, D.c__law_names_1i, D.c__law_names_2, D.c__law_names_2i, D.c__law_names_3, D.c__law_names_3i, flat_one, map_str]
    generalize hf : q % 36 = f
    have hf0 : 0 ≤ f := by omega
    have hf1 : f < 36 := by omega
    have hq2 : 0 ≤ q / 36 := by omega
    generalize q / 36 = q2 at hq2
    refine wx_compT (fun k : Nat => T.int k) (fun k => T.str (mkS (nm1 w t f k))) rfl (fun _ => ⟨_, _, rfl⟩) ?_ ?_
    · intro k ha
      have hk := List.mem_range.mp ha
      ktf_call [D.b__law_names, D.b__law_names_1, take_lit, signs_mk, empty_mk, signsL_len, D.c__law_names_1, D.c__law_names_1i, D.c__law_names_2, D.c__law_names_2i, D.c__law_names_3, D.c__law_names_3i, flat_one, map_str]
      rfl
    · intro y
      ktf_call [D.b__law_names, D.b__law_names_1, take_lit, signs_mk, empty_mk, signsL_len, D.c__law_names_1, D.c__law_names_1i, D.c__law_names_2, D.c__law_names_2i, D.c__law_names_3, D.c__law_names_3i, flat_one, map_str]
      have hq3 : 0 ≤ q2 / 3 := by omega
      have hw' : ∀ k, IsNm (mkS (nm1 w t f k)) := fun k => nm1_ok (by omega) ht0 (by omega) hc
      (first | refine wx_cS (fun hb => ?_) (fun hb => ?_) | refine wx_beS (fun hb => ?_) (fun hb => ?_) | refine wx_cB (fun hb => ?_) (fun hb => ?_)) <;> (try simp only [decide_eq_true_eq, decide_eq_false_iff_not, Bool.not_eq_true', Bool.not_eq_false', Int.not_le, Int.not_lt, Bool.and_eq_true, Bool.or_eq_true, Bool.and_eq_false_iff, Bool.or_eq_false_iff, beq_iff_eq, beq_eq_false_iff_ne, ne_eq] at hb)
      · have c1 : signsL.getD f.toNat 0 ∈ signsL := signsL_mem (by omega)
        have c2 : signsL.getD ((f + 1) % 36).toNat 0 ∈ signsL := signsL_mem (by omega)
        have c3 : signsL.getD f.toNat 0 ≠ signsL.getD ((f + 1) % 36).toNat 0 := fun e => by
          have := signsL_inj (by omega) (by omega) e
          omega
        generalize hc1 : signsL.getD f.toNat 0 = a at c1 c3
        generalize hc2 : signsL.getD ((f + 1) % 36).toNat 0 = b at c2 c3
        have hmm : ∃ n : Nat, (if (6 : Int) < m then (6 : Int) else m) = n ∧ n ≤ 6 ∧ (n : Int) ≤ m ∧ (n < 6 → (n : Int) = m) := ⟨(if (6 : Int) < m then (6 : Int) else m).toNat, by split <;> omega, by split <;> omega, by split <;> omega, by split <;> omega⟩
        obtain ⟨n, hn, hn6, hnm, hnm2⟩ := hmm
        ktf_call [D.b__law_names, D.b__law_names_1, take_lit, signs_mk, empty_mk, signsL_len, D.c__law_names_1, D.c__law_names_1i, D.c__law_names_2, D.c__law_names_2i, D.c__law_names_3, D.c__law_names_3i, flat_one, map_str, hc1, hc2, hn]
        refine wx_compT (fun k : Nat => T.int k) (fun k => T.str (mkS (nm2 a k))) rfl (fun _ => ⟨_, _, rfl⟩) ?_ ?_
        · intro k ha
          have hk := List.mem_range.mp ha
          ktf_call [D.b__law_names, D.b__law_names_1, take_lit, signs_mk, empty_mk, signsL_len, D.c__law_names_1, D.c__law_names_1i, D.c__law_names_2, D.c__law_names_2i, D.c__law_names_3, D.c__law_names_3i, flat_one, map_str]
          rfl
        · intro y
          ktf_call [D.b__law_names, D.b__law_names_1, take_lit, signs_mk, empty_mk, signsL_len, D.c__law_names_1, D.c__law_names_1i, D.c__law_names_2, D.c__law_names_2i, D.c__law_names_3, D.c__law_names_3i, flat_one, map_str]
          refine wx_compT (fun k : Nat => T.int (6 + (k : Int))) (fun k => T.str (mkS (nm3 a b k))) rfl (fun _ => ⟨_, _, rfl⟩) ?_ ?_
          · intro k ha
            have hk := List.mem_range.mp ha
            ktf_call [D.b__law_names, D.b__law_names_1, take_lit, signs_mk, empty_mk, signsL_len, D.c__law_names_1, D.c__law_names_1i, D.c__law_names_2, D.c__law_names_2i, D.c__law_names_3, D.c__law_names_3i, flat_one, map_str]
            rfl
          · intro y
            ktf_call [D.b__law_names, D.b__law_names_1, take_lit, signs_mk, empty_mk, signsL_len, D.c__law_names_1, D.c__law_names_1i, D.c__law_names_2, D.c__law_names_2i, D.c__law_names_3, D.c__law_names_3i, flat_one, map_str]
            refine ⟨_, _, rfl, rfl, hq3, .of ?_ ?_ ?_⟩
            · simp only [List.length_append, List.length_map, List.length_range]; omega
            · refine List.nodup_append.mpr ⟨nodup_map_range fun j k _ _ e => nm2_inj (mkS_inj.mp e), nodup_map_range fun j k _ _ e => nm3_inj (mkS_inj.mp e), ?_⟩
              intro x hx y hy e
              obtain ⟨j, _, rfl⟩ := List.mem_map.mp hx
              obtain ⟨k, _, rfl⟩ := List.mem_map.mp hy
              exact nm23_ne c3 (mkS_inj.mp e)
            · intro x hx
              rcases List.mem_append.mp hx with hx | hx
              · obtain ⟨j, hj, rfl⟩ := List.mem_map.mp hx
                have := List.mem_range.mp hj
                exact nm2_ok (by omega) c1
              · obtain ⟨j, hj, rfl⟩ := List.mem_map.mp hx
                have := List.mem_range.mp hj
                exact nm3_ok (by omega) c1 c2
      · ktf_call [D.b__law_names, D.b__law_names_1, take_lit, signs_mk, empty_mk, signsL_len, D.c__law_names_1, D.c__law_names_1i, D.c__law_names_2, D.c__law_names_2i, D.c__law_names_3, D.c__law_names_3i, flat_one, map_str]
        refine ⟨_, _, rfl, rfl, hq3, .of ?_ ?_ ?_⟩
        · simp only [List.length_map, List.length_range]; omega
        · exact nodup_map_range fun j k hj hk e => nm1_inj ht0 (by omega) (by omega) (by omega) (mkS_inj.mp e)
        · intro x hx
          obtain ⟨j, hj, rfl⟩ := List.mem_map.mp hx
          exact hw' j
end
end TV

set_option Elab.async false
set_option linter.all false
set_option maxRecDepth 100000
set_option maxHeartbeats 4000000
set_option exponentiation.threshold 4000
set_option pp.maxSteps 1500
namespace TV
open PySem PySem.Spec PyProof.Rows L2
/-! TW4: alike but for who holds it; rows of texts -/
abbrev DR (p : Int) : T := .lst true [.int p]
mutual
theorem eqT_refl : ∀ t : T, dep t < 1000 → eqT t t = true
  | .non, _ => rfl
  | .bl b, _ => by show (b == b) = true; simp
  | .int i, _ => by show (i == i) = true; simp
  | .str s, _ => by show (s == s) = true; simp
  | .lst _ xs, h => by
    have h : deps xs + 1 < 1000 := h
    exact eqTs_refl xs (by omega)
  | .tup _ xs, h => by
    have h : deps xs + 1 < 1000 := h
    exact eqTs_refl xs (by omega)
  | .dic _ _ _, h => absurd h (by show ¬ 1000 < 1000; omega)
  | .dit _ _ _, h => absurd h (by show ¬ 1000 < 1000; omega)
  | .lkd _ _, h => absurd h (by show ¬ 1000 < 1000; omega)
  | .scr _, h => absurd h (by show ¬ 1000 < 1000; omega)
theorem eqTs_refl : ∀ ts : List T, deps ts < 1000 → eqTs ts ts = true
  | [], _ => rfl
  | t :: ts, h => by
    have h : Nat.max (dep t) (deps ts) < 1000 := h
    have h1 := Nat.lt_of_le_of_lt (Nat.le_max_left (dep t) (deps ts)) h
    have h2 := Nat.lt_of_le_of_lt (Nat.le_max_right (dep t) (deps ts)) h
    rw [eqTs_cons, eqT_refl t h1, eqTs_refl ts h2]; rfl
end
mutual
theorem dep_frz : ∀ t : T, dep (frz t) = dep t
  | .non => rfl
  | .bl _ => rfl
  | .int _ => rfl
  | .str _ => rfl
  | .lst _ xs => by rw [frz_lst, dep, dep, deps_frzs xs]
  | .tup _ xs => by rw [frz_tup, dep, dep, deps_frzs xs]
  | .dic _ _ _ => by rw [frz_dic]; rfl
  | .dit _ _ _ => by rw [frz_dit]; rfl
  | .lkd _ _ => rfl
  | .scr _ => rfl
theorem deps_frzs : ∀ ts : List T, deps (frzs ts) = deps ts
  | [] => rfl
  | t :: ts => by rw [frzs_cons, deps, deps, dep_frz t, deps_frzs ts]
end
mutual
theorem eqT_like : ∀ a b : T, frz a = frz b → dep a < 1000 → eqT a b = true
  | .non, b, e, _ => by cases b <;> first | rfl | (simp [frz_non, frz_bl, frz_int, frz_str, frz_lst, frz_tup, frz_dic, frz_dit, frz_scr, TV.frz] at e)
  | .bl c, b, e, _ => by cases b <;> first | (simp only [frz_bl] at e; cases e; exact eqT_refl _ (by show 0 < 1000; omega)) | (simp [frz_non, frz_bl, frz_int, frz_str, frz_lst, frz_tup, frz_dic, frz_dit, frz_scr, TV.frz] at e)
  | .int i, b, e, _ => by cases b <;> first | (simp only [frz_int] at e; cases e; exact eqT_refl _ (by show 0 < 1000; omega)) | (simp [frz_non, frz_bl, frz_int, frz_str, frz_lst, frz_tup, frz_dic, frz_dit, frz_scr, TV.frz] at e)
  | .str s, b, e, _ => by cases b <;> first | (simp only [frz_str] at e; cases e; exact eqT_refl _ (by show 0 < 1000; omega)) | (simp [frz_non, frz_bl, frz_int, frz_str, frz_lst, frz_tup, frz_dic, frz_dit, frz_scr, TV.frz] at e)
  | .lst _ xs, b, e, h => by
    have h : deps xs + 1 < 1000 := h
    cases b <;> first | (simp only [frz_lst] at e; injection e with _ e; exact eqTs_like xs _ e (by omega)) | (simp [frz_non, frz_bl, frz_int, frz_str, frz_lst, frz_tup, frz_dic, frz_dit, frz_scr, TV.frz] at e)
  | .tup _ xs, b, e, h => by
    have h : deps xs + 1 < 1000 := h
    cases b <;> first | (simp only [frz_tup] at e; injection e with _ e; exact eqTs_like xs _ e (by omega)) | (simp [frz_non, frz_bl, frz_int, frz_str, frz_lst, frz_tup, frz_dic, frz_dit, frz_scr, TV.frz] at e)
  | .dic _ _ _, _, _, h => absurd h (by show ¬ 1000 < 1000; omega)
  | .dit _ _ _, _, _, h => absurd h (by show ¬ 1000 < 1000; omega)
  | .lkd _ _, _, _, h => absurd h (by show ¬ 1000 < 1000; omega)
  | .scr _, _, _, h => absurd h (by show ¬ 1000 < 1000; omega)
theorem eqTs_like : ∀ as bs : List T, frzs as = frzs bs → deps as < 1000 → eqTs as bs = true
  | [], [], _, _ => rfl
  | [], b :: bs, e, _ => by rw [frzs_cons] at e; cases e
  | a :: as, [], e, _ => by rw [frzs_cons] at e; cases e
  | a :: as, b :: bs, e, h => by
    have h : Nat.max (dep a) (deps as) < 1000 := h
    have h1 := Nat.lt_of_le_of_lt (Nat.le_max_left (dep a) (deps as)) h
    have h2 := Nat.lt_of_le_of_lt (Nat.le_max_right (dep a) (deps as)) h
    rw [frzs_cons, frzs_cons] at e
    injection e with e1 e2
    rw [eqTs_cons, eqT_like a b e1 h1, eqTs_like as bs e2 h2]; rfl
end
/-- rows, whatever is held alone -/
abbrev rowsF (R : List (List Str)) : List T := R.map fun r => T.lst false (r.map T.str)
theorem rowsF_len {R : List (List Str)} {x3 : List T} (hx : frzs x3 = rowsF R) : x3.length = R.length := by
  have := congrArg List.length hx
  rwa [frzs_map, List.length_map, List.length_map] at this
theorem rowsF_deps {R : List (List Str)} {x3 : List T} (hx : frzs x3 = rowsF R) : deps x3 ≤ 1 := by
  rw [← deps_frzs, hx]; exact deps_rows _ _ _ (by decide)
theorem rowsF_eq {R : List (List Str)} {x y : List T} (hx : frzs x = rowsF R) (hy : frzs y = rowsF R) : eqTs x y = true := eqTs_like x y (hx.trans hy.symm) (by have := rowsF_deps hx; omega)
theorem slot_at {L : Slots} {i : Nat} {t : T} (e : slot L i = some t) : L[i]? = some (some t) := by
  unfold slot at e
  cases q : L[i]? with
  | none => rw [q] at e; cases e
  | some x => rw [q] at e; exact congrArg some e
theorem frz_str_inv {x : T} {s : Str} (h : frz x = .str s) : x = .str s := by
  cases x <;> first | (simp only [frz_str] at h; exact h) | (simp [frz_non, frz_bl, frz_int, frz_str, frz_lst, frz_tup, frz_dic, frz_dit, frz_scr, TV.frz] at h)
theorem frzs_str_inv : ∀ {xs : List T} {ss : List Str}, frzs xs = ss.map T.str → xs = ss.map T.str
  | [], [], _ => rfl
  | [], s :: ss, h => by cases h
  | x :: xs, [], h => by rw [frzs_cons] at h; cases h
  | x :: xs, s :: ss, h => by
    rw [frzs_cons, List.map_cons] at h
    injection h with h1 h2
    rw [frz_str_inv h1, frzs_str_inv h2]; rfl
theorem wx_idx {α : Type} {R : List (List Str)} {xs : List T} {j : Int} {n i : Nat} {L : Slots} {F : T × Slots → Out α} {Q : α → Slots → Prop} (h : frzs xs = rowsF R) (hj : ixN R.length j = some n) (hn : n < R.length) (hs : slot L i = some (.lst true xs))
    (k : ∀ xs', frzs xs' = rowsF R → wx (F (.lst false ((R.getD n []).map T.str), L.set i (some (.lst true xs')))) Q) : wx (onO (idxL (.s i []) xs j L) F) Q := by
  have hl := rowsF_len h
  have hx : xs[n]? = some (xs[n]'(by omega)) := List.getElem?_eq_getElem (by omega)
  have hf : frz (xs[n]'(by omega)) = .lst false ((R.getD n []).map T.str) := by
    have e : (frzs xs)[n]? = (rowsF R)[n]? := by rw [h]
    rw [frzs_map, List.getElem?_map, List.getElem?_map, hx, List.getElem?_eq_getElem hn] at e
    have e := Option.some.inj e
    rw [e, List.getD_eq_getElem?_getD, List.getElem?_eq_getElem hn]; rfl
  have sf : (frzs xs).set n (frz (xs[n]'(by omega))) = frzs xs := by
    refine List.ext_getElem? fun m => ?_
    by_cases hm : n = m
    · subst hm
      rw [List.getElem?_set_self (by rw [frzs_map, List.length_map]; omega), frzs_map, List.getElem?_map, hx]; rfl
    · rw [List.getElem?_set_ne hm]
  unfold idxL
  rw [hl, hj]
  show wx (onO ((xs[n]?).bind fun x => itemAt (.s i []) x L (.lst true (xs.set n (frz x)))) F) Q
  rw [hx]
  show wx (onO (if isOwn (xs[n]'(by omega)) = true then (if ([] : List Int) = [] then some (frz (xs[n]'(by omega)), L.set i (some (.lst true (xs.set n (frz (xs[n]'(by omega))))))) else none) else some (xs[n]'(by omega), L)) F) Q
  by_cases ho : isOwn (xs[n]'(by omega)) = true
  · rw [if_pos ho, if_pos rfl, hf]
    refine k _ ?_
    rw [← hf, frzs_map, List.map_set, ← frzs_map]
    have : frz (frz (xs[n]'(by omega))) = frz (xs[n]'(by omega)) := by rw [hf, frz_lst, frzs_str]
    rw [this, sf, h]
  · rw [if_neg ho]
    have hx2 : xs[n]'(by omega) = .lst false ((R.getD n []).map T.str) := by
      generalize xs[n]'(by omega) = x at hf ho
      cases x with
      | lst o ys =>
        rw [frz_lst] at hf
        injection hf with _ hf
        rw [frzs_str_inv hf]
        cases o with
        | true => exact absurd rfl ho
        | false => rfl
      | _ => simp [frz_non, frz_bl, frz_int, frz_str, frz_lst, frz_tup, frz_dic, frz_dit, frz_scr, TV.frz] at hf
    rw [hx2]
    have := k xs h
    rwa [show L.set i (some (.lst true xs)) = L by
      refine List.ext_getElem? fun m => ?_
      by_cases hm : i = m
      · subst hm
        have hg := slot_at hs
        rw [List.getElem?_set_self (List.getElem?_eq_some_iff.mp hg).1, hg]
      · rw [List.getElem?_set_ne hm]] at this
end TV

set_option Elab.async false
set_option linter.all false
set_option maxRecDepth 100000
set_option maxHeartbeats 4000000
set_option exponentiation.threshold 4000
set_option pp.maxSteps 1500
namespace TV
open PySem PySem.Spec PyProof.Rows L2
local macro_rules | `(tactic| ktf_call [$as,*]) => `(tactic| simp (maxSteps := 1000000) (disch := first | omega | assumption | (with_reducible ((repeat (first | assumption | exact deps_str _ _ | exact deps_int _ _ | exact deps_bl _ _ | exact deps_rows _ _ _ (by decide) | exact deps_nil _ | exact dep_s _ _ | exact dep_i _ _ | exact dep_b _ _ | exact dep_n _ | (refine deps_map ?_; intro _ _) | apply deps_cons | apply deps_app | refine dep_lst2 ?_ (by decide) | refine dep_tup2 ?_ (by decide) | exact Nat.zero_le _)); done)) | (simp only [List.length_append, List.length_cons, List.length_nil, List.length_take, List.length_drop, List.length_replicate, List.length_map, List.length_range, List.length_singleton, mkS_len]; omega) | (decide; done)) only [wx_ok, wx_stuck, wx_bind, wx_noErr, wf_ok, cS_t, cS_f, eS_t, eS_f, exec_iffS, ev_iteS, onBe_bl, cB_t, cB_f, cB_and, cB_or, cB_not, cB_b, sg_has, goA_some, callRun_eq, callBack_ok, onO_some, onO_none, noErr_ok, onB_bl, onF_nx, onF_rt, onF_bk, onF_ct, loopF_nx, loopF_ct, loopF_bk, loopF_rt, slot_0, slot_s, obind_some, obind_none, omap_some, omap_none, rd_v, rd_s, rd_p, pathT_nil, pathT_lst, pathT_tup, rds_nil, rds_cons, ev_var, ev_cst, ev_pth, ev_op, nlkO_eq, ev_lst, ev_tup, ev_dic, ev_dit0, ev_call, ev_and, ev_or, ev_not, ev_chain, ev_comp, ev_pop, evs_nil, evs_cons, evq_nil, evq_var, evq_pth, evo_var, evo_pthT, evo_pthF, evt_nil, evt_one, evi_seq, evi_rng, evi_enm, evi_zip, evi_rev, mvr_var, mvr_tup, mvr_lst, mvs_nil, mvs_cons, mv_var, evb_eq, exec_set, exec_setm, exec_par, exec_aug, augRun_int, exec_sub, exec_mut, onL_l, exec_exp, exec_ret, exec_retn, exec_whl, exec_for, endF_nx, endF_rt, backS_n, backS_s, backSS_n, backSS_k, exec_brk, exec_cnt, exec_pass, exec_rais, execs_nil, execs_cons, formOpen_t, opRun_eq, opK_bin_int, opK_bin_str, opK_bin_si, opK_cat, opK_cmp, opK_neg, opK_inv, opK_len, opK_abs, opK_int, opK_str, opK_isi, opK_max, opK_min, opK_sum, opK_all, opK_any, opK_idx_str, opK_idx_scr, opK_idx_lst, opK_idx_tup, opK_idx_dic, opK_idx_lkd, opK_get, opK_slc_s01, opK_slc_s10, opK_slc_s11, opK_slc_l01, opK_slc_l10, opK_slc_l11, opK_list, opK_tupl, opK_sortd, kidL_v, kidL_s, kidLs_t, kidLs_f, frz_lst, frz_tup, frz_dic, frz_int, frz_str, frz_bl, frz_non, frz_scr, frzs_nil, frzs_cons, frzs_int, frzs_str, frzs_bl, shrs_int, shrs_str, clns_int, clns_str, frzs_rows, shrs_rows, clns_rows, frzs_app, shrs_app, clns_app, itSeq_L, itSeq_T, itSeq_S, itSeq_K, itTpl_v, itTpl_s, itTpl_f, itTpl_tF, itTpl_tT, itStr_v, itStr_ss, itKey_s, itKey_t, itFrz_v, itFrz_s, itFrz_f, itFrz_tF, itFrz_tT, finF_rt, finF_nx, finS_eq, outS_nil, outS, argS, varRun, pthRun, dspRun, mvV, shr, cln, shrs, clns, catRun, mutsOf, noDup, lent, frzO, setOuts, wipeL, backL, tgs, backOk, mT, aS, aSs, simpEs, simp1, setO, sub_one, mutT, LINE_eq, sop, bAdd, bSub, bMul_h, bMul, bDiv_h, bDiv, bMod, bPow, bShl, bShr, bAnd, bOr, bXor, cEq_i, cEq_s, cEq_b, cNe_i, cNe_s, cEq_go, cNe_go, cLt_i, cLe_i, cGt_i, cGe_i, cLt_s, cLe_s, cGt_s, cGe_s, cIs_n, cIsN_n, cIn_L, cNin_L, eqT_int, eqT_str, eqT_bl, eqT_lst, eqT_tup, eqTs_nil, eqTs_cons, eqTs_n1, eqTs_n2, eqTs_str, eqTs_int, eqTs_rows, eqTs_nilR, any_str, idxL_one, idxL_strn, idxL_intn, idxL_row, atI_nn, signAt_nn, rng_n, rng_ab, lenS_l, lenS_t, lenS_scr, lenS_d, lenS_s, isiS, tyOf, isNon, List.map_cons, List.map_nil, List.cons_append, List.nil_append, List.replicate_succ, List.replicate_zero, List.set_cons_zero, List.set_cons_succ, List.length_cons, List.length_nil, List.getElem?_cons_zero, List.getElem?_cons_succ, List.length_map, List.length_append, List.all_cons, List.all_nil, List.contains_nil, List.contains_cons, Option.some.injEq, Nat.reduceAdd, Nat.reduceSub, Nat.reduceLeDiff, Nat.reduceBEq, Nat.reduceEqDiff, Int.reduceNeg, Int.reduceToNat, Int.reduceAdd, Int.reduceSub, Int.reduceMul, Int.reducePow, Int.reduceLT, Int.reduceLE, Int.reduceEq, Int.reduceNe, String.reduceEq, if_true, if_false, reduceIte, reduceCtorEq, ne_eq, not_false_eq_true, implies_true, BEq.rfl, beq_self_eq_true, Bool.false_eq_true, Bool.true_eq_false, Bool.or_false, Bool.false_or, Bool.or_true, Bool.true_or, Bool.and_true, Bool.true_and, Bool.and_false, Bool.false_and, Bool.not_true, Bool.not_false, Bool.not_not, and_true, true_and, and_false, false_and, or_true, true_or, or_false, false_or, decide_true, decide_false, id_eq, evq_cst, evo_cst, mv_cst, mvr_cst, evq_op, evo_op, mv_op, mvr_op, evq_lst, evo_lst, mv_lst, evq_tup, evo_tup, mv_tup, evq_dic, evo_dic, mv_dic, mvr_dic, evq_dit0, evo_dit0, mv_dit0, mvr_dit0, evq_call, evo_call, mv_call, mvr_call, evq_and, evo_and, mv_and, mvr_and, evq_or, evo_or, mv_or, mvr_or, evq_not, evo_not, mv_not, mvr_not, evq_ite, evo_ite, mv_ite, mvr_ite, evq_chain, evo_chain, mv_chain, mvr_chain, evq_comp, evo_comp, mv_comp, mvr_comp, evq_srtk, evo_srtk, mv_srtk, mvr_srtk, evq_pop, evo_pop, mv_pop, mvr_pop, mv_pth, mvr_pth, sortL_str, sortL_s, sortT_str, mkS_one, mkS_len, mkS_app, slcS_hi, slcS_lo, bSMul_mk, bSAdd_mk, signAt_mk, lenS_mk, and_1, big_no, List.length_range, Out.bind_ok, filter_tt, Int.toNat_natCast, ite_le, ite_lt, app_str, opK_catT, opK_listT, opK_srtset, kidT_v, kidT_s, kidTs_t, kidTs_f, catTRun, sortSetL, frz_dit, isLkd_non, isLkd_bl, isLkd_int, isLkd_str, isLkd_lst, isLkd_tup, isLkd_dic, isLkd_dit, isLkd_lkd, isLkd_scr, isOwn_non, isOwn_bl, isOwn_int, isOwn_str, isOwn_lst, isOwn_tup, isOwn_dic, isOwn_dit, isOwn_lkd, isOwn_scr, ite_self, strsOf_map, true_imp_iff, false_imp_iff, slcL, cutT_hi, cutT_lo, take_map, drop_map, Int.cast_ofNat_Int, ev_lend, lendRun, lendA, lendBack, List.any_nil, List.any_cons, entT_two, entT_three, opK_lrng1, opK_lrng2, $[$as:term],*])
section
variable {tb : Tbl} {N d : Nat}
/-! a dict of texts -/
theorem dget_map (f : Str → T) (x : Str) : ∀ K : List Str, dget (Sum.inr x : Key) (K.map Sum.inr) (K.map f) = if x ∈ K then some (f x) else none
  | [] => rfl
  | k :: K => by
    show (if (Sum.inr k : Key) = Sum.inr x then some (f k) else dget (Sum.inr x : Key) (K.map Sum.inr) (K.map f)) = _
    rw [dget_map f x K]
    by_cases h : k = x
    · subst h; simp
    · rw [if_neg (fun e => h (Sum.inr.inj e))]
      by_cases h2 : x ∈ K
      · rw [if_pos h2, if_pos (List.mem_cons_of_mem _ h2)]
      · rw [if_neg h2, if_neg (by simp only [List.mem_cons, not_or]; exact ⟨fun e => h e.symm, h2⟩)]
def kAdd (K : List Str) (x : Str) : List Str := if x ∈ K then K else K ++ [x]
theorem dput_map (f : Str → T) (x : Str) (t : T) : ∀ K : List Str, K.Nodup → dput (Sum.inr x : Key) t (K.map Sum.inr) (K.map f) = ((kAdd K x).map Sum.inr, (kAdd K x).map fun y => if y = x then t else f y)
  | [], _ => by
    show ([(Sum.inr x : Key)], [t]) = _
    simp [kAdd]
  | k :: K, nd => by
    obtain ⟨n1, n2⟩ := List.nodup_cons.mp nd
    show (if (Sum.inr k : Key) = Sum.inr x then ((Sum.inr k : Key) :: K.map Sum.inr, t :: K.map f) else ((Sum.inr k : Key) :: (dput (Sum.inr x : Key) t (K.map Sum.inr) (K.map f)).1, f k :: (dput (Sum.inr x : Key) t (K.map Sum.inr) (K.map f)).2)) = _
    rw [dput_map f x t K n2]
    by_cases h : k = x
    · subst h
      rw [if_pos rfl]
      have : kAdd (k :: K) k = k :: K := by simp [kAdd]
      rw [this, List.map_cons, List.map_cons, if_pos rfl]
      refine Prod.ext rfl (congrArg (t :: ·) (List.map_congr_left fun y hy => ?_))
      rw [if_neg (fun e : y = k => n1 (by rw [← e]; exact hy))]
    · rw [if_neg (fun e => h (Sum.inr.inj e))]
      have : kAdd (k :: K) x = k :: kAdd K x := by
        unfold kAdd
        by_cases h2 : x ∈ K
        · rw [if_pos h2, if_pos (List.mem_cons_of_mem _ h2)]
        · rw [if_neg h2, if_neg (by simp only [List.mem_cons, not_or]; exact ⟨fun e => h e.symm, h2⟩)]; rfl
      rw [this, List.map_cons, List.map_cons, if_neg h]
theorem kAdd_nodup {K : List Str} {x : Str} (h : K.Nodup) : (kAdd K x).Nodup := by
  unfold kAdd
  by_cases h2 : x ∈ K
  · rw [if_pos h2]; exact h
  · rw [if_neg h2, List.nodup_append]
    exact ⟨h, by simp, fun a ha b hb e => by rw [List.mem_singleton.mp hb] at e; subst e; exact h2 ha⟩
theorem kAdd_mem {K : List Str} {x y : Str} : y ∈ kAdd K x ↔ y ∈ K ∨ y = x := by
  unfold kAdd
  by_cases h2 : x ∈ K
  · rw [if_pos h2]; exact ⟨.inl, fun z => z.elim id fun (e : y = x) => by subst e; exact h2⟩
  · rw [if_neg h2]; simp
theorem inr_nodup {K : List Str} (h : K.Nodup) : (K.map (Sum.inr : Str → Key)).Nodup := List.Pairwise.map Sum.inr (fun a b h e => h (Sum.inr.inj e)) h
theorem nodup_len : ∀ {xs ys : List Str}, xs.Nodup → (∀ x ∈ xs, x ∈ ys) → xs.length ≤ ys.length
  | [], ys, _, _ => Nat.zero_le _
  | x :: xs, ys, h, hs => by
    obtain ⟨h1, h2⟩ := List.nodup_cons.mp h
    have hx := hs x List.mem_cons_self
    have := nodup_len (ys := ys.erase x) h2 fun y hy => (List.mem_erase_of_ne (fun e : y = x => h1 (by rw [← e]; exact hy))).mpr (hs y (List.mem_cons_of_mem _ hy))
    rw [List.length_erase_of_mem hx] at this
    have := List.length_pos_of_mem hx
    rw [List.length_cons]; omega
theorem mem_get {xs : List Str} {k : Nat} (h : k < xs.length) : xs.getD k default ∈ xs := by
  rw [List.getD_eq_getElem?_getD, List.getElem?_eq_getElem h]; exact List.getElem_mem h
theorem range_get (xs : List Str) : (List.range xs.length).map (fun k => xs.getD k default) = xs := by
  refine List.ext_getElem (by simp) fun i h1 h2 => ?_
  rw [List.getElem_map, List.getElem_range, List.getD_eq_getElem?_getD, List.getElem?_eq_getElem h2]; rfl
theorem shr_1 (x : Int) (k : Nat) : 0 ≤ x → Builtin.bitAnd (x / 2 ^ k) 1 = x / 2 ^ k % 2 := fun _ => and_1 _
theorem row_ok [D.H__law_row tb] (ns : List Str) (m : Int) (hn : ns.length ≤ 12) : wf (run tb N (d + 1) "_law_row" [.lst true (ns.map T.str), .int m]) fun r o => ∃ xs : List Str, r = .lst true (xs.map T.str) ∧ o = [] ∧ xs.Sublist ns := by
  refine wf_in (us := [.lst false (ns.map T.str), .int m]) rfl rfl (by ktf_call [D.b__law_row, D.c__law_row_1, D.c__law_row_1i]) ?_
  ktf_call [D.b__law_row, D.c__law_row_1, D.c__law_row_1i]
  refine wx_compA (fun k : Nat => T.int k) (fun k => decide (m / 2 ^ k % 2 = 1)) (fun k => T.str (ns.getD k default)) rfl ?_ ?_ ?_
  · intro k hk
    have hk := List.mem_range.mp hk
    ktf_call [D.b__law_row, D.c__law_row_1, D.c__law_row_1i]
  · intro k hk _
    have hk := List.mem_range.mp hk
    ktf_call [D.b__law_row, D.c__law_row_1, D.c__law_row_1i]
  · intro y
    have e : ((List.range ns.length).filter fun k => decide (m / 2 ^ k % 2 = 1)).map (fun k => T.str (ns.getD k default)) = (((List.range ns.length).filter fun k => decide (m / 2 ^ k % 2 = 1)).map fun k => ns.getD k default).map T.str := by rw [List.map_map]; rfl
    rw [e]
    refine ⟨_, rfl, ?_⟩
    have := List.Sublist.map (fun k => ns.getD k default) (List.filter_sublist (p := fun k : Nat => decide (m / 2 ^ k % 2 = 1)) (l := List.range ns.length))
    rw [range_get] at this
    exact this
theorem meets_ok [D.H_meets_evenly tb] (o p : Bool) (xs ys : List Str) (h : xs.length ≤ 100) : run tb N (d + 1) "meets_evenly" [.lst o (xs.map T.str), .lst p (ys.map T.str)] = .ok (.bl (decide (((xs.filter fun x => decide (x ∈ ys)).length : Int) % 2 = 0))) [] := by
  refine wf_eq (wf_in (us := [.lst false (xs.map T.str), .lst false (ys.map T.str)]) rfl rfl (by ktf_call [D.b_meets_evenly, D.c_meets_evenly_1, D.c_meets_evenly_1i]) ?_)
  ktf_call [D.b_meets_evenly, D.c_meets_evenly_1, D.c_meets_evenly_1i]
  refine wx_compA T.str (fun x => decide (x ∈ ys)) T.str rfl ?_ ?_ ?_
  · intro x hx
    ktf_call [D.b_meets_evenly, D.c_meets_evenly_1, D.c_meets_evenly_1i]
  · intro x hx _
    ktf_call [D.b_meets_evenly, D.c_meets_evenly_1, D.c_meets_evenly_1i]
  · intro y
    ktf_call [D.b_meets_evenly, D.c_meets_evenly_1, D.c_meets_evenly_1i]
theorem good_ok [D.H__law_rows_good tb] (xs : List Str) (h : xs.length ≤ 100) : run tb N (d + 1) "_law_rows_good" [.lst false [.lst false (xs.map T.str)], .lst false [.lst false (xs.map T.str)]] = .ok (.bl true) [] := by
  refine wf_eq (wf_in (us := [.lst false [.lst false (xs.map T.str)], .lst false [.lst false (xs.map T.str)]]) rfl rfl (by ktf_call [D.b__law_rows_good, D.b__law_rows_good_1, D.c__law_rows_good_1, D.c__law_rows_good_1i]) ?_)
  ktf_call [D.b__law_rows_good, D.b__law_rows_good_1, D.c__law_rows_good_1, D.c__law_rows_good_1i]
  refine wx_forT (fun pre L => ∃ x2, L = [some (.lst false [.lst false (xs.map T.str)]), some (.lst false [.lst false (xs.map T.str)]), x2, none]) ⟨_, rfl⟩ ?_ ?_
  · rintro pre t post L e ⟨x2, rfl⟩
    have mem : t ∈ pre ++ t :: post := by simp
    rw [← e] at mem
    have := List.mem_singleton.mp mem
    subst this
    refine ⟨_, rfl, ?_⟩
    ktf_call [D.b__law_rows_good, D.b__law_rows_good_1, D.c__law_rows_good_1, D.c__law_rows_good_1i]
    refine wx_compA T.str (fun _ => false) T.str rfl ?_ ?_ ?_
    · intro x hx
      ktf_call [D.b__law_rows_good, D.b__law_rows_good_1, D.c__law_rows_good_1, D.c__law_rows_good_1i]
    · intro x hx h
      cases h
    · intro y
      rw [List.filter_eq_nil_iff.mpr (by simp)]
      ktf_call [D.b__law_rows_good, D.b__law_rows_good_1, D.c__law_rows_good_1, D.c__law_rows_good_1i]
      exact ⟨_, rfl⟩
  · rintro L ⟨x2, rfl⟩
    ktf_call [D.b__law_rows_good, D.b__law_rows_good_1, D.c__law_rows_good_1, D.c__law_rows_good_1i]
theorem keysOf_nil : keysOf [] = some [] := rfl
/-- how often, odd -/
def par (C : List Str) (x : Str) : Bool := decide (C.count x % 2 = 1)
def KD (K C : List Str) : T := .dic true (K.map Sum.inr) (K.map fun x => T.bl (par C x))
theorem kd_get {K C : List Str} {x : Str} {L : Slots} (h : ∀ x, x ∈ K ↔ x ∈ C) : getD (K.map Sum.inr) (K.map fun x => T.bl (par C x)) (.str x) (.bl false) (.v (.bl false)) L = some (.bl (par C x), L) := by
  show (match dget (Sum.inr x : Key) (K.map Sum.inr) (K.map fun x => T.bl (par C x)) with | some x => if isOwn x then none else some (x, L) | none => some (T.bl false, L)) = _
  rw [dget_map]
  by_cases hk : x ∈ K
  · rw [if_pos hk]; rfl
  · rw [if_neg hk]
    have : par C x = false := by
      unfold par
      rw [List.count_eq_zero.mpr (fun z => hk ((h x).mpr z))]; rfl
    rw [this]
theorem kd_put {K C : List Str} {x : Str} (hn : K.Nodup) (hl : K.length ≤ 1000) : updT (subT (.str x) (.bl (!par C x))) [] (.dic true (K.map Sum.inr) (K.map fun x => T.bl (par C x))) = some (.dic true ((kAdd K x).map Sum.inr) ((kAdd K x).map fun y => T.bl (par (C ++ [x]) y))) := by
  show (if (K.map (Sum.inr : Str → Key)).length < LINE ∧ (K.map (Sum.inr : Str → Key)).Nodup then some (T.dic true (dput (Sum.inr x : Key) (.bl (!par C x)) (K.map Sum.inr) (K.map fun x => T.bl (par C x))).1 (dput (Sum.inr x : Key) (.bl (!par C x)) (K.map Sum.inr) (K.map fun x => T.bl (par C x))).2) else none) = _
  rw [if_pos ⟨by rw [List.length_map, LINE_eq]; omega, inr_nodup hn⟩, dput_map _ _ _ _ hn]
  refine congrArg some (congrArg (T.dic true _) (List.map_congr_left fun y _ => ?_))
  by_cases e : y = x
  · subst e
    rw [if_pos rfl]
    refine congrArg T.bl ?_
    unfold par
    rw [List.count_append, List.count_singleton_self]
    by_cases h : C.count y % 2 = 1
    · rw [decide_eq_true h, decide_eq_false (by omega)]; rfl
    · rw [decide_eq_false h, decide_eq_true (by omega)]; rfl
  · rw [if_neg e]
    refine congrArg T.bl ?_
    unfold par
    rw [List.count_append, List.count_eq_zero (l := [x]) |>.mpr (by simpa using e)]; rfl
theorem kd_idx {K : List Str} {C : List Str} {x : Str} {L : Slots} {i : Nat} (h : x ∈ K) : idxD (.s i []) (K.map Sum.inr) (K.map fun x => T.bl (par C x)) (.str x) L = some (.bl (par C x), L) := by
  show ((dget (Sum.inr x : Key) (K.map Sum.inr) (K.map fun x => T.bl (par C x))).bind fun x => if isOwn x then none else some (x, L)) = _
  rw [dget_map, if_pos h]; rfl
theorem kd_frz {K C : List Str} : frzs (K.map fun x => T.bl (par C x)) = K.map fun x => T.bl (par C x) := by
  rw [frzs_map, List.map_map]
  refine List.map_congr_left fun y _ => ?_
  rfl
theorem kd_keys {K : List Str} : (K.map (Sum.inr : Str → Key)).map keyT = K.map T.str := by rw [List.map_map]; rfl
theorem kd_ok {K : List Str} (h : ∀ x ∈ K, PyData.strOk x = true) : keysOk (K.map Sum.inr) = true := by
  unfold keysOk
  rw [List.all_map]
  exact List.all_eq_true.mpr h
theorem IsNm.ok {x : Str} (h : IsNm x) : PyData.strOk x = true := by
  obtain ⟨l, rfl, _, _, hc⟩ := h
  unfold PyData.strOk
  rw [← Array.all_toList]
  exact List.all_eq_true.mpr fun c h => by
    have : signsL.all (fun c => decide (c < 0x110000)) = true := by decide
    exact List.all_eq_true.mp this c (hc c h)
/-- the rows' sum -/
def sumR (R : List (List Str)) (ns : List Str) : List Str := ns.filter fun x => par R.flatten x
theorem summed_ok [D.H_summed tb] (R : List (List Str)) (ns : List Str) (o : Bool) (x8 : List T) (hx : frzs x8 = rowsF R) (hn : ns.length ≤ 12) (hs : SLt ns) (hk : ∀ x ∈ ns, IsNm x) (hR : ∀ r ∈ R, ∀ x ∈ r, x ∈ ns) (hl : R.length ≤ 100) :
    run tb N (d + 1) "summed" [.lst o x8] = .ok (.lst true ((sumR R ns).map T.str)) [] := by
  refine wf_eq (wf_in (us := [.lst false (R.map fun r => .lst false (r.map T.str))]) rfl rfl (by ktf_call [D.b_summed, D.b_summed_1, D.b_summed_2, D.c_summed_1, D.c_summed_1i, kd_get, kd_put, kd_idx, kd_frz, kd_keys, kd_ok, keysOf_nil, TV.isDic, hx]) ?_)
  ktf_call [D.b_summed, D.b_summed_1, D.b_summed_2, D.c_summed_1, D.c_summed_1i, kd_get, kd_put, kd_idx, kd_frz, kd_keys, kd_ok, keysOf_nil, TV.isDic]
  refine wx_for (fun r : List Str => T.lst false (r.map T.str)) R (fun pre L => ∃ K x2 x3, K.Nodup ∧ (∀ x, x ∈ K ↔ x ∈ pre.flatten) ∧ L = [some (.lst false (R.map fun r => .lst false (r.map T.str))), some (.dic true (K.map Sum.inr) (K.map fun x => T.bl (par pre.flatten x))), x2, x3]) ⟨[], _, _, .nil, by simp, rfl⟩ ?_ ?_
  · rintro pre r post L e ⟨K, x2, x3, nd, hm, rfl⟩
    refine ⟨_, rfl, ?_⟩
    have hr : r ∈ R := by rw [e]; simp
    have hp : ∀ q ∈ pre, q ∈ R := fun q h => by rw [e]; simp [h]
    ktf_call [D.b_summed, D.b_summed_1, D.b_summed_2, D.c_summed_1, D.c_summed_1i, kd_get, kd_put, kd_idx, kd_frz, kd_keys, kd_ok, keysOf_nil, TV.isDic]
    refine wx_for T.str r (fun pr L => ∃ K x3, K.Nodup ∧ (∀ x, x ∈ K ↔ x ∈ pre.flatten ++ pr) ∧ L = [some (.lst false (R.map fun r => .lst false (r.map T.str))), some (.dic true (K.map Sum.inr) (K.map fun x => T.bl (par (pre.flatten ++ pr) x))), some (.lst false (r.map T.str)), x3]) ⟨K, _, nd, by simpa using hm, by rw [List.append_nil]⟩ ?_ ?_
    · rintro pr x po L e2 ⟨K, x3, nd, hm, rfl⟩
      refine ⟨_, rfl, ?_⟩
      have hK : K.length ≤ 12 := by
        refine Nat.le_trans (nodup_len nd fun y hy => ?_) hn
        rcases List.mem_append.mp ((hm y).mp hy) with h | h
        · obtain ⟨q, h1, h2⟩ := List.mem_flatten.mp h
          exact hR q (hp q h1) y h2
        · exact hR r hr y (by rw [e2]; simp [h])
      have hK2 : K.length ≤ 1000 := by omega
      have g1 := fun L => kd_get (L := L) (x := x) hm
      ktf_call [D.b_summed, D.b_summed_1, D.b_summed_2, D.c_summed_1, D.c_summed_1i, kd_get, kd_put, kd_idx, kd_frz, kd_keys, kd_ok, keysOf_nil, TV.isDic, g1]
      refine ⟨kAdd K x, _, kAdd_nodup nd, fun y => ?_, by rw [List.append_assoc]⟩
      rw [kAdd_mem, hm]; simp [or_assoc]
    · rintro L ⟨K, x3, nd, hm, rfl⟩
      ktf_call [D.b_summed, D.b_summed_1, D.b_summed_2, D.c_summed_1, D.c_summed_1i, kd_get, kd_put, kd_idx, kd_frz, kd_keys, kd_ok, keysOf_nil, TV.isDic]
      exact ⟨K, some (.lst false (r.map T.str)), x3, nd, by simpa using hm, by simp⟩
  · rintro L ⟨K, x2, x3, nd, hm, rfl⟩
    have hsub : ∀ y ∈ K, y ∈ ns := fun y hy => by
      obtain ⟨q, h1, h2⟩ := List.mem_flatten.mp ((hm y).mp hy)
      exact hR q h1 y h2
    have hK : K.length ≤ 12 := Nat.le_trans (nodup_len nd hsub) hn
    have ko : ∀ x ∈ K, PyData.strOk x = true := fun x h => (hk x (hsub x h)).ok
    have ko2 := kd_ok ko
    ktf_call [D.b_summed, D.b_summed_1, D.b_summed_2, D.c_summed_1, D.c_summed_1i, kd_get, kd_put, kd_idx, kd_frz, kd_keys, kd_ok, keysOf_nil, TV.isDic]
    refine wx_compA T.str (fun x => par R.flatten x) T.str rfl ?_ ?_ ?_
    · intro x hx
      ktf_call [D.b_summed, D.b_summed_1, D.b_summed_2, D.c_summed_1, D.c_summed_1i, kd_get, kd_put, kd_idx, kd_frz, kd_keys, kd_ok, keysOf_nil, TV.isDic]
    · intro x hx _
      ktf_call [D.b_summed, D.b_summed_1, D.b_summed_2, D.c_summed_1, D.c_summed_1i, kd_get, kd_put, kd_idx, kd_frz, kd_keys, kd_ok, keysOf_nil, TV.isDic]
    · intro y
      have hf : (K.filter fun x => par R.flatten x).length < 64 := Nat.lt_of_le_of_lt (List.length_filter_le _ _) (by omega)
      ktf_call [D.b_summed, D.b_summed_1, D.b_summed_2, D.c_summed_1, D.c_summed_1i, kd_get, kd_put, kd_idx, kd_frz, kd_keys, kd_ok, keysOf_nil, TV.isDic]
      refine congrArg (fun l => T.lst true (List.map T.str l)) (strSort_eq (nd.filter _) (List.Pairwise.filter _ hs) fun a => ?_)
      unfold sumR
      simp only [List.mem_filter]
      refine ⟨fun h => ⟨hsub a h.1, h.2⟩, fun h => ⟨?_, h.2⟩⟩
      refine (hm a).mpr (List.count_pos_iff.mp ?_)
      have := h.2
      simp only [par, decide_eq_true_eq] at this
      omega
end
end TV

set_option Elab.async false
set_option linter.all false
set_option maxRecDepth 100000
set_option maxHeartbeats 4000000
set_option exponentiation.threshold 4000
set_option pp.maxSteps 1500
namespace TV
open PySem PySem.Spec PyProof.Rows L2
local macro_rules | `(tactic| ktf_call [$as,*]) => `(tactic| simp (maxSteps := 1000000) (disch := first | omega | assumption | (with_reducible ((repeat (first | assumption | exact deps_str _ _ | exact deps_int _ _ | exact deps_bl _ _ | exact deps_rows _ _ _ (by decide) | exact deps_nil _ | exact dep_s _ _ | exact dep_i _ _ | exact dep_b _ _ | exact dep_n _ | (refine deps_map ?_; intro _ _) | apply deps_cons | apply deps_app | refine dep_lst2 ?_ (by decide) | refine dep_tup2 ?_ (by decide) | exact Nat.zero_le _)); done)) | (simp only [List.length_append, List.length_cons, List.length_nil, List.length_take, List.length_drop, List.length_replicate, List.length_map, List.length_range, List.length_singleton, mkS_len]; omega) | (decide; done)) only [wx_ok, wx_stuck, wx_bind, wx_noErr, wf_ok, cS_t, cS_f, eS_t, eS_f, exec_iffS, ev_iteS, onBe_bl, cB_t, cB_f, cB_and, cB_or, cB_not, cB_b, sg_has, goA_some, callRun_eq, callBack_ok, onO_some, onO_none, noErr_ok, onB_bl, onF_nx, onF_rt, onF_bk, onF_ct, loopF_nx, loopF_ct, loopF_bk, loopF_rt, slot_0, slot_s, obind_some, obind_none, omap_some, omap_none, rd_v, rd_s, rd_p, pathT_nil, pathT_lst, pathT_tup, rds_nil, rds_cons, ev_var, ev_cst, ev_pth, ev_op, nlkO_eq, ev_lst, ev_tup, ev_dic, ev_dit0, ev_call, ev_and, ev_or, ev_not, ev_chain, ev_comp, ev_pop, evs_nil, evs_cons, evq_nil, evq_var, evq_pth, evo_var, evo_pthT, evo_pthF, evt_nil, evt_one, evi_seq, evi_rng, evi_enm, evi_zip, evi_rev, mvr_var, mvr_tup, mvr_lst, mvs_nil, mvs_cons, mv_var, evb_eq, exec_set, exec_setm, exec_par, exec_aug, augRun_int, exec_sub, exec_mut, onL_l, exec_exp, exec_ret, exec_retn, exec_whl, exec_for, endF_nx, endF_rt, backS_n, backS_s, backSS_n, backSS_k, exec_brk, exec_cnt, exec_pass, exec_rais, execs_nil, execs_cons, formOpen_t, opRun_eq, opK_bin_int, opK_bin_str, opK_bin_si, opK_cat, opK_cmp, opK_neg, opK_inv, opK_len, opK_abs, opK_int, opK_str, opK_isi, opK_max, opK_min, opK_sum, opK_all, opK_any, opK_idx_str, opK_idx_scr, opK_idx_lst, opK_idx_tup, opK_idx_dic, opK_idx_lkd, opK_get, opK_slc_s01, opK_slc_s10, opK_slc_s11, opK_slc_l01, opK_slc_l10, opK_slc_l11, opK_list, opK_tupl, opK_sortd, kidL_v, kidL_s, kidLs_t, kidLs_f, frz_lst, frz_tup, frz_dic, frz_int, frz_str, frz_bl, frz_non, frz_scr, frzs_nil, frzs_cons, frzs_int, frzs_str, frzs_bl, shrs_int, shrs_str, clns_int, clns_str, frzs_rows, shrs_rows, clns_rows, frzs_app, shrs_app, clns_app, itSeq_L, itSeq_T, itSeq_S, itSeq_K, itTpl_v, itTpl_s, itTpl_f, itTpl_tF, itTpl_tT, itStr_v, itStr_ss, itKey_s, itKey_t, itFrz_v, itFrz_s, itFrz_f, itFrz_tF, itFrz_tT, finF_rt, finF_nx, finS_eq, outS_nil, outS, argS, varRun, pthRun, dspRun, mvV, shr, cln, shrs, clns, catRun, mutsOf, noDup, lent, frzO, setOuts, wipeL, backL, tgs, backOk, mT, aS, aSs, simpEs, simp1, setO, sub_one, mutT, LINE_eq, sop, bAdd, bSub, bMul_h, bMul, bDiv_h, bDiv, bMod, bPow, bShl, bShr, bAnd, bOr, bXor, cEq_i, cEq_s, cEq_b, cNe_i, cNe_s, cEq_go, cNe_go, cLt_i, cLe_i, cGt_i, cGe_i, cLt_s, cLe_s, cGt_s, cGe_s, cIs_n, cIsN_n, cIn_L, cNin_L, eqT_int, eqT_str, eqT_bl, eqT_lst, eqT_tup, eqTs_nil, eqTs_cons, eqTs_n1, eqTs_n2, eqTs_str, eqTs_int, eqTs_rows, eqTs_nilR, any_str, idxL_one, idxL_strn, idxL_intn, idxL_row, atI_nn, signAt_nn, rng_n, rng_ab, lenS_l, lenS_t, lenS_scr, lenS_d, lenS_s, isiS, tyOf, isNon, List.map_cons, List.map_nil, List.cons_append, List.nil_append, List.replicate_succ, List.replicate_zero, List.set_cons_zero, List.set_cons_succ, List.length_cons, List.length_nil, List.getElem?_cons_zero, List.getElem?_cons_succ, List.length_map, List.length_append, List.all_cons, List.all_nil, List.contains_nil, List.contains_cons, Option.some.injEq, Nat.reduceAdd, Nat.reduceSub, Nat.reduceLeDiff, Nat.reduceBEq, Nat.reduceEqDiff, Int.reduceNeg, Int.reduceToNat, Int.reduceAdd, Int.reduceSub, Int.reduceMul, Int.reducePow, Int.reduceLT, Int.reduceLE, Int.reduceEq, Int.reduceNe, String.reduceEq, if_true, if_false, reduceIte, reduceCtorEq, ne_eq, not_false_eq_true, implies_true, BEq.rfl, beq_self_eq_true, Bool.false_eq_true, Bool.true_eq_false, Bool.or_false, Bool.false_or, Bool.or_true, Bool.true_or, Bool.and_true, Bool.true_and, Bool.and_false, Bool.false_and, Bool.not_true, Bool.not_false, Bool.not_not, and_true, true_and, and_false, false_and, or_true, true_or, or_false, false_or, decide_true, decide_false, id_eq, evq_cst, evo_cst, mv_cst, mvr_cst, evq_op, evo_op, mv_op, mvr_op, evq_lst, evo_lst, mv_lst, evq_tup, evo_tup, mv_tup, evq_dic, evo_dic, mv_dic, mvr_dic, evq_dit0, evo_dit0, mv_dit0, mvr_dit0, evq_call, evo_call, mv_call, mvr_call, evq_and, evo_and, mv_and, mvr_and, evq_or, evo_or, mv_or, mvr_or, evq_not, evo_not, mv_not, mvr_not, evq_ite, evo_ite, mv_ite, mvr_ite, evq_chain, evo_chain, mv_chain, mvr_chain, evq_comp, evo_comp, mv_comp, mvr_comp, evq_srtk, evo_srtk, mv_srtk, mvr_srtk, evq_pop, evo_pop, mv_pop, mvr_pop, mv_pth, mvr_pth, sortL_str, sortL_s, sortT_str, mkS_one, mkS_len, mkS_app, slcS_hi, slcS_lo, bSMul_mk, bSAdd_mk, signAt_mk, lenS_mk, and_1, big_no, List.length_range, Out.bind_ok, filter_tt, Int.toNat_natCast, ite_le, ite_lt, app_str, opK_catT, opK_listT, opK_srtset, kidT_v, kidT_s, kidTs_t, kidTs_f, catTRun, sortSetL, frz_dit, isLkd_non, isLkd_bl, isLkd_int, isLkd_str, isLkd_lst, isLkd_tup, isLkd_dic, isLkd_dit, isLkd_lkd, isLkd_scr, isOwn_non, isOwn_bl, isOwn_int, isOwn_str, isOwn_lst, isOwn_tup, isOwn_dic, isOwn_dit, isOwn_lkd, isOwn_scr, ite_self, strsOf_map, true_imp_iff, false_imp_iff, slcL, cutT_hi, cutT_lo, take_map, drop_map, Int.cast_ofNat_Int, ev_lend, lendRun, lendA, lendBack, List.any_nil, List.any_cons, entT_two, entT_three, opK_lrng1, opK_lrng2, $[$as:term],*])
section
variable {tb : Tbl} {N d : Nat}
theorem big_mul {t : Int} {n : Nat} (h0 : 0 ≤ t) (h : t < 2147483647 ^ n) (hn : n ≤ 8) : MulOk t 2147483647 := by
  have h1 : (2147483647 : Int) ^ n = ((2147483647 ^ n : Nat) : Int) := (Int.natCast_pow 2147483647 n).symm
  have h2 : 2147483647 ^ n ≤ 2147483647 ^ 8 := Nat.pow_le_pow_right (by decide) hn
  have h3 : 2147483647 ^ 8 < 2 ^ 256 := by decide +kernel
  refine MulOk.of 256 ?_ (by decide +kernel) 
  rw [h1] at h
  omega
theorem big_ok [D.H__law_cell_at tb] [D.H__law_big tb] (ns : List Int) (k : Int) (h0 : 0 ≤ k) (hk : k ≤ 1000) : ∃ p, 0 ≤ p ∧ run tb N (d + 2) "_law_big" [.scr ns, .int k] = .ok (.int p) [] := by
  suffices h : wf (run tb N (d + 2) "_law_big" [.scr ns, .int k]) fun r o => ∃ p, 0 ≤ p ∧ r = .int p ∧ o = [] by
    obtain ⟨r, o, e, p, hp, rfl, rfl⟩ := h
    exact ⟨p, hp, e⟩
  refine wf_in (us := [.scr ns, .int k]) rfl rfl (by ktf_call [D.b__law_big, D.b__law_big_1, cell_ok]) ?_
  ktf_call [D.b__law_big, D.b__law_big_1, cell_ok]
  (first | refine wx_cS (fun hb => ?_) (fun hb => ?_) | refine wx_beS (fun hb => ?_) (fun hb => ?_) | refine wx_cB (fun hb => ?_) (fun hb => ?_)) <;> (try simp only [decide_eq_true_eq, decide_eq_false_iff_not, Bool.not_eq_true', Bool.not_eq_false', Int.not_le, Int.not_lt, Bool.and_eq_true, Bool.or_eq_true, Bool.and_eq_false_iff, Bool.or_eq_false_iff, beq_iff_eq, beq_eq_false_iff_ne, ne_eq] at hb)
  · ktf_call [D.b__law_big, D.b__law_big_1, cell_ok]
    refine ⟨_, ?_, rfl⟩
    generalize (if cellAt ns k < 0 then -cellAt ns k else cellAt ns k) = a at *
    omega
  · have hc1 : -1000000000000000000 < cellAt ns k := by split at hb <;> omega
    have hc2 : cellAt ns k < 1000000000000000000 := by split at hb <;> omega
    ktf_call [D.b__law_big, D.b__law_big_1, cell_ok]
    generalize hx : (cellAt ns 0 % 1000003 + 7919 * k + 31 * cellAt ns k + 17) % 2147483629 + 11 = x
    have x0 : 0 ≤ x := by omega
    have x1 : x < 4294967296 := by omega
    refine wx_for (fun k : Nat => T.int k) _ (fun pre L => ∃ x t x4, 0 ≤ x ∧ x < 4294967296 ∧ 0 ≤ t ∧ t < 2147483647 ^ pre.length ∧ L = [some (.scr ns), some (.int k), some (.int x), some (.int t), x4]) ⟨x, 0, _, x0, x1, by omega, by decide, rfl⟩ ?_ ?_
    · rintro pre j post L e ⟨x, t, x4, x0, x1, t0, t1, rfl⟩
      obtain ⟨rfl, hj⟩ := range_lt e
      have hj : pre.length < 8 := hj
      have hm := big_mul t0 t1 (by omega)
      refine ⟨_, rfl, ?_⟩
      ktf_call [D.b__law_big, D.b__law_big_1, cell_ok]
      generalize hy : (x * 48271 + x / 40692 + 19 * (pre.length : Int) * pre.length + k) % 2147483647 = y
      have y0 : 0 ≤ y := by omega
      have y1 : y < 2147483647 := by omega
      generalize hz : y * 69621 % 2147483629 = z
      have z0 : 0 ≤ z := by omega
      have z1 : z < 2147483629 := by omega
      refine ⟨_, _, _, y0, by omega, by omega, ?_, rfl⟩
      rw [Int.pow_succ]
      generalize (2147483647 : Int) ^ pre.length = w at t1
      omega
    · rintro L ⟨x, t, x4, x0, x1, t0, t1, rfl⟩
      ktf_call [D.b__law_big, D.b__law_big_1, cell_ok]
      exact ⟨_, t0, rfl⟩
theorem names3_ok [D.H__law_names_v3 tb] (p m : Int) (hp : 0 ≤ p) (h0 : 0 ≤ m) (h12 : m ≤ 12) : wf (run tb N (d + 1) "_law_names" [.int p, .int m]) fun r o => ∃ xs : List Str, r = .lst true (xs.map T.str) ∧ o = [] ∧ (xs.length : Int) = m ∧ xs.Nodup ∧ ∀ x ∈ xs, IsNm x := by
  refine wf_in (us := [.int p, .int m]) rfl rfl (by ktf_call [D.b__law_names_v3, D.b__law_names_v3_1, D.c__law_names_v3_1, D.c__law_names_v3_1i, signs_mk, empty_mk, signsL_len, map_str]) ?_
  have h36 := signsL_len
  ktf_call [D.b__law_names_v3, D.b__law_names_v3_1, D.c__law_names_v3_1, D.c__law_names_v3_1i, signs_mk, empty_mk, signsL_len, map_str]
  generalize hs : 1 + p % 6 = s
  have hs1 : 1 ≤ s := by omega
  have hs6 : s ≤ 6 := by omega
  refine wx_for (fun k : Nat => T.int k) _ (fun pre L => ∃ q w x4, 0 ≤ q ∧ w.length = pre.length ∧ (∀ c ∈ w, c ∈ signsL) ∧ L = [some (.int q), some (.int m), some (.str (mkS signsL)), some (.str (mkS w)), x4, none, none, none, none]) ⟨p, [], _, hp, rfl, by simp, rfl⟩ ?_ ?_
  · rintro pre k post L e ⟨q, w, x6, hq, hw, hc, rfl⟩
    obtain ⟨rfl, hk⟩ := range_lt e
    refine ⟨_, rfl, ?_⟩
    ktf_call [D.b__law_names_v3, D.b__law_names_v3_1, D.c__law_names_v3_1, D.c__law_names_v3_1i, signs_mk, empty_mk, signsL_len, map_str]
    refine ⟨_, w ++ [signsL.getD (q / 6 % 36).toNat 0], _, ?_, ?_, ?_, rfl⟩
    · omega
    · simp [hw]
    · intro c h
      rcases List.mem_append.mp h with h | h
      · exact hc c h
      · rw [List.mem_singleton.mp h]; exact signsL_mem (by omega)
  · rintro L ⟨q, w, x6, hq, hw, hc, rfl⟩
    rw [List.length_range] at hw
    have hw0 : (w.length : Int) = s := by omega
    generalize ht : q / 6 % (w.length : Int) = t
    have ht0 : 0 ≤ t := by rw [← ht]; exact Int.emod_nonneg _ (by omega)
    have ht1 : t < w.length := by rw [← ht]; exact Int.emod_lt_of_pos _ (by omega)
    ktf_call [D.b__law_names_v3, D.b__law_names_v3_1, D.c__law_names_v3_1, D.c__law_names_v3_1i, signs_mk, empty_mk, signsL_len, map_str, ht]
    have hf0 : 0 ≤ q / 216 % 36 := by omega
    generalize q / 216 % 36 = f at hf0
    refine wx_compT (fun k : Nat => T.int k) (fun k => T.str (mkS (nm1 w t f k))) rfl (fun _ => ⟨_, _, rfl⟩) ?_ ?_
    · intro k ha
      have hk := List.mem_range.mp ha
      ktf_call [D.b__law_names_v3, D.b__law_names_v3_1, D.c__law_names_v3_1, D.c__law_names_v3_1i, signs_mk, empty_mk, signsL_len, map_str]
      rfl
    · intro y
      rw [map_str]
      refine ⟨_, rfl, ?_, ?_, ?_⟩
      · simp; omega
      · exact nodup_map_range fun j k hj hk e => nm1_inj ht0 ht1 (by omega) (by omega) (mkS_inj.mp e)
      · intro x hx
        obtain ⟨k, _, rfl⟩ := List.mem_map.mp hx
        exact nm1_ok (by omega) ht0 ht1 hc
end
end TV

set_option Elab.async false
set_option linter.all false
set_option maxRecDepth 100000
set_option maxHeartbeats 4000000
set_option exponentiation.threshold 4000
set_option pp.maxSteps 1500
namespace TV
open PySem PySem.Spec PyProof.Rows L2
local macro_rules | `(tactic| ktf_call [$as,*]) => `(tactic| simp (maxSteps := 1000000) (disch := first | omega | assumption | (with_reducible ((repeat (first | assumption | exact deps_str _ _ | exact deps_int _ _ | exact deps_bl _ _ | exact deps_rows _ _ _ (by decide) | exact deps_nil _ | exact dep_s _ _ | exact dep_i _ _ | exact dep_b _ _ | exact dep_n _ | (refine deps_map ?_; intro _ _) | apply deps_cons | apply deps_app | refine dep_lst2 ?_ (by decide) | refine dep_tup2 ?_ (by decide) | exact Nat.zero_le _)); done)) | (simp only [List.length_append, List.length_cons, List.length_nil, List.length_take, List.length_drop, List.length_replicate, List.length_map, List.length_range, List.length_singleton, mkS_len]; omega) | (decide; done)) only [wx_ok, wx_stuck, wx_bind, wx_noErr, wf_ok, cS_t, cS_f, eS_t, eS_f, exec_iffS, ev_iteS, onBe_bl, cB_t, cB_f, cB_and, cB_or, cB_not, cB_b, sg_has, goA_some, callRun_eq, callBack_ok, onO_some, onO_none, noErr_ok, onB_bl, onF_nx, onF_rt, onF_bk, onF_ct, loopF_nx, loopF_ct, loopF_bk, loopF_rt, slot_0, slot_s, obind_some, obind_none, omap_some, omap_none, rd_v, rd_s, rd_p, pathT_nil, pathT_lst, pathT_tup, rds_nil, rds_cons, ev_var, ev_cst, ev_pth, ev_op, nlkO_eq, ev_lst, ev_tup, ev_dic, ev_dit0, ev_call, ev_and, ev_or, ev_not, ev_chain, ev_comp, ev_pop, evs_nil, evs_cons, evq_nil, evq_var, evq_pth, evo_var, evo_pthT, evo_pthF, evt_nil, evt_one, evi_seq, evi_rng, evi_enm, evi_zip, evi_rev, mvr_var, mvr_tup, mvr_lst, mvs_nil, mvs_cons, mv_var, evb_eq, exec_set, exec_setm, exec_par, exec_aug, augRun_int, exec_sub, exec_mut, onL_l, exec_exp, exec_ret, exec_retn, exec_whl, exec_for, endF_nx, endF_rt, backS_n, backS_s, backSS_n, backSS_k, exec_brk, exec_cnt, exec_pass, exec_rais, execs_nil, execs_cons, formOpen_t, opRun_eq, opK_bin_int, opK_bin_str, opK_bin_si, opK_cat, opK_cmp, opK_neg, opK_inv, opK_len, opK_abs, opK_int, opK_str, opK_isi, opK_max, opK_min, opK_sum, opK_all, opK_any, opK_idx_str, opK_idx_scr, opK_idx_lst, opK_idx_tup, opK_idx_dic, opK_idx_lkd, opK_get, opK_slc_s01, opK_slc_s10, opK_slc_s11, opK_slc_l01, opK_slc_l10, opK_slc_l11, opK_list, opK_tupl, opK_sortd, kidL_v, kidL_s, kidLs_t, kidLs_f, frz_lst, frz_tup, frz_dic, frz_int, frz_str, frz_bl, frz_non, frz_scr, frzs_nil, frzs_cons, frzs_int, frzs_str, frzs_bl, shrs_int, shrs_str, clns_int, clns_str, frzs_rows, shrs_rows, clns_rows, frzs_app, shrs_app, clns_app, itSeq_L, itSeq_T, itSeq_S, itSeq_K, itTpl_v, itTpl_s, itTpl_f, itTpl_tF, itTpl_tT, itStr_v, itStr_ss, itKey_s, itKey_t, itFrz_v, itFrz_s, itFrz_f, itFrz_tF, itFrz_tT, finF_rt, finF_nx, finS_eq, outS_nil, outS, argS, varRun, pthRun, dspRun, mvV, shr, cln, shrs, clns, catRun, mutsOf, noDup, lent, frzO, setOuts, wipeL, backL, tgs, backOk, mT, aS, aSs, simpEs, simp1, setO, sub_one, mutT, LINE_eq, sop, bAdd, bSub, bMul_h, bMul, bDiv_h, bDiv, bMod, bPow, bShl, bShr, bAnd, bOr, bXor, cEq_i, cEq_s, cEq_b, cNe_i, cNe_s, cEq_go, cNe_go, cLt_i, cLe_i, cGt_i, cGe_i, cLt_s, cLe_s, cGt_s, cGe_s, cIs_n, cIsN_n, cIn_L, cNin_L, eqT_int, eqT_str, eqT_bl, eqT_lst, eqT_tup, eqTs_nil, eqTs_cons, eqTs_n1, eqTs_n2, eqTs_str, eqTs_int, eqTs_rows, eqTs_nilR, any_str, idxL_one, idxL_strn, idxL_intn, idxL_row, atI_nn, signAt_nn, rng_n, rng_ab, lenS_l, lenS_t, lenS_scr, lenS_d, lenS_s, isiS, tyOf, isNon, List.map_cons, List.map_nil, List.cons_append, List.nil_append, List.replicate_succ, List.replicate_zero, List.set_cons_zero, List.set_cons_succ, List.length_cons, List.length_nil, List.getElem?_cons_zero, List.getElem?_cons_succ, List.length_map, List.length_append, List.all_cons, List.all_nil, List.contains_nil, List.contains_cons, Option.some.injEq, Nat.reduceAdd, Nat.reduceSub, Nat.reduceLeDiff, Nat.reduceBEq, Nat.reduceEqDiff, Int.reduceNeg, Int.reduceToNat, Int.reduceAdd, Int.reduceSub, Int.reduceMul, Int.reducePow, Int.reduceLT, Int.reduceLE, Int.reduceEq, Int.reduceNe, String.reduceEq, if_true, if_false, reduceIte, reduceCtorEq, ne_eq, not_false_eq_true, implies_true, BEq.rfl, beq_self_eq_true, Bool.false_eq_true, Bool.true_eq_false, Bool.or_false, Bool.false_or, Bool.or_true, Bool.true_or, Bool.and_true, Bool.true_and, Bool.and_false, Bool.false_and, Bool.not_true, Bool.not_false, Bool.not_not, and_true, true_and, and_false, false_and, or_true, true_or, or_false, false_or, decide_true, decide_false, id_eq, evq_cst, evo_cst, mv_cst, mvr_cst, evq_op, evo_op, mv_op, mvr_op, evq_lst, evo_lst, mv_lst, evq_tup, evo_tup, mv_tup, evq_dic, evo_dic, mv_dic, mvr_dic, evq_dit0, evo_dit0, mv_dit0, mvr_dit0, evq_call, evo_call, mv_call, mvr_call, evq_and, evo_and, mv_and, mvr_and, evq_or, evo_or, mv_or, mvr_or, evq_not, evo_not, mv_not, mvr_not, evq_ite, evo_ite, mv_ite, mvr_ite, evq_chain, evo_chain, mv_chain, mvr_chain, evq_comp, evo_comp, mv_comp, mvr_comp, evq_srtk, evo_srtk, mv_srtk, mvr_srtk, evq_pop, evo_pop, mv_pop, mvr_pop, mv_pth, mvr_pth, sortL_str, sortL_s, sortT_str, mkS_one, mkS_len, mkS_app, slcS_hi, slcS_lo, bSMul_mk, bSAdd_mk, signAt_mk, lenS_mk, and_1, big_no, List.length_range, Out.bind_ok, filter_tt, Int.toNat_natCast, ite_le, ite_lt, app_str, opK_catT, opK_listT, opK_srtset, kidT_v, kidT_s, kidTs_t, kidTs_f, catTRun, sortSetL, frz_dit, isLkd_non, isLkd_bl, isLkd_int, isLkd_str, isLkd_lst, isLkd_tup, isLkd_dic, isLkd_dit, isLkd_lkd, isLkd_scr, isOwn_non, isOwn_bl, isOwn_int, isOwn_str, isOwn_lst, isOwn_tup, isOwn_dic, isOwn_dit, isOwn_lkd, isOwn_scr, ite_self, strsOf_map, true_imp_iff, false_imp_iff, slcL, cutT_hi, cutT_lo, take_map, drop_map, Int.cast_ofNat_Int, ev_lend, lendRun, lendA, lendBack, List.any_nil, List.any_cons, entT_two, entT_three, opK_lrng1, opK_lrng2, $[$as:term],*])
section
variable {tb : Tbl} {N d : Nat}
abbrev pairT (e : Int × Int) : T := .tup true [.int e.1, .int e.2]
theorem rgT_map (b : Int) : rgT 0 b = ((List.range b.toNat).map fun i : Nat => (i : Int)).map T.int := by
  unfold rgT
  rw [List.map_map, Int.sub_zero]
  exact List.map_congr_left fun i _ => by simp
theorem rgRun_ok {b : Int} {L : Slots} (h0 : 0 ≤ b) (h : b ≤ 1000) : rgRun 0 b L = some (.lst true (((List.range b.toNat).map fun i : Nat => (i : Int)).map T.int), L) := by
  unfold rgRun
  rw [if_pos ⟨by decide, by decide, by omega, by omega, by omega⟩, rgT_map]
theorem ends_ok [D.H__law_ends tb] (p m s : Int) (hp : 0 ≤ p) (h0 : 0 ≤ m) (h12 : m ≤ 12) (hs : 2 ≤ s) (hs2 : s ≤ 10) :
    wf (run tb N (d + 1) "_law_ends" [.int p, .int m, .int s]) fun r o => ∃ es : List (Int × Int), r = .lst true (es.map pairT) ∧ o = [] ∧ (es.length : Int) ≤ m ∧ ∀ e ∈ es, 0 ≤ e.1 ∧ e.1 < s ∧ 0 ≤ e.2 ∧ e.2 < s := by
  refine wf_in (us := [.int p, .int m, .int s]) rfl rfl (by ktf_call [D.b__law_ends, D.b__law_ends_1, D.c__law_ends_1, D.c__law_ends_1i, rgRun_ok]) ?_
  have hs3 : (s - 0).toNat ≤ 16777216 := by omega
  ktf_call [D.b__law_ends, D.b__law_ends_1, D.c__law_ends_1, D.c__law_ends_1i, rgRun_ok]
  refine wx_for (fun k : Nat => T.int k) _ (fun pre L => ∃ q hs es g x6 x7 x8 x9, 0 ≤ q ∧ (hs : List Int).length = s.toNat ∧ (es : List (Int × Int)).length ≤ pre.length ∧ (∀ e ∈ es, 0 ≤ e.1 ∧ e.1 < s ∧ 0 ≤ e.2 ∧ e.2 < s) ∧ L = [some (.int q), some (.int m), some (.int s), some (.lst true (hs.map T.int)), some (.lst true (es.map pairT)), some (.int g), x6, x7, x8, x9, none]) ?_ ?_ ?_
  · refine ⟨p, _, [], 0, _, _, _, _, hp, ?_, Nat.le_refl _, by simp, rfl⟩
    simp
  · rintro pre k post L e ⟨q, hs, es, g, x6, x7, x8, x9, hq, hl, hel, he, rfl⟩
    obtain ⟨rfl, hk⟩ := range_lt e
    refine ⟨_, rfl, ?_⟩
    generalize ha : q % s = a
    have a0 : 0 ≤ a := by rw [← ha]; exact Int.emod_nonneg _ (by omega)
    have a1 : a < s := by rw [← ha]; exact Int.emod_lt_of_pos _ (by omega)
    generalize hb : q / s % s = b
    have b0 : 0 ≤ b := by rw [← hb]; exact Int.emod_nonneg _ (by omega)
    have b1 : b < s := by rw [← hb]; exact Int.emod_lt_of_pos _ (by omega)
    have hq2 : 0 ≤ q / s / s := Int.ediv_nonneg (Int.ediv_nonneg hq (by omega)) (by omega)
    generalize hc : q / s / s = q2 at hq2
    have al : a < hs.length := by omega
    have bl : b < hs.length := by omega
    have hll : hs.length ≤ 16777216 := by omega
    have hadd : ∀ x ∈ es ++ [(a, b)], 0 ≤ x.1 ∧ x.1 < s ∧ 0 ≤ x.2 ∧ x.2 < s := fun x hx => by
      rcases List.mem_append.mp hx with h | h
      · exact he x h
      · rw [List.mem_singleton.mp h]; exact ⟨a0, a1, b0, b1⟩
    have es1 : es.length ≤ 12 := by omega
    ktf_call [D.b__law_ends, D.b__law_ends_1, D.c__law_ends_1, D.c__law_ends_1i, rgRun_ok, ha, hb, hc]
    (first | refine wx_cS (fun h => ?_) (fun h => ?_) | refine wx_beS (fun h => ?_) (fun h => ?_) | refine wx_cB (fun h => ?_) (fun h => ?_)) <;> (try simp only [decide_eq_true_eq, decide_eq_false_iff_not, Bool.not_eq_true', Bool.not_eq_false', Int.not_le, Int.not_lt, Bool.and_eq_true, Bool.or_eq_true, Bool.and_eq_false_iff, Bool.or_eq_false_iff, beq_iff_eq, beq_eq_false_iff_ne, ne_eq] at h)
    · ktf_call [D.b__law_ends, D.b__law_ends_1, D.c__law_ends_1, D.c__law_ends_1i, rgRun_ok]
      refine ⟨q2, hs, es ++ [(a, b)], g, some (.int pre.length), some (.int a), some (.int b), x9, hq2, hl, ?_, hadd, ?_⟩
      · simp; omega
      · rw [List.map_append]; rfl
    · ktf_call [D.b__law_ends, D.b__law_ends_1, D.c__law_ends_1, D.c__law_ends_1i, rgRun_ok]
      (first | refine wx_cS (fun h2 => ?_) (fun h2 => ?_) | refine wx_beS (fun h2 => ?_) (fun h2 => ?_) | refine wx_cB (fun h2 => ?_) (fun h2 => ?_)) <;> (try simp only [decide_eq_true_eq, decide_eq_false_iff_not, Bool.not_eq_true', Bool.not_eq_false', Int.not_le, Int.not_lt, Bool.and_eq_true, Bool.or_eq_true, Bool.and_eq_false_iff, Bool.or_eq_false_iff, beq_iff_eq, beq_eq_false_iff_ne, ne_eq] at h2)
      · ktf_call [D.b__law_ends, D.b__law_ends_1, D.c__law_ends_1, D.c__law_ends_1i, rgRun_ok]
        generalize hgone : hs.getD b.toNat 0 = gone
        refine wx_compT T.int (fun x => T.int (if x = gone then hs.getD a.toNat 0 else x)) rfl (fun _ => ⟨_, _, rfl⟩) ?_ ?_
        · intro x hx
          by_cases e : x = gone
          · ktf_call [D.b__law_ends, D.b__law_ends_1, D.c__law_ends_1, D.c__law_ends_1i, rgRun_ok, e]
          · have e2 : decide (x = gone) = false := decide_eq_false e
            ktf_call [D.b__law_ends, D.b__law_ends_1, D.c__law_ends_1, D.c__law_ends_1i, rgRun_ok, e2, e]
        · intro y
          have em : hs.map (fun x => T.int (if x = gone then hs.getD a.toNat 0 else x)) = (hs.map fun x => if x = gone then hs.getD a.toNat 0 else x).map T.int := by rw [List.map_map]; rfl
          rw [em]
          ktf_call [D.b__law_ends, D.b__law_ends_1, D.c__law_ends_1, D.c__law_ends_1i, rgRun_ok]
          refine ⟨q2, hs.map fun x => if x = gone then hs.getD a.toNat 0 else x, es ++ [(a, b)], g + 1, some (.int pre.length), some (.int a), some (.int b), some (.int gone), hq2, ?_, ?_, hadd, ?_⟩
          · rw [List.length_map]; exact hl
          · simp; omega
          · rw [List.map_append]; rfl
      · ktf_call [D.b__law_ends, D.b__law_ends_1, D.c__law_ends_1, D.c__law_ends_1i, rgRun_ok]
        exact ⟨q2, hs, es, g, _, _, _, _, hq2, hl, by omega, he, rfl⟩
  · rintro L ⟨q, hs, es, g, x6, x7, x8, x9, hq, hl, hel, he, rfl⟩
    rw [List.length_range] at hel
    ktf_call [D.b__law_ends, D.b__law_ends_1, D.c__law_ends_1, D.c__law_ends_1i, rgRun_ok]
    refine ⟨es, rfl, by omega, he⟩
end
end TV

set_option Elab.async false
set_option linter.all false
set_option maxRecDepth 100000
set_option maxHeartbeats 4000000
set_option exponentiation.threshold 4000
set_option pp.maxSteps 1500
namespace TV
open PySem PySem.Spec PyProof.Rows L2
local macro_rules | `(tactic| ktf_call [$as,*]) => `(tactic| simp (maxSteps := 1000000) (disch := first | omega | assumption | (with_reducible ((repeat (first | assumption | exact deps_str _ _ | exact deps_int _ _ | exact deps_bl _ _ | exact deps_rows _ _ _ (by decide) | exact deps_nil _ | exact dep_s _ _ | exact dep_i _ _ | exact dep_b _ _ | exact dep_n _ | (refine deps_map ?_; intro _ _) | apply deps_cons | apply deps_app | refine dep_lst2 ?_ (by decide) | refine dep_tup2 ?_ (by decide) | exact Nat.zero_le _)); done)) | (simp only [List.length_append, List.length_cons, List.length_nil, List.length_take, List.length_drop, List.length_replicate, List.length_map, List.length_range, List.length_singleton, mkS_len]; omega) | (decide; done)) only [wx_ok, wx_stuck, wx_bind, wx_noErr, wf_ok, cS_t, cS_f, eS_t, eS_f, exec_iffS, ev_iteS, onBe_bl, cB_t, cB_f, cB_and, cB_or, cB_not, cB_b, sg_has, goA_some, callRun_eq, callBack_ok, onO_some, onO_none, noErr_ok, onB_bl, onF_nx, onF_rt, onF_bk, onF_ct, loopF_nx, loopF_ct, loopF_bk, loopF_rt, slot_0, slot_s, obind_some, obind_none, omap_some, omap_none, rd_v, rd_s, rd_p, pathT_nil, pathT_lst, pathT_tup, rds_nil, rds_cons, ev_var, ev_cst, ev_pth, ev_op, nlkO_eq, ev_lst, ev_tup, ev_dic, ev_dit0, ev_call, ev_and, ev_or, ev_not, ev_chain, ev_comp, ev_pop, evs_nil, evs_cons, evq_nil, evq_var, evq_pth, evo_var, evo_pthT, evo_pthF, evt_nil, evt_one, evi_seq, evi_rng, evi_enm, evi_zip, evi_rev, mvr_var, mvr_tup, mvr_lst, mvs_nil, mvs_cons, mv_var, evb_eq, exec_set, exec_setm, exec_par, exec_aug, augRun_int, exec_sub, exec_mut, onL_l, exec_exp, exec_ret, exec_retn, exec_whl, exec_for, endF_nx, endF_rt, backS_n, backS_s, backSS_n, backSS_k, exec_brk, exec_cnt, exec_pass, exec_rais, execs_nil, execs_cons, formOpen_t, opRun_eq, opK_bin_int, opK_bin_str, opK_bin_si, opK_cat, opK_cmp, opK_neg, opK_inv, opK_len, opK_abs, opK_int, opK_str, opK_isi, opK_max, opK_min, opK_sum, opK_all, opK_any, opK_idx_str, opK_idx_scr, opK_idx_lst, opK_idx_tup, opK_idx_dic, opK_idx_lkd, opK_get, opK_slc_s01, opK_slc_s10, opK_slc_s11, opK_slc_l01, opK_slc_l10, opK_slc_l11, opK_list, opK_tupl, opK_sortd, kidL_v, kidL_s, kidLs_t, kidLs_f, frz_lst, frz_tup, frz_dic, frz_int, frz_str, frz_bl, frz_non, frz_scr, frzs_nil, frzs_cons, frzs_int, frzs_str, frzs_bl, shrs_int, shrs_str, clns_int, clns_str, frzs_rows, shrs_rows, clns_rows, frzs_app, shrs_app, clns_app, itSeq_L, itSeq_T, itSeq_S, itSeq_K, itTpl_v, itTpl_s, itTpl_f, itTpl_tF, itTpl_tT, itStr_v, itStr_ss, itKey_s, itKey_t, itFrz_v, itFrz_s, itFrz_f, itFrz_tF, itFrz_tT, finF_rt, finF_nx, finS_eq, outS_nil, outS, argS, varRun, pthRun, dspRun, mvV, shr, cln, shrs, clns, catRun, mutsOf, noDup, lent, frzO, setOuts, wipeL, backL, tgs, backOk, mT, aS, aSs, simpEs, simp1, setO, sub_one, mutT, LINE_eq, sop, bAdd, bSub, bMul_h, bMul, bDiv_h, bDiv, bMod, bPow, bShl, bShr, bAnd, bOr, bXor, cEq_i, cEq_s, cEq_b, cNe_i, cNe_s, cEq_go, cNe_go, cLt_i, cLe_i, cGt_i, cGe_i, cLt_s, cLe_s, cGt_s, cGe_s, cIs_n, cIsN_n, cIn_L, cNin_L, eqT_int, eqT_str, eqT_bl, eqT_lst, eqT_tup, eqTs_nil, eqTs_cons, eqTs_n1, eqTs_n2, eqTs_str, eqTs_int, eqTs_rows, eqTs_nilR, any_str, idxL_one, idxL_strn, idxL_intn, idxL_row, atI_nn, signAt_nn, rng_n, rng_ab, lenS_l, lenS_t, lenS_scr, lenS_d, lenS_s, isiS, tyOf, isNon, List.map_cons, List.map_nil, List.cons_append, List.nil_append, List.replicate_succ, List.replicate_zero, List.set_cons_zero, List.set_cons_succ, List.length_cons, List.length_nil, List.getElem?_cons_zero, List.getElem?_cons_succ, List.length_map, List.length_append, List.all_cons, List.all_nil, List.contains_nil, List.contains_cons, Option.some.injEq, Nat.reduceAdd, Nat.reduceSub, Nat.reduceLeDiff, Nat.reduceBEq, Nat.reduceEqDiff, Int.reduceNeg, Int.reduceToNat, Int.reduceAdd, Int.reduceSub, Int.reduceMul, Int.reducePow, Int.reduceLT, Int.reduceLE, Int.reduceEq, Int.reduceNe, String.reduceEq, if_true, if_false, reduceIte, reduceCtorEq, ne_eq, not_false_eq_true, implies_true, BEq.rfl, beq_self_eq_true, Bool.false_eq_true, Bool.true_eq_false, Bool.or_false, Bool.false_or, Bool.or_true, Bool.true_or, Bool.and_true, Bool.true_and, Bool.and_false, Bool.false_and, Bool.not_true, Bool.not_false, Bool.not_not, and_true, true_and, and_false, false_and, or_true, true_or, or_false, false_or, decide_true, decide_false, id_eq, evq_cst, evo_cst, mv_cst, mvr_cst, evq_op, evo_op, mv_op, mvr_op, evq_lst, evo_lst, mv_lst, evq_tup, evo_tup, mv_tup, evq_dic, evo_dic, mv_dic, mvr_dic, evq_dit0, evo_dit0, mv_dit0, mvr_dit0, evq_call, evo_call, mv_call, mvr_call, evq_and, evo_and, mv_and, mvr_and, evq_or, evo_or, mv_or, mvr_or, evq_not, evo_not, mv_not, mvr_not, evq_ite, evo_ite, mv_ite, mvr_ite, evq_chain, evo_chain, mv_chain, mvr_chain, evq_comp, evo_comp, mv_comp, mvr_comp, evq_srtk, evo_srtk, mv_srtk, mvr_srtk, evq_pop, evo_pop, mv_pop, mvr_pop, mv_pth, mvr_pth, sortL_str, sortL_s, sortT_str, mkS_one, mkS_len, mkS_app, slcS_hi, slcS_lo, bSMul_mk, bSAdd_mk, signAt_mk, lenS_mk, and_1, big_no, List.length_range, Out.bind_ok, filter_tt, Int.toNat_natCast, ite_le, ite_lt, app_str, opK_catT, opK_listT, opK_srtset, kidT_v, kidT_s, kidTs_t, kidTs_f, catTRun, sortSetL, frz_dit, isLkd_non, isLkd_bl, isLkd_int, isLkd_str, isLkd_lst, isLkd_tup, isLkd_dic, isLkd_dit, isLkd_lkd, isLkd_scr, isOwn_non, isOwn_bl, isOwn_int, isOwn_str, isOwn_lst, isOwn_tup, isOwn_dic, isOwn_dit, isOwn_lkd, isOwn_scr, ite_self, strsOf_map, true_imp_iff, false_imp_iff, slcL, cutT_hi, cutT_lo, take_map, drop_map, Int.cast_ofNat_Int, ev_lend, lendRun, lendA, lendBack, List.any_nil, List.any_cons, entT_two, entT_three, opK_lrng1, opK_lrng2, $[$as:term],*])
section
variable {tb : Tbl} {N d : Nat}
theorem spread_ok {j : Int} (h0 : 0 ≤ j) (h1 : j < 8) : ∃ s : Int, 2 ≤ s ∧ s ≤ 10 ∧ ∀ (p : Opd) (L : Slots), idxL p [T.int 4, T.int 5, T.int 3, T.int 6, T.int 5, T.int 9, T.int 2, T.int 10] j L = some (.int s, L) := by
  refine ⟨[4, 5, 3, 6, 5, 9, 2, 10].getD j.toNat 0, ?_, ?_, fun p L => idxL_intn (xs := [4, 5, 3, 6, 5, 9, 2, 10]) h0 h1⟩
  all_goals
    have e : j = 0 ∨ j = 1 ∨ j = 2 ∨ j = 3 ∨ j = 4 ∨ j = 5 ∨ j = 6 ∨ j = 7 := by omega
    rcases e with rfl | rfl | rfl | rfl | rfl | rfl | rfl | rfl <;> decide
theorem zipT_map {α β : Type} (f : α → T) (g : β → T) : ∀ (xs : List α) (ys : List β), zipT (xs.map f) (ys.map g) = (xs.zip ys).map fun p => T.tup false [f p.1, g p.2]
  | [], _ => rfl
  | _ :: _, [] => rfl
  | x :: xs, y :: ys => by rw [List.map_cons, List.map_cons, zipT, zipT_map f g xs ys]; rfl
abbrev pairF (e : Int × Int) : T := .tup false [.int e.1, .int e.2]
theorem frzs_pair (es : List (Int × Int)) : frzs (es.map pairT) = es.map pairF := by
  rw [frzs_map, List.map_map]
  exact List.map_congr_left fun e _ => by simp [frz_tup, frzs_cons, frzs_nil, frz_int, pairT, pairF]
theorem clns_pair (es : List (Int × Int)) : clns (es.map pairT) = true := by
  induction es with
  | nil => rfl
  | cons e es ih => rw [List.map_cons, clns, ih]; rfl
theorem idxT_0 (p : Opd) (a b : Int) (L : Slots) : idxT p [T.int a, T.int b] 0 L = some (.int a, L) := by cases p <;> rfl
theorem idxT_1 (p : Opd) (a b : Int) (L : Slots) : idxT p [T.int a, T.int b] 1 L = some (.int b, L) := by cases p <;> rfl
/-- two texts in order -/
def two (x y : Str) : Str × Str := if strLt y x then (y, x) else (x, y)
theorem two_le (x y : Str) : strLt (two x y).2 (two x y).1 = false := by
  unfold two
  by_cases h : strLt y x = true
  · rw [if_pos h]; exact strLt_asymm h
  · rw [if_neg h]; simpa using h
theorem two_mem {x y : Str} {P : Str → Prop} (hx : P x) (hy : P y) : P (two x y).1 ∧ P (two x y).2 := by
  unfold two
  by_cases h : strLt y x = true
  · rw [if_pos h]; exact ⟨hy, hx⟩
  · rw [if_neg h]; exact ⟨hx, hy⟩
theorem strSort_two (x y : Str) : strSort [x, y] = [(two x y).1, (two x y).2] := by
  unfold two strSort
  by_cases h : strLt y x = true
  · simp [List.mergeSort, List.MergeSort.Internal.splitInTwo, List.merge, h]
  · simp [List.mergeSort, List.MergeSort.Internal.splitInTwo, List.merge, h]
theorem sort_two (x y : Str) (L : Slots) : sortL (.v (.lst true [T.str x, T.str y])) L = some (.lst true [T.str (two x y).1, T.str (two x y).2], L) := by
  have := sortL_str (xs := [x, y]) (o := true) (L := L) (by show 2 < 64; omega)
  rw [strSort_two] at this
  exact this
abbrev tieT (n : Str × Str × Str) : T := .tup true [.str n.1, .str n.2.1, .str n.2.2]
theorem zip_sub {α β : Type} : ∀ (xs : List α) (ys : List β), ((xs.zip ys).map (·.1)).Sublist xs
  | [], _ => by simp
  | _ :: _, [] => by simp
  | x :: xs, y :: ys => by rw [List.zip_cons_cons, List.map_cons]; exact (zip_sub xs ys).cons_cons x
abbrev tieF (n : Str × Str × Str) : T := .tup false [.str n.1, .str n.2.1, .str n.2.2]
theorem frzs_tie (net : List (Str × Str × Str)) : frzs (net.map tieT) = net.map tieF := by
  rw [frzs_map, List.map_map]
  exact List.map_congr_left fun e _ => by simp [frz_tup, frzs_cons, frzs_nil, frz_str, tieT, tieF]
theorem toDs_eq : ∀ xs : List T, toDs xs = xs.map toD
  | [] => rfl
  | x :: xs => by rw [List.map_cons, ← toDs_eq xs]; rfl
theorem nodup_inj {α β : Type} {f : α → β} : ∀ {l : List α}, (l.map f).Nodup → ∀ a ∈ l, ∀ b ∈ l, f a = f b → a = b
  | x :: l, h, a, ha, b, hb, e => by
    rw [List.map_cons, List.nodup_cons] at h
    rcases List.mem_cons.mp ha with h1 | h1 <;> rcases List.mem_cons.mp hb with h2 | h2
    · rw [h1, h2]
    · subst h1; exact absurd (List.mem_map.mpr ⟨b, h2, e.symm⟩) h.1
    · subst h2; exact absurd (List.mem_map.mpr ⟨a, h1, e⟩) h.1
    · exact nodup_inj h.2 a h1 b h2 e
theorem leT_eq (a b : T) : leT a b = !PySem.W.dataLt (toD b) (toD a) := by unfold leT; rw [PySem.W.dataLe_eq]; rfl
theorem lt_tie {a b : Str × Str × Str} (h : a.1 ≠ b.1) : PySem.W.dataLt (toD (tieF a)) (toD (tieF b)) = strLt a.1 b.1 := by
  show PySem.W.dataLt (.tuple [.str a.1, .str a.2.1, .str a.2.2]) (.tuple [.str b.1, .str b.2.1, .str b.2.2]) = _
  have e : PyData.eqv (.str a.1) (.str b.1) = false := by simpa [PyData.eqv] using h
  rw [PySem.W.dataLt_tuple, PySem.W.dataLt_cons (by simp [PySem.W.alike]), if_neg (by rw [e]; decide), PySem.W.dataLt_str]
  rfl
def tieLe (a b : Str × Str × Str) : Bool := !strLt b.1 a.1
theorem sortT_ties {net : List (Str × Str × Str)} (h : (net.map (·.1)).Nodup) : sortT (net.map tieF) = some ((net.mergeSort tieLe).map tieF) := by
  cases net with
  | nil => simp [sortT, sortT0, strsOf, strSort]
  | cons n net =>
    have h0 : sortT0 ((n :: net).map tieF) = none := rfl
    unfold sortT
    rw [h0]
    simp only []
    rw [if_pos]
    · refine congrArg some ?_
      refine (List.map_mergeSort (r := tieLe) (s := leT) (f := tieF) fun a ha b hb => ?_).symm
      rw [leT_eq]
      unfold tieLe
      by_cases e : b.1 = a.1
      · have := nodup_inj h b hb a ha e
        subst this
        rw [strLt_irrefl, show PySem.W.dataLt (toD (tieF b)) (toD (tieF b)) = false from PyProof.Rows.lex_irrefl _]
      · rw [lt_tie e]
    · unfold srtD
      rw [toDs_eq, List.map_map]
      have hd : deps ((n :: net).map tieF) ≤ 60 := deps_map fun x _ => dep_tup2 (deps_cons (dep_s _ _) (deps_cons (dep_s _ _) (deps_cons (dep_s _ _) (deps_nil _)))) (by decide)
      simp only [Bool.and_eq_true, Bool.or_eq_true, decide_eq_true_eq]
      refine ⟨⟨.inl ?_, ?_⟩, hd⟩
      · refine List.all_eq_true.mpr fun x hx => ?_
        obtain ⟨y, _, rfl⟩ := List.mem_map.mp hx
        rfl
      · refine List.all_eq_true.mpr fun x hx => List.all_eq_true.mpr fun z hz => ?_
        obtain ⟨y, _, rfl⟩ := List.mem_map.mp hx
        obtain ⟨w, _, rfl⟩ := List.mem_map.mp hz
        simp [toD, toDs, PySem.W.alike, PySem.W.alikeAll]
theorem ties_lt {net : List (Str × Str × Str)} (h : (net.map (·.1)).Nodup) : SLt ((net.mergeSort tieLe).map (·.1)) := by
  have e : (net.mergeSort tieLe).map (·.1) = strSort (net.map (·.1)) := List.map_mergeSort (r := tieLe) (f := fun n : Str × Str × Str => n.1) fun _ _ _ _ => rfl
  rw [e]; exact strSort_lt h
theorem net_ok [D.H__law_cell_at tb] [D.H__law_big tb] [D.H__law_ends tb] [D.H__law_names_v3 tb] [D.H__law_net tb] (ns : List Int) (k : Int) (hk : 0 ≤ k) (hk2 : k ≤ 900) :
    wf (run tb N (d + 3) "_law_net" [.scr ns, .int k]) fun r o => ∃ net : List (Str × Str × Str), r = .lst true (net.map tieF) ∧ o = [] ∧ net.length ≤ 12 ∧ SLt (net.map (·.1)) ∧ ∀ n ∈ net, IsNm n.1 ∧ IsNm n.2.1 ∧ IsNm n.2.2 ∧ strLt n.2.2 n.2.1 = false := by
  obtain ⟨p1, hp1, e1⟩ := big_ok (tb := tb) (N := N) (d := d) ns k hk (by omega)
  obtain ⟨p2, hp2, e2⟩ := big_ok (tb := tb) (N := N) (d := d) ns (k + 1) (by omega) (by omega)
  obtain ⟨p3, hp3, e3⟩ := big_ok (tb := tb) (N := N) (d := d) ns (k + 2) (by omega) (by omega)
  refine wf_in (us := [.scr ns, .int k]) rfl rfl (by ktf_call [D.b__law_net, D.b__law_net_1, TV.zipRun, TV.isDup, zipT_map, frzs_pair, clns_pair, idxT_0, idxT_1, sort_two]) ?_
  have h36 := signsL_len
  obtain ⟨s, s2, s10, es⟩ := spread_ok (j := p1 % 8) (by omega) (by omega)
  ktf_call [D.b__law_net, D.b__law_net_1, TV.zipRun, TV.isDup, zipT_map, frzs_pair, clns_pair, idxT_0, idxT_1, sort_two, e1, e2, e3, es]
  refine wx_call (ends_ok (tb := tb) (d := d + 1) p2 (p1 / 8 % 13) s hp2 (by omega) (by omega) s2 s10) ?_
  rintro r o ⟨en, rfl, rfl, hl, he⟩
  have hl2 : en.length ≤ 12 := by omega
  ktf_call [D.b__law_net, D.b__law_net_1, TV.zipRun, TV.isDup, zipT_map, frzs_pair, clns_pair, idxT_0, idxT_1, sort_two]
  refine wx_call (names3_ok (tb := tb) (d := d + 1) (p1 / 104) en.length (by omega) (by omega) (by omega)) ?_
  rintro r o ⟨ts, rfl, rfl, tl, tn, ti⟩
  have tl2 : ts.length ≤ 12 := by omega
  ktf_call [D.b__law_net, D.b__law_net_1, TV.zipRun, TV.isDup, zipT_map, frzs_pair, clns_pair, idxT_0, idxT_1, sort_two, e3]
  refine wx_call (names3_ok (tb := tb) (d := d + 1) p3 10 hp3 (by omega) (by omega)) ?_
  rintro r o ⟨ks, rfl, rfl, kl, kn, ki⟩
  have zl : (ts.zip en).length ≤ 12 := by rw [List.length_zip]; omega
  ktf_call [D.b__law_net, D.b__law_net_1, TV.zipRun, TV.isDup, zipT_map, frzs_pair, clns_pair, idxT_0, idxT_1, sort_two]
  refine wx_for (fun p : Str × (Int × Int) => T.tup false [T.str p.1, pairF p.2]) _ (fun pre L => ∃ (net : List (Str × Str × Str)) (x7 x8 : Option T), net.map (·.1) = pre.map (·.1) ∧ (∀ n ∈ net, n.2.1 ∈ ks ∧ n.2.2 ∈ ks ∧ strLt n.2.2 n.2.1 = false) ∧ L = [some (.scr ns), some (.int k), some (.int p1), some (T.lst false (List.map pairF en)), some (T.lst false (List.map T.str ts)), some (T.lst true (List.map T.str ks)), some (T.lst true (net.map tieT)), x7, x8]) ⟨[], _, _, rfl, by simp, rfl⟩ ?_ ?_
  · rintro pre ⟨t, a, b⟩ post L e ⟨net, x7, x8, hn, hm, rfl⟩
    refine ⟨_, entT_two 7 8 false _ _, ?_⟩
    have hmem : (t, a, b) ∈ ts.zip en := by rw [e]; simp
    have hab := he _ (List.of_mem_zip hmem).2
    have a0 := hab.1
    have a1 : a < ks.length := by omega
    have b0 := hab.2.2.1
    have b1 : b < ks.length := by omega
    have nl : net.length ≤ 12 := by
      have h1 := congrArg List.length hn
      have h2 := congrArg List.length e
      simp at h1 h2
      omega
    ktf_call [D.b__law_net, D.b__law_net_1, TV.zipRun, TV.isDup, zipT_map, frzs_pair, clns_pair, idxT_0, idxT_1, sort_two]
    refine ⟨net ++ [(t, two (ks.getD a.toNat default) (ks.getD b.toNat default))], some (.str t), some (pairF (a, b)), ?_, ?_, ?_⟩
    · rw [List.map_append, List.map_append, hn]; rfl
    · intro n hn
      rcases List.mem_append.mp hn with h | h
      · exact hm n h
      · rw [List.mem_singleton.mp h]
        have := two_mem (P := fun x => x ∈ ks) (mem_get (xs := ks) (k := a.toNat) (by omega)) (mem_get (xs := ks) (k := b.toNat) (by omega))
        exact ⟨this.1, this.2, two_le _ _⟩
    · rw [List.map_append]; rfl
  · rintro L ⟨net, x7, x8, hn, hm, rfl⟩
    have nl : net.length ≤ 12 := by
      have h1 := congrArg List.length hn
      simp only [List.length_map] at h1
      omega
    have nz : ((ts.zip en).map (·.1)).Sublist ts := by
      exact zip_sub ts en
    have nd : (net.map (·.1)).Nodup := by rw [hn]; exact nz.nodup tn
    have hs := sortT_ties nd
    rw [← frzs_tie] at hs
    ktf_call [D.b__law_net, D.b__law_net_1, TV.zipRun, TV.isDup, zipT_map, frzs_pair, clns_pair, idxT_0, idxT_1, sort_two, hs]
    refine ⟨_, rfl, ?_, ties_lt nd, fun n hn2 => ?_⟩
    · rw [List.length_mergeSort]; exact nl
    · have hnn := (List.mergeSort_perm net tieLe).mem_iff.mp hn2
      have h := hm n hnn
      have h1 : n.1 ∈ ts := nz.subset (by rw [← hn]; exact List.mem_map_of_mem hnn)
      exact ⟨ti _ h1, ki _ h.1, ki _ h.2.1, h.2.2⟩
end
end TV

set_option Elab.async false
set_option linter.all false
set_option maxRecDepth 100000
set_option maxHeartbeats 4000000
set_option exponentiation.threshold 4000
set_option pp.maxSteps 1500
namespace TV
open PySem PySem.Spec PyProof.Rows L2
/-! P11: which points hang together (plain) -/
abbrev Tie := Str × Str × Str
def stepR (r : Str → Str) (a b : Str) : Str → Str := fun x => if r x = r b then r a else r x
theorem stepR_same {r : Str → Str} {a b : Str} (h : r a = r b) : stepR r a b = r := funext fun x => by
  unfold stepR
  by_cases e : r x = r b
  · rw [if_pos e, h, e]
  · rw [if_neg e]
theorem stepR_iff {r : Str → Str} {a b x y : Str} : stepR r a b x = stepR r a b y ↔ r x = r y ∨ ((r x = r a ∨ r x = r b) ∧ (r y = r a ∨ r y = r b)) := by
  unfold stepR
  by_cases e1 : r x = r b <;> by_cases e2 : r y = r b
  · rw [if_pos e1, if_pos e2]; exact ⟨fun _ => .inl (e1.trans e2.symm), fun _ => rfl⟩
  · rw [if_pos e1, if_neg e2]
    exact ⟨fun h => .inr ⟨.inr e1, .inl h.symm⟩, fun h => h.elim (fun h => absurd (h.symm.trans e1) e2) fun h => h.2.elim Eq.symm fun h => absurd h e2⟩
  · rw [if_neg e1, if_pos e2]
    exact ⟨fun h => .inr ⟨.inl h, .inr e2⟩, fun h => h.elim (fun h => absurd (h.trans e2) e1) fun h => h.1.elim id fun h => absurd h e1⟩
  · rw [if_neg e1, if_neg e2]
    exact ⟨fun h => .inl h, fun h => h.elim id fun h => (h.1.elim id fun h => absurd h e1).trans (h.2.elim Eq.symm fun h => absurd h e2)⟩
/-- what hangs together behind some ties -/
def repR : List Tie → Str → Str
  | net => net.foldl (fun r n => stepR r n.2.1 n.2.2) id
theorem repR_snoc (net : List Tie) (n : Tie) : repR (net ++ [n]) = stepR (repR net) n.2.1 n.2.2 := by
  unfold repR; rw [List.foldl_append]; rfl
/-- the wood: the ties that join -/
def woodR : List Tie → (Str → Str) → List Str
  | [], _ => []
  | n :: net, r => if r n.2.1 = r n.2.2 then woodR net r else n.1 :: woodR net (stepR r n.2.1 n.2.2)
/-- as gone through, from the left -/
def woodL (net : List Tie) : List Str := woodR net id
theorem woodR_snoc : ∀ (net : List Tie) (n : Tie) (r : Str → Str), woodR (net ++ [n]) r = woodR net r ++ (if (net.foldl (fun r n => stepR r n.2.1 n.2.2) r) n.2.1 = (net.foldl (fun r n => stepR r n.2.1 n.2.2) r) n.2.2 then [] else [n.1])
  | [], n, r => by
    show (if r n.2.1 = r n.2.2 then [] else [n.1]) = _
    rfl
  | m :: net, n, r => by
    show (if r m.2.1 = r m.2.2 then woodR (net ++ [n]) r else m.1 :: woodR (net ++ [n]) (stepR r m.2.1 m.2.2)) = (if r m.2.1 = r m.2.2 then woodR net r else m.1 :: woodR net (stepR r m.2.1 m.2.2)) ++ _
    rw [List.foldl_cons]
    by_cases h : r m.2.1 = r m.2.2
    · rw [if_pos h, if_pos h, stepR_same h, woodR_snoc net n r]
    · rw [if_neg h, if_neg h, woodR_snoc net n _]; rfl
theorem woodL_snoc (net : List Tie) (n : Tie) : woodL (net ++ [n]) = woodL net ++ (if repR net n.2.1 = repR net n.2.2 then [] else [n.1]) := woodR_snoc net n id
/-- heaps of points, as the law keeps them -/
def HeapsOk (hs : List (List Str)) (r : Str → Str) : Prop := ∀ x y, r x = r y ↔ x = y ∨ ∃ h ∈ hs, x ∈ h ∧ y ∈ h
theorem HeapsOk.step {hs : List (List Str)} {r : Str → Str} {a b : Str} (h : HeapsOk hs r) : HeapsOk (hs.filter (fun h => !(decide (a ∈ h) || decide (b ∈ h))) ++ [a :: b :: (hs.filter fun h => decide (a ∈ h) || decide (b ∈ h)).flatten]) (stepR r a b) := by
  have both : ∀ x, x ∈ a :: b :: (hs.filter fun h => decide (a ∈ h) || decide (b ∈ h)).flatten ↔ r x = r a ∨ r x = r b := fun x => by
    simp only [List.mem_cons, List.mem_flatten, List.mem_filter, Bool.or_eq_true, decide_eq_true_eq]
    constructor
    · rintro (e | e | ⟨l, ⟨h1, h2 | h2⟩, h3⟩)
      · exact .inl (by rw [e])
      · exact .inr (by rw [e])
      · exact .inl ((h x a).mpr (.inr ⟨l, h1, h3, h2⟩))
      · exact .inr ((h x b).mpr (.inr ⟨l, h1, h3, h2⟩))
    · rintro (e | e)
      · rcases (h x a).mp e with e | ⟨l, h1, h3, h2⟩
        · exact .inl e
        · exact .inr (.inr ⟨l, ⟨h1, .inl h2⟩, h3⟩)
      · rcases (h x b).mp e with e | ⟨l, h1, h3, h2⟩
        · exact .inr (.inl e)
        · exact .inr (.inr ⟨l, ⟨h1, .inr h2⟩, h3⟩)
  intro x y
  rw [stepR_iff]
  constructor
  · rintro (e | e)
    · rcases (h x y).mp e with e | ⟨l, h1, h2, h3⟩
      · exact .inl e
      · by_cases t : a ∈ l ∨ b ∈ l
        · refine .inr ⟨_, List.mem_append_right _ (List.mem_singleton.mpr rfl), (both x).mpr ?_, (both y).mpr ?_⟩
          · exact t.imp (fun t => (h x a).mpr (.inr ⟨l, h1, h2, t⟩)) fun t => (h x b).mpr (.inr ⟨l, h1, h2, t⟩)
          · exact t.imp (fun t => (h y a).mpr (.inr ⟨l, h1, h3, t⟩)) fun t => (h y b).mpr (.inr ⟨l, h1, h3, t⟩)
        · exact .inr ⟨l, List.mem_append_left _ (List.mem_filter.mpr ⟨h1, by simpa using t⟩), h2, h3⟩
    · exact .inr ⟨_, List.mem_append_right _ (List.mem_singleton.mpr rfl), (both x).mpr e.1, (both y).mpr e.2⟩
  · rintro (e | ⟨l, h1, h2, h3⟩)
    · exact .inl (by rw [e])
    · rcases List.mem_append.mp h1 with h1 | h1
      · exact .inl ((h x y).mpr (.inr ⟨l, (List.mem_filter.mp h1).1, h2, h3⟩))
      · rw [List.mem_singleton.mp h1] at h2 h3
        exact .inr ⟨(both x).mp h2, (both y).mp h3⟩
end TV

set_option Elab.async false
set_option linter.all false
set_option maxRecDepth 100000
set_option maxHeartbeats 4000000
set_option exponentiation.threshold 4000
set_option pp.maxSteps 1500
namespace TV
open PySem PySem.Spec PyProof.Rows L2
local macro_rules | `(tactic| ktf_call [$as,*]) => `(tactic| simp (maxSteps := 1000000) (disch := first | omega | assumption | (with_reducible ((repeat (first | assumption | exact deps_str _ _ | exact deps_int _ _ | exact deps_bl _ _ | exact deps_rows _ _ _ (by decide) | exact deps_nil _ | exact dep_s _ _ | exact dep_i _ _ | exact dep_b _ _ | exact dep_n _ | (refine deps_map ?_; intro _ _) | apply deps_cons | apply deps_app | refine dep_lst2 ?_ (by decide) | refine dep_tup2 ?_ (by decide) | exact Nat.zero_le _)); done)) | (simp only [List.length_append, List.length_cons, List.length_nil, List.length_take, List.length_drop, List.length_replicate, List.length_map, List.length_range, List.length_singleton, mkS_len]; omega) | (decide; done)) only [wx_ok, wx_stuck, wx_bind, wx_noErr, wf_ok, cS_t, cS_f, eS_t, eS_f, exec_iffS, ev_iteS, onBe_bl, cB_t, cB_f, cB_and, cB_or, cB_not, cB_b, sg_has, goA_some, callRun_eq, callBack_ok, onO_some, onO_none, noErr_ok, onB_bl, onF_nx, onF_rt, onF_bk, onF_ct, loopF_nx, loopF_ct, loopF_bk, loopF_rt, slot_0, slot_s, obind_some, obind_none, omap_some, omap_none, rd_v, rd_s, rd_p, pathT_nil, pathT_lst, pathT_tup, rds_nil, rds_cons, ev_var, ev_cst, ev_pth, ev_op, nlkO_eq, ev_lst, ev_tup, ev_dic, ev_dit0, ev_call, ev_and, ev_or, ev_not, ev_chain, ev_comp, ev_pop, evs_nil, evs_cons, evq_nil, evq_var, evq_pth, evo_var, evo_pthT, evo_pthF, evt_nil, evt_one, evi_seq, evi_rng, evi_enm, evi_zip, evi_rev, mvr_var, mvr_tup, mvr_lst, mvs_nil, mvs_cons, mv_var, evb_eq, exec_set, exec_setm, exec_par, exec_aug, augRun_int, exec_sub, exec_mut, onL_l, exec_exp, exec_ret, exec_retn, exec_whl, exec_for, endF_nx, endF_rt, backS_n, backS_s, backSS_n, backSS_k, exec_brk, exec_cnt, exec_pass, exec_rais, execs_nil, execs_cons, formOpen_t, opRun_eq, opK_bin_int, opK_bin_str, opK_bin_si, opK_cat, opK_cmp, opK_neg, opK_inv, opK_len, opK_abs, opK_int, opK_str, opK_isi, opK_max, opK_min, opK_sum, opK_all, opK_any, opK_idx_str, opK_idx_scr, opK_idx_lst, opK_idx_tup, opK_idx_dic, opK_idx_lkd, opK_get, opK_slc_s01, opK_slc_s10, opK_slc_s11, opK_slc_l01, opK_slc_l10, opK_slc_l11, opK_list, opK_tupl, opK_sortd, kidL_v, kidL_s, kidLs_t, kidLs_f, frz_lst, frz_tup, frz_dic, frz_int, frz_str, frz_bl, frz_non, frz_scr, frzs_nil, frzs_cons, frzs_int, frzs_str, frzs_bl, shrs_int, shrs_str, clns_int, clns_str, frzs_rows, shrs_rows, clns_rows, frzs_app, shrs_app, clns_app, itSeq_L, itSeq_T, itSeq_S, itSeq_K, itTpl_v, itTpl_s, itTpl_f, itTpl_tF, itTpl_tT, itStr_v, itStr_ss, itKey_s, itKey_t, itFrz_v, itFrz_s, itFrz_f, itFrz_tF, itFrz_tT, finF_rt, finF_nx, finS_eq, outS_nil, outS, argS, varRun, pthRun, dspRun, mvV, shr, cln, shrs, clns, catRun, mutsOf, noDup, lent, frzO, setOuts, wipeL, backL, tgs, backOk, mT, aS, aSs, simpEs, simp1, setO, sub_one, mutT, LINE_eq, sop, bAdd, bSub, bMul_h, bMul, bDiv_h, bDiv, bMod, bPow, bShl, bShr, bAnd, bOr, bXor, cEq_i, cEq_s, cEq_b, cNe_i, cNe_s, cEq_go, cNe_go, cLt_i, cLe_i, cGt_i, cGe_i, cLt_s, cLe_s, cGt_s, cGe_s, cIs_n, cIsN_n, cIn_L, cNin_L, eqT_int, eqT_str, eqT_bl, eqT_lst, eqT_tup, eqTs_nil, eqTs_cons, eqTs_n1, eqTs_n2, eqTs_str, eqTs_int, eqTs_rows, eqTs_nilR, any_str, idxL_one, idxL_strn, idxL_intn, idxL_row, atI_nn, signAt_nn, rng_n, rng_ab, lenS_l, lenS_t, lenS_scr, lenS_d, lenS_s, isiS, tyOf, isNon, List.map_cons, List.map_nil, List.cons_append, List.nil_append, List.replicate_succ, List.replicate_zero, List.set_cons_zero, List.set_cons_succ, List.length_cons, List.length_nil, List.getElem?_cons_zero, List.getElem?_cons_succ, List.length_map, List.length_append, List.all_cons, List.all_nil, List.contains_nil, List.contains_cons, Option.some.injEq, Nat.reduceAdd, Nat.reduceSub, Nat.reduceLeDiff, Nat.reduceBEq, Nat.reduceEqDiff, Int.reduceNeg, Int.reduceToNat, Int.reduceAdd, Int.reduceSub, Int.reduceMul, Int.reducePow, Int.reduceLT, Int.reduceLE, Int.reduceEq, Int.reduceNe, String.reduceEq, if_true, if_false, reduceIte, reduceCtorEq, ne_eq, not_false_eq_true, implies_true, BEq.rfl, beq_self_eq_true, Bool.false_eq_true, Bool.true_eq_false, Bool.or_false, Bool.false_or, Bool.or_true, Bool.true_or, Bool.and_true, Bool.true_and, Bool.and_false, Bool.false_and, Bool.not_true, Bool.not_false, Bool.not_not, and_true, true_and, and_false, false_and, or_true, true_or, or_false, false_or, decide_true, decide_false, id_eq, evq_cst, evo_cst, mv_cst, mvr_cst, evq_op, evo_op, mv_op, mvr_op, evq_lst, evo_lst, mv_lst, evq_tup, evo_tup, mv_tup, evq_dic, evo_dic, mv_dic, mvr_dic, evq_dit0, evo_dit0, mv_dit0, mvr_dit0, evq_call, evo_call, mv_call, mvr_call, evq_and, evo_and, mv_and, mvr_and, evq_or, evo_or, mv_or, mvr_or, evq_not, evo_not, mv_not, mvr_not, evq_ite, evo_ite, mv_ite, mvr_ite, evq_chain, evo_chain, mv_chain, mvr_chain, evq_comp, evo_comp, mv_comp, mvr_comp, evq_srtk, evo_srtk, mv_srtk, mvr_srtk, evq_pop, evo_pop, mv_pop, mvr_pop, mv_pth, mvr_pth, sortL_str, sortL_s, sortT_str, mkS_one, mkS_len, mkS_app, slcS_hi, slcS_lo, bSMul_mk, bSAdd_mk, signAt_mk, lenS_mk, and_1, big_no, List.length_range, Out.bind_ok, filter_tt, Int.toNat_natCast, ite_le, ite_lt, app_str, opK_catT, opK_listT, opK_srtset, kidT_v, kidT_s, kidTs_t, kidTs_f, catTRun, sortSetL, frz_dit, isLkd_non, isLkd_bl, isLkd_int, isLkd_str, isLkd_lst, isLkd_tup, isLkd_dic, isLkd_dit, isLkd_lkd, isLkd_scr, isOwn_non, isOwn_bl, isOwn_int, isOwn_str, isOwn_lst, isOwn_tup, isOwn_dic, isOwn_dit, isOwn_lkd, isOwn_scr, ite_self, strsOf_map, true_imp_iff, false_imp_iff, slcL, cutT_hi, cutT_lo, take_map, drop_map, Int.cast_ofNat_Int, ev_lend, lendRun, lendA, lendBack, List.any_nil, List.any_cons, entT_two, entT_three, opK_lrng1, opK_lrng2, $[$as:term],*])
section
variable {tb : Tbl} {N d : Nat}
theorem part_len (p : List Str → Bool) : ∀ hs : List (List Str), (hs.filter fun h => !p h).flatten.length + (hs.filter p).flatten.length = hs.flatten.length
  | [] => rfl
  | h :: hs => by
    have ih := part_len p hs
    by_cases e : p h = true
    · rw [List.filter_cons_of_neg (by simpa using e), List.filter_cons_of_pos e]
      simp only [List.flatten_cons, List.length_append]; omega
    · rw [List.filter_cons_of_pos (by simpa using e), List.filter_cons_of_neg e]
      simp only [List.flatten_cons, List.length_append]; omega
theorem woodR_len : ∀ (net : List Tie) (r : Str → Str), (woodR net r).length ≤ net.length
  | [], _ => Nat.le_refl _
  | n :: net, r => by
    show (if r n.2.1 = r n.2.2 then woodR net r else n.1 :: woodR net (stepR r n.2.1 n.2.2)).length ≤ net.length + 1
    by_cases h : r n.2.1 = r n.2.2
    · rw [if_pos h]; have := woodR_len net r; omega
    · rw [if_neg h, List.length_cons]; have := woodR_len net (stepR r n.2.1 n.2.2); omega
theorem isDic_l (o : Bool) (xs : List T) : isDic (.lst o xs) = false := rfl
def touch (a b : Str) (h : List Str) : Bool := decide (a ∈ h) || decide (b ∈ h)
theorem frzs_tieF (net : List Tie) : frzs (net.map tieF) = net.map tieF := by
  rw [frzs_map, List.map_map]
  exact List.map_congr_left fun e _ => by simp [frz_tup, frzs_cons, frzs_nil, frz_str, tieF]
theorem blsOf_map : ∀ xs : List Bool, blsOf (xs.map T.bl) = some xs
  | [] => rfl
  | x :: xs => by show (blsOf (xs.map T.bl)).map (x :: ·) = _; rw [blsOf_map xs]; rfl
theorem any_map {α : Type} (f : α → Bool) (o : Bool) (xs : List α) : sop .any [T.lst o (xs.map fun x => T.bl (f x))] = some (.bl (xs.any f)) := by
  have e : (xs.map fun x => T.bl (f x)) = (xs.map f).map T.bl := by rw [List.map_map]; rfl
  rw [e]
  show (blsOf ((xs.map f).map T.bl)).map (fun bs => T.bl (bs.any id)) = _
  rw [blsOf_map]
  simp [List.any_map]
theorem rowsF_any (hs : List (List Str)) (h : List Str) : ((rowsF hs).any fun z => eqT z (.lst false (h.map T.str))) = decide (h ∈ hs) := by
  induction hs with
  | nil => simp
  | cons x hs ih =>
    show (eqT (.lst false (x.map T.str)) (.lst false (h.map T.str)) || (rowsF hs).any fun z => eqT z (.lst false (h.map T.str))) = _
    rw [ih, eqT_lst, eqTs_str]
    by_cases e : x = h
    · subst e; simp
    · have e2 : ¬ h = x := fun z => e z.symm
      simp [e, e2]
theorem blsOf_mapf {α : Type} (f : α → Bool) (xs : List α) : blsOf (xs.map fun x => T.bl (f x)) = some (xs.map f) := by
  have e : (xs.map fun x => T.bl (f x)) = (xs.map f).map T.bl := by rw [List.map_map]; rfl
  rw [e, blsOf_map]
theorem frzs_rowsF (hs : List (List Str)) : frzs (rowsF hs) = rowsF hs := frzs_rows false hs
theorem rowsF_map {α : Type} (f : α → List Str) (xs : List α) : (xs.map fun x => T.lst false ((f x).map T.str)) = rowsF (xs.map f) := by unfold rowsF; rw [List.map_map]; rfl
theorem law_wood_ok [D.H__law_wood tb] (o : Bool) (x0 : List T) (net : List Tie) (hx0 : frzs x0 = net.map tieF) (hl : net.length ≤ 12) : run tb N (d + 1) "_law_wood" [.lst o x0] = .ok (.lst true ((woodL net).map T.str)) [] := by
  refine wf_eq (wf_in (us := [.lst false (net.map tieF)]) rfl rfl (by ktf_call [D.b__law_wood, D.b__law_wood_1, D.b__law_wood_2, D.c__law_wood_1, D.c__law_wood_1i, D.c__law_wood_2, D.c__law_wood_2i, D.c__law_wood_3, D.c__law_wood_3i, frzs_tieF, frzs_rowsF, isDic_l, blsOf_mapf, rowsF_any, hx0]) ?_)
  ktf_call [D.b__law_wood, D.b__law_wood_1, D.b__law_wood_2, D.c__law_wood_1, D.c__law_wood_1i, D.c__law_wood_2, D.c__law_wood_2i, D.c__law_wood_3, D.c__law_wood_3i, frzs_tieF, frzs_rowsF, isDic_l, blsOf_mapf, rowsF_any]
  refine wx_for tieF net (fun pre L => ∃ (hs : List (List Str)) (x2 : List T) (x3 x4 x5 x6 x7 x8 : Option T), frzs x2 = rowsF hs ∧ HeapsOk hs (repR pre) ∧ hs.length ≤ pre.length ∧ hs.flatten.length ≤ 2 * pre.length ∧ L = [some (.lst false (net.map tieF)), some (.lst true ((woodL pre).map T.str)), some (.lst true x2), x3, x4, x5, x6, x7, x8]) ?_ ?_ ?_
  · refine ⟨[], [], _, _, _, _, _, _, rfl, fun x y => ?_, Nat.le_refl _, Nat.le_refl _, rfl⟩
    show x = y ↔ _
    simp
  · rintro pre ⟨n, a, b⟩ post L e ⟨hs, x2, x3, x4, x5, x6, x7, x8, hx, hh, hls, hfl, rfl⟩
    refine ⟨_, entT_three 3 4 5 false _ _ _, ?_⟩
    have hpl : pre.length ≤ 12 := by
      have := congrArg List.length e
      simp at this; omega
    have hxl := rowsF_len hx
    ktf_call [D.b__law_wood, D.b__law_wood_1, D.b__law_wood_2, D.c__law_wood_1, D.c__law_wood_1i, D.c__law_wood_2, D.c__law_wood_2i, D.c__law_wood_3, D.c__law_wood_3i, frzs_tieF, frzs_rowsF, isDic_l, blsOf_mapf, rowsF_any, hx]
    refine wx_compA (fun h : List Str => T.lst false (h.map T.str)) (touch a b) (fun h : List Str => T.lst false (h.map T.str)) rfl ?_ ?_ ?_
    · intro h hm
      unfold touch
      by_cases e1 : a ∈ h
      · have e2 := decide_eq_true e1
        ktf_call [D.b__law_wood, D.b__law_wood_1, D.b__law_wood_2, D.c__law_wood_1, D.c__law_wood_1i, D.c__law_wood_2, D.c__law_wood_2i, D.c__law_wood_3, D.c__law_wood_3i, frzs_tieF, frzs_rowsF, isDic_l, blsOf_mapf, rowsF_any, e2]
      · have e2 := decide_eq_false e1
        ktf_call [D.b__law_wood, D.b__law_wood_1, D.b__law_wood_2, D.c__law_wood_1, D.c__law_wood_1i, D.c__law_wood_2, D.c__law_wood_2i, D.c__law_wood_3, D.c__law_wood_3i, frzs_tieF, frzs_rowsF, isDic_l, blsOf_mapf, rowsF_any, e2]
    · intro h hm _
      ktf_call [D.b__law_wood, D.b__law_wood_1, D.b__law_wood_2, D.c__law_wood_1, D.c__law_wood_1i, D.c__law_wood_2, D.c__law_wood_2i, D.c__law_wood_3, D.c__law_wood_3i, frzs_tieF, frzs_rowsF, isDic_l, blsOf_mapf, rowsF_any]
    · intro y
      have lm : (hs.filter (touch a b)).length ≤ 12 := Nat.le_trans (List.length_filter_le _ _) (by omega)
      generalize hmine : hs.filter (touch a b) = mine at lm
      ktf_call [D.b__law_wood, D.b__law_wood_1, D.b__law_wood_2, D.c__law_wood_1, D.c__law_wood_1i, D.c__law_wood_2, D.c__law_wood_2i, D.c__law_wood_3, D.c__law_wood_3i, frzs_tieF, frzs_rowsF, isDic_l, blsOf_mapf, rowsF_any]
      by_cases eab : a = b
      · have e2 := decide_eq_true eab
        ktf_call [D.b__law_wood, D.b__law_wood_1, D.b__law_wood_2, D.c__law_wood_1, D.c__law_wood_1i, D.c__law_wood_2, D.c__law_wood_2i, D.c__law_wood_3, D.c__law_wood_3i, frzs_tieF, frzs_rowsF, isDic_l, blsOf_mapf, rowsF_any, e2]
        have er : repR pre a = repR pre b := by rw [eab]
        refine ⟨hs, rowsF hs, some (.str n), some (.str a), some (.str b), some (.lst true (rowsF mine)), x7, x8, frzs_rowsF hs, ?_, by omega, by omega, ?_⟩
        · rw [repR_snoc, stepR_same er]; exact hh
        · rw [woodL_snoc, if_pos er, List.append_nil]
      · have e2 := decide_eq_false eab
        ktf_call [D.b__law_wood, D.b__law_wood_1, D.b__law_wood_2, D.c__law_wood_1, D.c__law_wood_1i, D.c__law_wood_2, D.c__law_wood_2i, D.c__law_wood_3, D.c__law_wood_3i, frzs_tieF, frzs_rowsF, isDic_l, blsOf_mapf, rowsF_any, e2]
        refine wx_compT (fun h : List Str => T.lst false (h.map T.str)) (fun h => T.bl (decide (a ∈ h) && decide (b ∈ h))) rfl (fun _ => ⟨_, _, rfl⟩) ?_ ?_
        · intro h hm
          by_cases e1 : a ∈ h
          · have e2 := decide_eq_true e1
            ktf_call [D.b__law_wood, D.b__law_wood_1, D.b__law_wood_2, D.c__law_wood_1, D.c__law_wood_1i, D.c__law_wood_2, D.c__law_wood_2i, D.c__law_wood_3, D.c__law_wood_3i, frzs_tieF, frzs_rowsF, isDic_l, blsOf_mapf, rowsF_any, e2]
          · have e2 := decide_eq_false e1
            ktf_call [D.b__law_wood, D.b__law_wood_1, D.b__law_wood_2, D.c__law_wood_1, D.c__law_wood_1i, D.c__law_wood_2, D.c__law_wood_2i, D.c__law_wood_3, D.c__law_wood_3i, frzs_tieF, frzs_rowsF, isDic_l, blsOf_mapf, rowsF_any, e2]
        · intro y
          ktf_call [D.b__law_wood, D.b__law_wood_1, D.b__law_wood_2, D.c__law_wood_1, D.c__law_wood_1i, D.c__law_wood_2, D.c__law_wood_2i, D.c__law_wood_3, D.c__law_wood_3i, frzs_tieF, frzs_rowsF, isDic_l, blsOf_mapf, rowsF_any]
          by_cases an : (mine.map fun h => decide (a ∈ h) && decide (b ∈ h)).any id = true
          · have er : repR pre a = repR pre b := by
              rw [List.any_map, List.any_eq_true] at an
              obtain ⟨h, h1, h2⟩ := an
              simp at h2
              exact (hh a b).mpr (.inr ⟨h, (List.mem_filter.mp (hmine ▸ h1)).1, h2.1, h2.2⟩)
            ktf_call [D.b__law_wood, D.b__law_wood_1, D.b__law_wood_2, D.c__law_wood_1, D.c__law_wood_1i, D.c__law_wood_2, D.c__law_wood_2i, D.c__law_wood_3, D.c__law_wood_3i, frzs_tieF, frzs_rowsF, isDic_l, blsOf_mapf, rowsF_any, an]
            refine ⟨hs, rowsF hs, some (.str n), some (.str a), some (.str b), some (.lst true (rowsF mine)), x7, x8, frzs_rowsF hs, ?_, by omega, by omega, ?_⟩
            · rw [repR_snoc, stepR_same er]; exact hh
            · rw [woodL_snoc, if_pos er, List.append_nil]
          · have er : ¬ repR pre a = repR pre b := fun er => by
              rcases (hh a b).mp er with e | ⟨h, h1, h2, h3⟩
              · exact eab e
              · refine an ?_
                rw [List.any_map, List.any_eq_true]
                refine ⟨h, ?_, by simp [h2, h3]⟩
                rw [← hmine]
                exact List.mem_filter.mpr ⟨h1, by unfold touch; rw [decide_eq_true h2]; rfl⟩
            have an2 := Bool.eq_false_iff.mpr an
            have wl : (woodL pre).length ≤ 12 := Nat.le_trans (woodR_len _ _) hpl
            ktf_call [D.b__law_wood, D.b__law_wood_1, D.b__law_wood_2, D.c__law_wood_1, D.c__law_wood_1i, D.c__law_wood_2, D.c__law_wood_2i, D.c__law_wood_3, D.c__law_wood_3i, frzs_tieF, frzs_rowsF, isDic_l, blsOf_mapf, rowsF_any, an2]
            have fl := part_len (touch a b) hs
            rw [hmine] at fl
            refine wx_for (fun h : List Str => T.lst false (h.map T.str)) mine (fun pr L => ∃ y7, L = [some (.lst false (net.map tieF)), some (.lst true ((woodL pre).map T.str ++ [.str n])), some (.lst true (rowsF hs)), some (.str n), some (.str a), some (.str b), none, y7, some (.lst true ((a :: b :: pr.flatten).map T.str))]) ⟨_, rfl⟩ ?_ ?_
            · rintro pr h po L e ⟨y7, rfl⟩
              have hpf : pr.flatten.length + h.length ≤ 24 := by
                have := congrArg (fun l => (List.flatten l).length) e
                simp at this
                have h9 : mine.flatten.length ≤ hs.flatten.length := by omega
                simp at h9 hfl
                simp
                omega
              refine ⟨_, rfl, ?_⟩
              ktf_call [D.b__law_wood, D.b__law_wood_1, D.b__law_wood_2, D.c__law_wood_1, D.c__law_wood_1i, D.c__law_wood_2, D.c__law_wood_2i, D.c__law_wood_3, D.c__law_wood_3i, frzs_tieF, frzs_rowsF, isDic_l, blsOf_mapf, rowsF_any]
              exact ⟨some (.lst false (h.map T.str)), by simp⟩
            · rintro L ⟨y7, rfl⟩
              have hml : mine.length ≤ 12 := lm
              have mf : mine.flatten.length ≤ 24 := by omega
              ktf_call [D.b__law_wood, D.b__law_wood_1, D.b__law_wood_2, D.c__law_wood_1, D.c__law_wood_1i, D.c__law_wood_2, D.c__law_wood_2i, D.c__law_wood_3, D.c__law_wood_3i, frzs_tieF, frzs_rowsF, isDic_l, blsOf_mapf, rowsF_any]
              refine wx_compA (fun h : List Str => T.lst false (h.map T.str)) (fun h => !decide (h ∈ mine)) (fun h : List Str => T.lst false (h.map T.str)) rfl ?_ ?_ ?_
              · intro h hm
                ktf_call [D.b__law_wood, D.b__law_wood_1, D.b__law_wood_2, D.c__law_wood_1, D.c__law_wood_1i, D.c__law_wood_2, D.c__law_wood_2i, D.c__law_wood_3, D.c__law_wood_3i, frzs_tieF, frzs_rowsF, isDic_l, blsOf_mapf, rowsF_any]
              · intro h hm _
                ktf_call [D.b__law_wood, D.b__law_wood_1, D.b__law_wood_2, D.c__law_wood_1, D.c__law_wood_1i, D.c__law_wood_2, D.c__law_wood_2i, D.c__law_wood_3, D.c__law_wood_3i, frzs_tieF, frzs_rowsF, isDic_l, blsOf_mapf, rowsF_any]
              · intro y
                have ef : (hs.filter fun h => !decide (h ∈ mine)) = hs.filter fun h => !touch a b h := by
                  refine List.filter_congr fun h hm => ?_
                  rw [← hmine]
                  simp [List.mem_filter, hm]
                rw [ef]
                have flen : (hs.filter fun h => !touch a b h).length ≤ 12 := Nat.le_trans (List.length_filter_le _ _) (by omega)
                ktf_call [D.b__law_wood, D.b__law_wood_1, D.b__law_wood_2, D.c__law_wood_1, D.c__law_wood_1i, D.c__law_wood_2, D.c__law_wood_2i, D.c__law_wood_3, D.c__law_wood_3i, frzs_tieF, frzs_rowsF, isDic_l, blsOf_mapf, rowsF_any]
                refine ⟨(hs.filter fun h => !touch a b h) ++ [a :: b :: mine.flatten], rowsF ((hs.filter fun h => !touch a b h) ++ [a :: b :: mine.flatten]), some (.str n), some (.str a), some (.str b), some (.lst true (rowsF mine)), y7, some (.lst false (T.str a :: T.str b :: List.map T.str mine.flatten)), ?_, ?_, ?_, ?_, ?_⟩
                · exact frzs_rowsF _
                · rw [repR_snoc, ← hmine]; exact hh.step
                · simp only [List.length_append, List.length_cons, List.length_nil]
                  have := List.length_filter_le (fun h => !touch a b h) hs
                  omega
                · rw [List.flatten_append, List.length_append]
                  simp only [List.flatten_cons, List.flatten_nil, List.append_nil, List.length_cons]
                  omega
                · rw [woodL_snoc, if_neg er, List.map_append]
                  simp [rowsF]
  · rintro L ⟨hs, x2, x3, x4, x5, x6, x7, x8, hx, hh, hls, hfl, rfl⟩
    ktf_call [D.b__law_wood, D.b__law_wood_1, D.b__law_wood_2, D.c__law_wood_1, D.c__law_wood_1i, D.c__law_wood_2, D.c__law_wood_2i, D.c__law_wood_3, D.c__law_wood_3i, frzs_tieF, frzs_rowsF, isDic_l, blsOf_mapf, rowsF_any]
end
end TV

set_option Elab.async false
set_option linter.all false
set_option maxRecDepth 100000
set_option maxHeartbeats 4000000
set_option exponentiation.threshold 4000
set_option pp.maxSteps 1500
namespace TV
open PySem PySem.Spec PyProof.Rows L2
local macro_rules | `(tactic| ktf_call [$as,*]) => `(tactic| simp (maxSteps := 1000000) (disch := first | omega | assumption | (with_reducible ((repeat (first | assumption | exact deps_str _ _ | exact deps_int _ _ | exact deps_bl _ _ | exact deps_rows _ _ _ (by decide) | exact deps_nil _ | exact dep_s _ _ | exact dep_i _ _ | exact dep_b _ _ | exact dep_n _ | (refine deps_map ?_; intro _ _) | apply deps_cons | apply deps_app | refine dep_lst2 ?_ (by decide) | refine dep_tup2 ?_ (by decide) | exact Nat.zero_le _)); done)) | (simp only [List.length_append, List.length_cons, List.length_nil, List.length_take, List.length_drop, List.length_replicate, List.length_map, List.length_range, List.length_singleton, mkS_len]; omega) | (decide; done)) only [wx_ok, wx_stuck, wx_bind, wx_noErr, wf_ok, cS_t, cS_f, eS_t, eS_f, exec_iffS, ev_iteS, onBe_bl, cB_t, cB_f, cB_and, cB_or, cB_not, cB_b, sg_has, goA_some, callRun_eq, callBack_ok, onO_some, onO_none, noErr_ok, onB_bl, onF_nx, onF_rt, onF_bk, onF_ct, loopF_nx, loopF_ct, loopF_bk, loopF_rt, slot_0, slot_s, obind_some, obind_none, omap_some, omap_none, rd_v, rd_s, rd_p, pathT_nil, pathT_lst, pathT_tup, rds_nil, rds_cons, ev_var, ev_cst, ev_pth, ev_op, nlkO_eq, ev_lst, ev_tup, ev_dic, ev_dit0, ev_call, ev_and, ev_or, ev_not, ev_chain, ev_comp, ev_pop, evs_nil, evs_cons, evq_nil, evq_var, evq_pth, evo_var, evo_pthT, evo_pthF, evt_nil, evt_one, evi_seq, evi_rng, evi_enm, evi_zip, evi_rev, mvr_var, mvr_tup, mvr_lst, mvs_nil, mvs_cons, mv_var, evb_eq, exec_set, exec_setm, exec_par, exec_aug, augRun_int, exec_sub, exec_mut, onL_l, exec_exp, exec_ret, exec_retn, exec_whl, exec_for, endF_nx, endF_rt, backS_n, backS_s, backSS_n, backSS_k, exec_brk, exec_cnt, exec_pass, exec_rais, execs_nil, execs_cons, formOpen_t, opRun_eq, opK_bin_int, opK_bin_str, opK_bin_si, opK_cat, opK_cmp, opK_neg, opK_inv, opK_len, opK_abs, opK_int, opK_str, opK_isi, opK_max, opK_min, opK_sum, opK_all, opK_any, opK_idx_str, opK_idx_scr, opK_idx_lst, opK_idx_tup, opK_idx_dic, opK_idx_lkd, opK_get, opK_slc_s01, opK_slc_s10, opK_slc_s11, opK_slc_l01, opK_slc_l10, opK_slc_l11, opK_list, opK_tupl, opK_sortd, kidL_v, kidL_s, kidLs_t, kidLs_f, frz_lst, frz_tup, frz_dic, frz_int, frz_str, frz_bl, frz_non, frz_scr, frzs_nil, frzs_cons, frzs_int, frzs_str, frzs_bl, shrs_int, shrs_str, clns_int, clns_str, frzs_rows, shrs_rows, clns_rows, frzs_app, shrs_app, clns_app, itSeq_L, itSeq_T, itSeq_S, itSeq_K, itTpl_v, itTpl_s, itTpl_f, itTpl_tF, itTpl_tT, itStr_v, itStr_ss, itKey_s, itKey_t, itFrz_v, itFrz_s, itFrz_f, itFrz_tF, itFrz_tT, finF_rt, finF_nx, finS_eq, outS_nil, outS, argS, varRun, pthRun, dspRun, mvV, shr, cln, shrs, clns, catRun, mutsOf, noDup, lent, frzO, setOuts, wipeL, backL, tgs, backOk, mT, aS, aSs, simpEs, simp1, setO, sub_one, mutT, LINE_eq, sop, bAdd, bSub, bMul_h, bMul, bDiv_h, bDiv, bMod, bPow, bShl, bShr, bAnd, bOr, bXor, cEq_i, cEq_s, cEq_b, cNe_i, cNe_s, cEq_go, cNe_go, cLt_i, cLe_i, cGt_i, cGe_i, cLt_s, cLe_s, cGt_s, cGe_s, cIs_n, cIsN_n, cIn_L, cNin_L, eqT_int, eqT_str, eqT_bl, eqT_lst, eqT_tup, eqTs_nil, eqTs_cons, eqTs_n1, eqTs_n2, eqTs_str, eqTs_int, eqTs_rows, eqTs_nilR, any_str, idxL_one, idxL_strn, idxL_intn, idxL_row, atI_nn, signAt_nn, rng_n, rng_ab, lenS_l, lenS_t, lenS_scr, lenS_d, lenS_s, isiS, tyOf, isNon, List.map_cons, List.map_nil, List.cons_append, List.nil_append, List.replicate_succ, List.replicate_zero, List.set_cons_zero, List.set_cons_succ, List.length_cons, List.length_nil, List.getElem?_cons_zero, List.getElem?_cons_succ, List.length_map, List.length_append, List.all_cons, List.all_nil, List.contains_nil, List.contains_cons, Option.some.injEq, Nat.reduceAdd, Nat.reduceSub, Nat.reduceLeDiff, Nat.reduceBEq, Nat.reduceEqDiff, Int.reduceNeg, Int.reduceToNat, Int.reduceAdd, Int.reduceSub, Int.reduceMul, Int.reducePow, Int.reduceLT, Int.reduceLE, Int.reduceEq, Int.reduceNe, String.reduceEq, if_true, if_false, reduceIte, reduceCtorEq, ne_eq, not_false_eq_true, implies_true, BEq.rfl, beq_self_eq_true, Bool.false_eq_true, Bool.true_eq_false, Bool.or_false, Bool.false_or, Bool.or_true, Bool.true_or, Bool.and_true, Bool.true_and, Bool.and_false, Bool.false_and, Bool.not_true, Bool.not_false, Bool.not_not, and_true, true_and, and_false, false_and, or_true, true_or, or_false, false_or, decide_true, decide_false, id_eq, evq_cst, evo_cst, mv_cst, mvr_cst, evq_op, evo_op, mv_op, mvr_op, evq_lst, evo_lst, mv_lst, evq_tup, evo_tup, mv_tup, evq_dic, evo_dic, mv_dic, mvr_dic, evq_dit0, evo_dit0, mv_dit0, mvr_dit0, evq_call, evo_call, mv_call, mvr_call, evq_and, evo_and, mv_and, mvr_and, evq_or, evo_or, mv_or, mvr_or, evq_not, evo_not, mv_not, mvr_not, evq_ite, evo_ite, mv_ite, mvr_ite, evq_chain, evo_chain, mv_chain, mvr_chain, evq_comp, evo_comp, mv_comp, mvr_comp, evq_srtk, evo_srtk, mv_srtk, mvr_srtk, evq_pop, evo_pop, mv_pop, mvr_pop, mv_pth, mvr_pth, sortL_str, sortL_s, sortT_str, mkS_one, mkS_len, mkS_app, slcS_hi, slcS_lo, bSMul_mk, bSAdd_mk, signAt_mk, lenS_mk, and_1, big_no, List.length_range, Out.bind_ok, filter_tt, Int.toNat_natCast, ite_le, ite_lt, app_str, opK_catT, opK_listT, opK_srtset, kidT_v, kidT_s, kidTs_t, kidTs_f, catTRun, sortSetL, frz_dit, isLkd_non, isLkd_bl, isLkd_int, isLkd_str, isLkd_lst, isLkd_tup, isLkd_dic, isLkd_dit, isLkd_lkd, isLkd_scr, isOwn_non, isOwn_bl, isOwn_int, isOwn_str, isOwn_lst, isOwn_tup, isOwn_dic, isOwn_dit, isOwn_lkd, isOwn_scr, ite_self, strsOf_map, true_imp_iff, false_imp_iff, slcL, cutT_hi, cutT_lo, take_map, drop_map, Int.cast_ofNat_Int, ev_lend, lendRun, lendA, lendBack, List.any_nil, List.any_cons, entT_two, entT_three, opK_lrng1, opK_lrng2, $[$as:term],*])
section
variable {tb : Tbl} {N d : Nat}
theorem kAdd_len {K : List Str} {x : Str} : (kAdd K x).length ≤ K.length + 1 := by
  unfold kAdd
  by_cases h : x ∈ K
  · rw [if_pos h]; omega
  · rw [if_neg h, List.length_append]; exact Nat.le_refl _
theorem wd_get {K : List Str} {r : Str → Str} {x : Str} {i : Nat} {L : Slots} (h : x ∉ K → r x = x) : getD (K.map Sum.inr) (K.map fun y => T.str (r y)) (.str x) (.str x) (.s i []) L = some (.str (r x), L) := by
  show (match dget (Sum.inr x : Key) (K.map Sum.inr) (K.map fun y => T.str (r y)) with | some x => if isOwn x then none else some (x, L) | none => some (T.str x, L)) = _
  rw [dget_map]
  by_cases hk : x ∈ K
  · rw [if_pos hk]; rfl
  · rw [if_neg hk, h hk]
theorem wd_put {K : List Str} {f : Str → Str} {x v : Str} (hn : K.Nodup) (hl : K.length ≤ 1000) : updT (subT (.str x) (.str v)) [] (.dic true (K.map Sum.inr) (K.map fun y => T.str (f y))) = some (.dic true ((kAdd K x).map Sum.inr) ((kAdd K x).map fun y => T.str (if y = x then v else f y))) := by
  show (if (K.map (Sum.inr : Str → Key)).length < LINE ∧ (K.map (Sum.inr : Str → Key)).Nodup then some (T.dic true (dput (Sum.inr x : Key) (.str v) (K.map Sum.inr) (K.map fun y => T.str (f y))).1 (dput (Sum.inr x : Key) (.str v) (K.map Sum.inr) (K.map fun y => T.str (f y))).2) else none) = _
  rw [if_pos ⟨by rw [List.length_map, LINE_eq]; omega, inr_nodup hn⟩, dput_map _ _ _ _ hn]
  refine congrArg some (congrArg (T.dic true _) (List.map_congr_left fun y _ => ?_))
  by_cases e : y = x
  · rw [if_pos e, if_pos e]
  · rw [if_neg e, if_neg e]
theorem wd_idx {K : List Str} {f : Str → Str} {x : Str} {L : Slots} {i : Nat} (h : x ∈ K) : idxD (.s i []) (K.map Sum.inr) (K.map fun y => T.str (f y)) (.str x) L = some (.str (f x), L) := by
  show ((dget (Sum.inr x : Key) (K.map Sum.inr) (K.map fun y => T.str (f y))).bind fun x => if isOwn x then none else some (x, L)) = _
  rw [dget_map, if_pos h]; rfl
theorem wd_frz {K : List Str} {f : Str → Str} : frzs (K.map fun y => T.str (f y)) = K.map fun y => T.str (f y) := by
  rw [frzs_map, List.map_map]
  exact List.map_congr_left fun y _ => rfl
theorem wood_ok [D.H_wood tb] (o : Bool) (x0 : List T) (net : List Tie) (hx0 : frzs x0 = net.map tieF) (hl : net.length ≤ 12) (hN : ∀ n ∈ net, IsNm n.2.1 ∧ IsNm n.2.2) : run tb N (d + 1) "wood" [.lst o x0] = .ok (.lst true ((woodL net).map T.str)) [] := by
  refine wf_eq (wf_in (us := [.lst false (net.map tieF)]) rfl rfl (by ktf_call [D.b_wood, D.b_wood_1, D.b_wood_2, D.c_wood_1, D.c_wood_1i, wd_get, wd_put, wd_idx, wd_frz, kd_keys, keysOf_nil, TV.isDic, frzs_tieF, hx0]) ?_)
  ktf_call [D.b_wood, D.b_wood_1, D.b_wood_2, D.c_wood_1, D.c_wood_1i, wd_get, wd_put, wd_idx, wd_frz, kd_keys, keysOf_nil, TV.isDic, frzs_tieF]
  refine wx_for tieF net (fun pre L => ∃ (K : List Str) (x3 x4 x5 x6 x7 x8 : Option T), K.Nodup ∧ K.length ≤ 2 * pre.length ∧ (∀ x ∈ K, IsNm x ∧ repR pre x ∈ K) ∧ (∀ x, x ∉ K → repR pre x = x) ∧ L = [some (.lst false (net.map tieF)), some (.dic true (K.map Sum.inr) (K.map fun y => T.str (repR pre y))), some (.lst true ((woodL pre).map T.str)), x3, x4, x5, x6, x7, x8]) ?_ ?_ ?_
  · exact ⟨[], _, _, _, _, _, _, .nil, Nat.le_refl _, by simp, fun _ _ => rfl, rfl⟩
  · rintro pre ⟨n, a, b⟩ post L e ⟨K, x3, x4, x5, x6, x7, x8, nd, kl, hK, hnK, rfl⟩
    refine ⟨_, entT_three 3 4 5 false _ _ _, ?_⟩
    have hpl : pre.length < 12 := by
      have := congrArg List.length e
      simp at this; omega
    have ha := hnK a
    have hb := hnK b
    have hin := hN (n, a, b) (by rw [e]; simp)
    have wl : (woodL pre).length ≤ 12 := Nat.le_trans (woodR_len _ _) (by omega)
    ktf_call [D.b_wood, D.b_wood_1, D.b_wood_2, D.c_wood_1, D.c_wood_1i, wd_get, wd_put, wd_idx, wd_frz, kd_keys, keysOf_nil, TV.isDic, frzs_tieF]
    (first | refine wx_cS (fun hne => ?_) (fun hne => ?_) | refine wx_beS (fun hne => ?_) (fun hne => ?_) | refine wx_cB (fun hne => ?_) (fun hne => ?_)) <;> (try simp only [decide_eq_true_eq, decide_eq_false_iff_not, Bool.not_eq_true', Bool.not_eq_false', Int.not_le, Int.not_lt, Bool.and_eq_true, Bool.or_eq_true, Bool.and_eq_false_iff, Bool.or_eq_false_iff, beq_iff_eq, beq_eq_false_iff_ne, ne_eq] at hne)
    · have er : ¬ repR pre a = repR pre b := by simpa using hne
      have ko2 := kd_ok (K := K) fun x h => ((hK x h).1).ok
      have kl2 : K.length ≤ 24 := by omega
      ktf_call [D.b_wood, D.b_wood_1, D.b_wood_2, D.c_wood_1, D.c_wood_1i, wd_get, wd_put, wd_idx, wd_frz, kd_keys, keysOf_nil, TV.isDic, frzs_tieF]
      refine wx_compA T.str (fun y => decide (repR pre y = repR pre b)) T.str rfl ?_ ?_ ?_
      · intro x hx
        ktf_call [D.b_wood, D.b_wood_1, D.b_wood_2, D.c_wood_1, D.c_wood_1i, wd_get, wd_put, wd_idx, wd_frz, kd_keys, keysOf_nil, TV.isDic, frzs_tieF]
      · intro x hx _
        ktf_call [D.b_wood, D.b_wood_1, D.b_wood_2, D.c_wood_1, D.c_wood_1i, wd_get, wd_put, wd_idx, wd_frz, kd_keys, keysOf_nil, TV.isDic, frzs_tieF]
      · intro y
        generalize hp : (K.filter fun y => decide (repR pre y = repR pre b)) = pts
        have hpm : ∀ y, y ∈ pts ↔ y ∈ K ∧ repR pre y = repR pre b := fun y => by rw [← hp, List.mem_filter, decide_eq_true_eq]
        have pl : pts.length ≤ 24 := by rw [← hp]; exact Nat.le_trans (List.length_filter_le _ _) kl2
        ktf_call [D.b_wood, D.b_wood_1, D.b_wood_2, D.c_wood_1, D.c_wood_1i, wd_get, wd_put, wd_idx, wd_frz, kd_keys, keysOf_nil, TV.isDic, frzs_tieF]
        refine wx_for T.str pts (fun pr L => ∃ y8, L = [some (.lst false (net.map tieF)), some (.dic true (K.map Sum.inr) (K.map fun y => T.str (if y ∈ pr then repR pre a else repR pre y))), some (.lst true ((woodL pre).map T.str ++ [.str n])), some (.str n), some (.str a), some (.str b), some (.str (repR pre a)), some (.str (repR pre b)), y8]) ?_ ?_ ?_
        · exact ⟨x8, by simp⟩
        · rintro pr x po L e ⟨y8, rfl⟩
          refine ⟨_, rfl, ?_⟩
          have hxK : x ∈ K := ((hpm x).mp (by rw [e]; simp)).1
          have kx : kAdd K x = K := if_pos hxK
          have kl3 : K.length ≤ 1000 := by omega
          ktf_call [D.b_wood, D.b_wood_1, D.b_wood_2, D.c_wood_1, D.c_wood_1i, wd_get, wd_put, wd_idx, wd_frz, kd_keys, keysOf_nil, TV.isDic, frzs_tieF, kx]
          refine ⟨some (.str x), ?_⟩
          have e3 : (K.map fun y => T.str (if y = x then repR pre a else if y ∈ pr then repR pre a else repR pre y)) = K.map fun y => T.str (if y ∈ pr ++ [x] then repR pre a else repR pre y) := List.map_congr_left fun y _ => by
            by_cases h1 : y = x
            · simp [h1]
            · simp [h1]
          rw [e3]
        · rintro L ⟨y8, rfl⟩
          have kl3 : K.length ≤ 1000 := by omega
          have kl4 : (kAdd K a).length ≤ 1000 := by have := kAdd_len (K := K) (x := a); omega
          have nd2 := kAdd_nodup (x := a) nd
          ktf_call [D.b_wood, D.b_wood_1, D.b_wood_2, D.c_wood_1, D.c_wood_1i, wd_get, wd_put, wd_idx, wd_frz, kd_keys, keysOf_nil, TV.isDic, frzs_tieF]
          have e1 : repR (pre ++ [(n, a, b)]) = stepR (repR pre) a b := repR_snoc _ _
          rw [e1]
          have mK : ∀ x, x ∈ kAdd (kAdd K a) b ↔ (x ∈ K ∨ x = a) ∨ x = b := fun x => by rw [kAdd_mem, kAdd_mem]
          have inK : ∀ x, x ∈ kAdd (kAdd K a) b → repR pre x ∈ kAdd (kAdd K a) b := fun x hx => by
            by_cases h : x ∈ K
            · exact (mK _).mpr (.inl (.inl (hK x h).2))
            · rw [hnK x h]; exact hx
          refine ⟨kAdd (kAdd K a) b, some (.str n), some (.str a), some (.str b), some (.str (repR pre a)), some (.str (repR pre b)), y8, kAdd_nodup nd2, ?_, fun x hx => ⟨?_, ?_⟩, fun x hx => ?_, ?_⟩
          · have h1 := kAdd_len (K := K) (x := a)
            have h2 := kAdd_len (K := kAdd K a) (x := b)
            omega
          · rcases (mK x).mp hx with (h | h) | h
            · exact (hK x h).1
            · rw [h]; exact hin.1
            · rw [h]; exact hin.2
          · unfold stepR
            by_cases h : repR pre x = repR pre b
            · rw [if_pos h]; exact inK a ((mK a).mpr (.inl (.inr rfl)))
            · rw [if_neg h]; exact inK x hx
          · have hxK : x ∉ K := fun z => hx ((mK x).mpr (.inl (.inl z)))
            unfold stepR
            rw [hnK x hxK]
            by_cases h : x = repR pre b
            · exact absurd (h ▸ inK b ((mK b).mpr (.inr rfl))) hx
            · rw [if_neg h]
          · rw [woodL_snoc, if_neg er, List.map_append]
            have e5 : ((kAdd (kAdd K a) b).map fun y => T.str (if y = b then repR pre a else if y = a then repR pre a else if y ∈ pts then repR pre a else repR pre y)) = (kAdd (kAdd K a) b).map fun y => T.str (stepR (repR pre) a b y) := List.map_congr_left fun y hy => by
              unfold stepR
              by_cases h1 : y = b
              · subst h1; simp
              · by_cases h2 : y = a
                · subst h2; simp [h1]
                · by_cases h3 : repR pre y = repR pre b
                  · have : y ∈ K := by
                      rcases (mK y).mp hy with (h | h) | h
                      · exact h
                      · exact absurd h h2
                      · exact absurd h h1
                    simp [h1, h2, h3, (hpm y).mpr ⟨this, h3⟩]
                  · have : y ∉ pts := fun z => h3 ((hpm y).mp z).2
                    simp [h1, h2, h3, this]
            rw [e5]
            rfl
    · ktf_call [D.b_wood, D.b_wood_1, D.b_wood_2, D.c_wood_1, D.c_wood_1i, wd_get, wd_put, wd_idx, wd_frz, kd_keys, keysOf_nil, TV.isDic, frzs_tieF]
      have er : repR pre a = repR pre b := by simpa using hne
      have e1 : repR (pre ++ [(n, a, b)]) = repR pre := by rw [repR_snoc, stepR_same er]
      rw [e1]
      refine ⟨K, some (.str n), some (.str a), some (.str b), some (.str (repR pre a)), some (.str (repR pre b)), x8, nd, by omega, hK, hnK, ?_⟩
      rw [woodL_snoc, if_pos er, List.append_nil]
  · rintro L ⟨K, x3, x4, x5, x6, x7, x8, nd, kl, hK, hnK, rfl⟩
    ktf_call [D.b_wood, D.b_wood_1, D.b_wood_2, D.c_wood_1, D.c_wood_1i, wd_get, wd_put, wd_idx, wd_frz, kd_keys, keysOf_nil, TV.isDic, frzs_tieF]
end
end TV

set_option Elab.async false
set_option linter.all false
set_option maxRecDepth 100000
set_option maxHeartbeats 4000000
set_option exponentiation.threshold 4000
set_option pp.maxSteps 1500
namespace TV
open PySem PySem.Spec PyProof.Rows L2
local macro_rules | `(tactic| ktf_call [$as,*]) => `(tactic| simp (maxSteps := 1000000) (disch := first | omega | assumption | (with_reducible ((repeat (first | assumption | exact deps_str _ _ | exact deps_int _ _ | exact deps_bl _ _ | exact deps_rows _ _ _ (by decide) | exact deps_nil _ | exact dep_s _ _ | exact dep_i _ _ | exact dep_b _ _ | exact dep_n _ | (refine deps_map ?_; intro _ _) | apply deps_cons | apply deps_app | refine dep_lst2 ?_ (by decide) | refine dep_tup2 ?_ (by decide) | exact Nat.zero_le _)); done)) | (simp only [List.length_append, List.length_cons, List.length_nil, List.length_take, List.length_drop, List.length_replicate, List.length_map, List.length_range, List.length_singleton, mkS_len]; omega) | (decide; done)) only [wx_ok, wx_stuck, wx_bind, wx_noErr, wf_ok, cS_t, cS_f, eS_t, eS_f, exec_iffS, ev_iteS, onBe_bl, cB_t, cB_f, cB_and, cB_or, cB_not, cB_b, sg_has, goA_some, callRun_eq, callBack_ok, onO_some, onO_none, noErr_ok, onB_bl, onF_nx, onF_rt, onF_bk, onF_ct, loopF_nx, loopF_ct, loopF_bk, loopF_rt, slot_0, slot_s, obind_some, obind_none, omap_some, omap_none, rd_v, rd_s, rd_p, pathT_nil, pathT_lst, pathT_tup, rds_nil, rds_cons, ev_var, ev_cst, ev_pth, ev_op, nlkO_eq, ev_lst, ev_tup, ev_dic, ev_dit0, ev_call, ev_and, ev_or, ev_not, ev_chain, ev_comp, ev_pop, evs_nil, evs_cons, evq_nil, evq_var, evq_pth, evo_var, evo_pthT, evo_pthF, evt_nil, evt_one, evi_seq, evi_rng, evi_enm, evi_zip, evi_rev, mvr_var, mvr_tup, mvr_lst, mvs_nil, mvs_cons, mv_var, evb_eq, exec_set, exec_setm, exec_par, exec_aug, augRun_int, exec_sub, exec_mut, onL_l, exec_exp, exec_ret, exec_retn, exec_whl, exec_for, endF_nx, endF_rt, backS_n, backS_s, backSS_n, backSS_k, exec_brk, exec_cnt, exec_pass, exec_rais, execs_nil, execs_cons, formOpen_t, opRun_eq, opK_bin_int, opK_bin_str, opK_bin_si, opK_cat, opK_cmp, opK_neg, opK_inv, opK_len, opK_abs, opK_int, opK_str, opK_isi, opK_max, opK_min, opK_sum, opK_all, opK_any, opK_idx_str, opK_idx_scr, opK_idx_lst, opK_idx_tup, opK_idx_dic, opK_idx_lkd, opK_get, opK_slc_s01, opK_slc_s10, opK_slc_s11, opK_slc_l01, opK_slc_l10, opK_slc_l11, opK_list, opK_tupl, opK_sortd, kidL_v, kidL_s, kidLs_t, kidLs_f, frz_lst, frz_tup, frz_dic, frz_int, frz_str, frz_bl, frz_non, frz_scr, frzs_nil, frzs_cons, frzs_int, frzs_str, frzs_bl, shrs_int, shrs_str, clns_int, clns_str, frzs_rows, shrs_rows, clns_rows, frzs_app, shrs_app, clns_app, itSeq_L, itSeq_T, itSeq_S, itSeq_K, itTpl_v, itTpl_s, itTpl_f, itTpl_tF, itTpl_tT, itStr_v, itStr_ss, itKey_s, itKey_t, itFrz_v, itFrz_s, itFrz_f, itFrz_tF, itFrz_tT, finF_rt, finF_nx, finS_eq, outS_nil, outS, argS, varRun, pthRun, dspRun, mvV, shr, cln, shrs, clns, catRun, mutsOf, noDup, lent, frzO, setOuts, wipeL, backL, tgs, backOk, mT, aS, aSs, simpEs, simp1, setO, sub_one, mutT, LINE_eq, sop, bAdd, bSub, bMul_h, bMul, bDiv_h, bDiv, bMod, bPow, bShl, bShr, bAnd, bOr, bXor, cEq_i, cEq_s, cEq_b, cNe_i, cNe_s, cEq_go, cNe_go, cLt_i, cLe_i, cGt_i, cGe_i, cLt_s, cLe_s, cGt_s, cGe_s, cIs_n, cIsN_n, cIn_L, cNin_L, eqT_int, eqT_str, eqT_bl, eqT_lst, eqT_tup, eqTs_nil, eqTs_cons, eqTs_n1, eqTs_n2, eqTs_str, eqTs_int, eqTs_rows, eqTs_nilR, any_str, idxL_one, idxL_strn, idxL_intn, idxL_row, atI_nn, signAt_nn, rng_n, rng_ab, lenS_l, lenS_t, lenS_scr, lenS_d, lenS_s, isiS, tyOf, isNon, List.map_cons, List.map_nil, List.cons_append, List.nil_append, List.replicate_succ, List.replicate_zero, List.set_cons_zero, List.set_cons_succ, List.length_cons, List.length_nil, List.getElem?_cons_zero, List.getElem?_cons_succ, List.length_map, List.length_append, List.all_cons, List.all_nil, List.contains_nil, List.contains_cons, Option.some.injEq, Nat.reduceAdd, Nat.reduceSub, Nat.reduceLeDiff, Nat.reduceBEq, Nat.reduceEqDiff, Int.reduceNeg, Int.reduceToNat, Int.reduceAdd, Int.reduceSub, Int.reduceMul, Int.reducePow, Int.reduceLT, Int.reduceLE, Int.reduceEq, Int.reduceNe, String.reduceEq, if_true, if_false, reduceIte, reduceCtorEq, ne_eq, not_false_eq_true, implies_true, BEq.rfl, beq_self_eq_true, Bool.false_eq_true, Bool.true_eq_false, Bool.or_false, Bool.false_or, Bool.or_true, Bool.true_or, Bool.and_true, Bool.true_and, Bool.and_false, Bool.false_and, Bool.not_true, Bool.not_false, Bool.not_not, and_true, true_and, and_false, false_and, or_true, true_or, or_false, false_or, decide_true, decide_false, id_eq, evq_cst, evo_cst, mv_cst, mvr_cst, evq_op, evo_op, mv_op, mvr_op, evq_lst, evo_lst, mv_lst, evq_tup, evo_tup, mv_tup, evq_dic, evo_dic, mv_dic, mvr_dic, evq_dit0, evo_dit0, mv_dit0, mvr_dit0, evq_call, evo_call, mv_call, mvr_call, evq_and, evo_and, mv_and, mvr_and, evq_or, evo_or, mv_or, mvr_or, evq_not, evo_not, mv_not, mvr_not, evq_ite, evo_ite, mv_ite, mvr_ite, evq_chain, evo_chain, mv_chain, mvr_chain, evq_comp, evo_comp, mv_comp, mvr_comp, evq_srtk, evo_srtk, mv_srtk, mvr_srtk, evq_pop, evo_pop, mv_pop, mvr_pop, mv_pth, mvr_pth, sortL_str, sortL_s, sortT_str, mkS_one, mkS_len, mkS_app, slcS_hi, slcS_lo, bSMul_mk, bSAdd_mk, signAt_mk, lenS_mk, and_1, big_no, List.length_range, Out.bind_ok, filter_tt, Int.toNat_natCast, ite_le, ite_lt, app_str, opK_catT, opK_listT, opK_srtset, kidT_v, kidT_s, kidTs_t, kidTs_f, catTRun, sortSetL, frz_dit, isLkd_non, isLkd_bl, isLkd_int, isLkd_str, isLkd_lst, isLkd_tup, isLkd_dic, isLkd_dit, isLkd_lkd, isLkd_scr, isOwn_non, isOwn_bl, isOwn_int, isOwn_str, isOwn_lst, isOwn_tup, isOwn_dic, isOwn_dit, isOwn_lkd, isOwn_scr, ite_self, strsOf_map, true_imp_iff, false_imp_iff, slcL, cutT_hi, cutT_lo, take_map, drop_map, Int.cast_ofNat_Int, ev_lend, lendRun, lendA, lendBack, List.any_nil, List.any_cons, entT_two, entT_three, opK_lrng1, opK_lrng2, $[$as:term],*])
section
variable {tb : Tbl} {N d : Nat}
def ends2 (net : List Tie) : List Str := net.map (·.2.1) ++ net.map (·.2.2)
theorem tie_1 (p : Opd) (n : Tie) (L : Slots) : idxT p [T.str n.1, T.str n.2.1, T.str n.2.2] 1 L = some (.str n.2.1, L) := by cases p <;> rfl
theorem tie_2 (p : Opd) (n : Tie) (L : Slots) : idxT p [T.str n.1, T.str n.2.1, T.str n.2.2] 2 L = some (.str n.2.2, L) := by cases p <;> rfl
theorem tie_0 (p : Opd) (n : Tie) (L : Slots) : idxT p [T.str n.1, T.str n.2.1, T.str n.2.2] 0 L = some (.str n.1, L) := by cases p <;> rfl
theorem map_strT {γ : Type} (f : γ → Str) (xs : List γ) : (xs.map fun k => T.str (f k)) = (xs.map f).map T.str := by rw [List.map_map]; rfl
theorem points_ok [D.H_points tb] (o : Bool) (x0 : List T) (net : List Tie) (hx0 : frzs x0 = net.map tieF) (hl : net.length ≤ 12) : run tb N (d + 1) "points" [.lst o x0] = .ok (.lst true ((strSet (ends2 net)).map T.str)) [] := by
  refine wf_eq (wf_in (us := [.lst false (net.map tieF)]) rfl rfl (by ktf_call [D.b_points, D.c_points_1, D.c_points_1i, D.c_points_2, D.c_points_2i, frzs_tieF, tie_0, tie_1, tie_2, map_strT, strsOf_map, TV.strSet, isDic_l, hx0]) ?_)
  ktf_call [D.b_points, D.c_points_1, D.c_points_1i, D.c_points_2, D.c_points_2i, frzs_tieF, tie_0, tie_1, tie_2, map_strT, strsOf_map, TV.strSet, isDic_l]
  refine wx_compT tieF (fun n => T.str n.2.1) rfl (fun _ => ⟨_, _, rfl⟩) ?_ ?_
  · intro n hn
    ktf_call [D.b_points, D.c_points_1, D.c_points_1i, D.c_points_2, D.c_points_2i, frzs_tieF, tie_0, tie_1, tie_2, map_strT, strsOf_map, TV.strSet, isDic_l]
  · intro y
    ktf_call [D.b_points, D.c_points_1, D.c_points_1i, D.c_points_2, D.c_points_2i, frzs_tieF, tie_0, tie_1, tie_2, map_strT, strsOf_map, TV.strSet, isDic_l]
    refine wx_compT tieF (fun n => T.str n.2.2) rfl (fun _ => ⟨_, _, rfl⟩) ?_ ?_
    · intro n hn
      ktf_call [D.b_points, D.c_points_1, D.c_points_1i, D.c_points_2, D.c_points_2i, frzs_tieF, tie_0, tie_1, tie_2, map_strT, strsOf_map, TV.strSet, isDic_l]
    · intro y
      ktf_call [D.b_points, D.c_points_1, D.c_points_1i, D.c_points_2, D.c_points_2i, frzs_tieF, tie_0, tie_1, tie_2, map_strT, strsOf_map, TV.strSet, isDic_l]
      rfl
end
end TV

set_option Elab.async false
set_option linter.all false
set_option maxRecDepth 100000
set_option maxHeartbeats 4000000
set_option exponentiation.threshold 4000
set_option pp.maxSteps 1500
namespace TV
open PySem PySem.Spec PyProof.Rows L2
/-! P15: heaps of points, counted (plain) -/
/-- untouched points stand alone; what touched ones are told by is touched -/
def Fix (r : Str → Str) (P : List Str) : Prop := (∀ x, x ∉ P → r x = x) ∧ ∀ x ∈ P, r x ∈ P
theorem Fix.step {r : Str → Str} {P Q : List Str} {a b : Str} (h : Fix r P) (hQ : ∀ x, x ∈ Q ↔ (x ∈ P ∨ x = a) ∨ x = b) : Fix (stepR r a b) Q := by
  have inQ : ∀ x, x ∈ Q → r x ∈ Q := fun x hx => by
    by_cases hp : x ∈ P
    · exact (hQ _).mpr (.inl (.inl (h.2 x hp)))
    · rw [h.1 x hp]; exact hx
  refine ⟨fun x hx => ?_, fun x hx => ?_⟩
  · have hxP : x ∉ P := fun z => hx ((hQ x).mpr (.inl (.inl z)))
    unfold stepR
    rw [h.1 x hxP]
    by_cases e : x = r b
    · exact absurd (e ▸ inQ b ((hQ b).mpr (.inr rfl))) hx
    · rw [if_neg e]
  · unfold stepR
    by_cases e : r x = r b
    · rw [if_pos e]; exact inQ a ((hQ a).mpr (.inl (.inr rfl)))
    · rw [if_neg e]; exact inQ x hx
/-- heaps: all points of one hang together, those of two don't -/
structure Hps (hs : List (List Str)) (r : Str → Str) (P : List Str) : Prop where
  all : ∀ x, (∃ h ∈ hs, x ∈ h) ↔ x ∈ P
  one : ∀ h ∈ hs, ∀ x ∈ h, ∀ y ∈ h, r x = r y
  dis : hs.Pairwise fun g h => ∀ x ∈ g, ∀ y ∈ h, r x ≠ r y
theorem Hps.cnt {r : Str → Str} {a : Str} : ∀ {hs : List (List Str)}, (hs.Pairwise fun g h => ∀ x ∈ g, ∀ y ∈ h, r x ≠ r y) → (hs.filter fun h => decide (a ∈ h)).length = if ∃ h ∈ hs, a ∈ h then 1 else 0
  | [], _ => by simp
  | h :: hs, p => by
    obtain ⟨p1, p2⟩ := List.pairwise_cons.mp p
    have ih := Hps.cnt (a := a) p2
    by_cases ha : a ∈ h
    · have no : ¬ ∃ g ∈ hs, a ∈ g := fun ⟨g, hg, hag⟩ => p1 g hg a ha a hag rfl
      rw [if_neg no] at ih
      rw [List.filter_cons_of_pos (by simpa using ha), List.length_cons, ih, if_pos ⟨h, List.mem_cons_self, ha⟩]
    · rw [List.filter_cons_of_neg (by simpa using ha), ih]
      by_cases z : ∃ g ∈ hs, a ∈ g
      · rw [if_pos z, if_pos (by obtain ⟨g, hg, hag⟩ := z; exact ⟨g, List.mem_cons_of_mem _ hg, hag⟩)]
      · rw [if_neg z, if_neg]
        rintro ⟨g, hg, hag⟩
        rcases List.mem_cons.mp hg with e | hg
        · rw [e] at hag; exact ha hag
        · exact z ⟨g, hg, hag⟩
theorem filter_or {α : Type} (p q : α → Bool) : ∀ xs : List α, (∀ x ∈ xs, ¬ (p x = true ∧ q x = true)) → (xs.filter fun x => p x || q x).length = (xs.filter p).length + (xs.filter q).length
  | [], _ => rfl
  | x :: xs, h => by
    have ih := filter_or p q xs fun y hy => h y (List.mem_cons_of_mem _ hy)
    have hx := h x List.mem_cons_self
    cases e1 : p x <;> cases e2 : q x
    · simp [List.filter_cons, e1, e2, ih]
    · simp [List.filter_cons, e1, e2, ih]; omega
    · simp [List.filter_cons, e1, e2, ih]; omega
    · exact absurd ⟨e1, e2⟩ hx
/-- the heaps behind a tie -/
def heapS (a b : Str) (hs : List (List Str)) (new : List Str) : List (List Str) := (hs.filter fun h => !touch a b h) ++ [new]
theorem Hps.step {hs : List (List Str)} {r : Str → Str} {P Q : List Str} {a b : Str} {new : List Str} (h : Hps hs r P) (fx : Fix r P) (hQ : ∀ x, x ∈ Q ↔ (x ∈ P ∨ x = a) ∨ x = b)
    (hnew : ∀ x, x ∈ new ↔ (x = a ∨ x = b) ∨ ∃ g ∈ hs, touch a b g = true ∧ x ∈ g) : Hps (heapS a b hs new) (stepR r a b) Q := by
  have nr : ∀ x, x ∈ new → r x = r a ∨ r x = r b := fun x hx => by
    rcases (hnew x).mp hx with (e | e) | ⟨g, hg, ht, hxg⟩
    · exact .inl (by rw [e])
    · exact .inr (by rw [e])
    · unfold touch at ht
      rw [Bool.or_eq_true, decide_eq_true_eq, decide_eq_true_eq] at ht
      exact ht.imp (fun z => h.one g hg x hxg a z) fun z => h.one g hg x hxg b z
  have old : ∀ g ∈ hs.filter (fun h => !touch a b h), g ∈ hs ∧ a ∉ g ∧ b ∉ g := fun g hg => by
    obtain ⟨h1, h2⟩ := List.mem_filter.mp hg
    unfold touch at h2
    simp at h2
    exact ⟨h1, h2.1, h2.2⟩
  -- a point of an untouched heap hangs with neither end
  have far : ∀ g ∈ hs, a ∉ g → b ∉ g → ∀ x ∈ g, r x ≠ r a ∧ r x ≠ r b := fun g hg ha hb x hx => by
    have key : ∀ c, c ∉ g → r x ≠ r c := fun c hc e => by
      by_cases hcP : c ∈ P
      · obtain ⟨k, hk, hck⟩ := (h.all c).mpr hcP
        have : g ≠ k := fun z => hc (z ▸ hck)
        obtain ⟨i, hi, ei⟩ := List.mem_iff_getElem.mp hg
        obtain ⟨j, hj, ej⟩ := List.mem_iff_getElem.mp hk
        have pw := List.pairwise_iff_getElem.mp h.dis
        rcases Nat.lt_trichotomy i j with l | l | l
        · exact pw i j hi hj l x (ei ▸ hx) c (ej ▸ hck) e
        · subst l; exact this (ei.symm.trans ej)
        · exact pw j i hj hi l c (ej ▸ hck) x (ei ▸ hx) e.symm
      · have hxP : x ∈ P := (h.all x).mp ⟨g, hg, hx⟩
        rw [fx.1 c hcP] at e
        exact hcP (e ▸ fx.2 x hxP)
    exact ⟨key a ha, key b hb⟩
  refine ⟨fun x => ?_, fun g hg x hx y hy => ?_, ?_⟩
  · rw [hQ, ← h.all]
    unfold heapS
    constructor
    · rintro ⟨g, hg, hx⟩
      rcases List.mem_append.mp hg with hg | hg
      · exact .inl (.inl ⟨g, (old g hg).1, hx⟩)
      · rw [List.mem_singleton.mp hg] at hx
        rcases (hnew x).mp hx with (e | e) | ⟨g, hg, _, hxg⟩
        · exact .inl (.inr e)
        · exact .inr e
        · exact .inl (.inl ⟨g, hg, hxg⟩)
    · have nw : x ∈ new → ∃ h ∈ (hs.filter fun h => !touch a b h) ++ [new], x ∈ h := fun z => ⟨new, List.mem_append_right _ (List.mem_singleton.mpr rfl), z⟩
      rintro ((⟨g, hg, hx⟩ | e) | e)
      · by_cases ht : touch a b g = true
        · exact nw ((hnew x).mpr (.inr ⟨g, hg, ht, hx⟩))
        · exact ⟨g, List.mem_append_left _ (List.mem_filter.mpr ⟨hg, by simpa using ht⟩), hx⟩
      · exact nw ((hnew x).mpr (.inl (.inl e)))
      · exact nw ((hnew x).mpr (.inl (.inr e)))
  · rw [stepR_iff]
    rcases List.mem_append.mp hg with hg | hg
    · exact .inl (h.one g (old g hg).1 x hx y hy)
    · rw [List.mem_singleton.mp hg] at hx hy
      exact .inr ⟨nr x hx, nr y hy⟩
  · unfold heapS
    rw [List.pairwise_append]
    refine ⟨?_, List.pairwise_singleton _ _, fun g hg k hk x hx y hy e => ?_⟩
    · refine List.Pairwise.imp_of_mem (fun {g k} hg hk hd x hx y hy e => ?_) (List.Pairwise.filter (fun h => !touch a b h) h.dis)
      obtain ⟨g1, g2, g3⟩ := old g hg
      rcases stepR_iff.mp e with e | e
      · exact hd x hx y hy e
      · have := far g g1 g2 g3 x hx
        exact e.1.elim this.1 this.2
    · obtain ⟨g1, g2, g3⟩ := old g hg
      have hf := far g g1 g2 g3 x hx
      rw [List.mem_singleton.mp hk] at hy
      rcases stepR_iff.mp e with e | e
      · exact (nr y hy).elim (fun z => hf.1 (e.trans z)) fun z => hf.2 (e.trans z)
      · exact e.1.elim hf.1 hf.2
end TV

set_option Elab.async false
set_option linter.all false
set_option maxRecDepth 100000
set_option maxHeartbeats 4000000
set_option exponentiation.threshold 4000
set_option pp.maxSteps 1500
namespace TV
open PySem PySem.Spec PyProof.Rows L2
/-! P16: points less heaps (plain) -/
theorem Hps.same {hs : List (List Str)} {r : Str → Str} {P g : List Str} {x y : Str} (h : Hps hs r P) (hg : g ∈ hs) (hx : x ∈ g) (hy : y ∈ P) (e : r x = r y) : y ∈ g := by
  obtain ⟨k, hk, hyk⟩ := (h.all y).mpr hy
  by_cases this : g = k
  · rw [this]; exact hyk
  · exfalso
    obtain ⟨i, hi, ei⟩ := List.mem_iff_getElem.mp hg
    obtain ⟨j, hj, ej⟩ := List.mem_iff_getElem.mp hk
    have pw := List.pairwise_iff_getElem.mp h.dis
    rcases Nat.lt_trichotomy i j with l | l | l
    · exact pw i j hi hj l x (ei ▸ hx) y (ej ▸ hyk) e
    · subst l; exact this (ei.symm.trans ej)
    · exact pw j i hj hi l y (ej ▸ hyk) x (ei ▸ hx) e.symm
theorem part_len2 {α : Type} (p : α → Bool) : ∀ hs : List α, (hs.filter fun h => !p h).length + (hs.filter p).length = hs.length
  | [] => rfl
  | h :: hs => by
    have ih := part_len2 p hs
    by_cases e : p h = true
    · rw [List.filter_cons_of_neg (by simpa using e), List.filter_cons_of_pos e, List.length_cons, List.length_cons]; omega
    · rw [List.filter_cons_of_pos (by simpa using e), List.filter_cons_of_neg e, List.length_cons, List.length_cons]; omega
theorem Hps.touched {hs : List (List Str)} {r : Str → Str} {P : List Str} (h : Hps hs r P) (a : Str) : (hs.filter fun h => decide (a ∈ h)).length = if a ∈ P then 1 else 0 := by
  rw [Hps.cnt h.dis]
  by_cases ha : a ∈ P
  · rw [if_pos ha, if_pos ((h.all a).mpr ha)]
  · rw [if_neg ha, if_neg fun z => ha ((h.all a).mp z)]
theorem Hps.count {hs : List (List Str)} {r : Str → Str} {P Q : List Str} {a b : Str} {new : List Str} {w : Nat} (h : Hps hs r P) (fx : Fix r P) (hQ : ∀ x, x ∈ Q ↔ (x ∈ P ∨ x = a) ∨ x = b)
    (hw : (uniqS P).length = hs.length + w) : (uniqS Q).length = (heapS a b hs new).length + (w + if r a = r b then 0 else 1) := by
  have nP : (uniqS P).Nodup := uniqS_nodup
  have mP : ∀ x, x ∈ uniqS P ↔ x ∈ P := fun x => uniqS_mem
  have n2 := kAdd_nodup (x := b) (kAdd_nodup (x := a) nP)
  have lq : (uniqS Q).length = (kAdd (kAdd (uniqS P) a) b).length := by
    have m : ∀ x, x ∈ uniqS Q ↔ x ∈ kAdd (kAdd (uniqS P) a) b := fun x => by rw [uniqS_mem, hQ, kAdd_mem, kAdd_mem, mP]
    exact Nat.le_antisymm (nodup_len uniqS_nodup fun x hx => (m x).mp hx) (nodup_len n2 fun x hx => (m x).mpr hx)
  have l1 : (heapS a b hs new).length = (hs.filter fun g => !touch a b g).length + 1 := by unfold heapS; rw [List.length_append]; rfl
  have pt := part_len2 (touch a b) hs
  have ca := h.touched a
  have cb := h.touched b
  have kl : ∀ (K : List Str) (x : Str), (kAdd K x).length = K.length + if x ∈ K then 0 else 1 := fun K x => by
    unfold kAdd
    by_cases hx : x ∈ K
    · rw [if_pos hx, if_pos hx]; rfl
    · rw [if_neg hx, if_neg hx, List.length_append]; rfl
  rw [lq, l1, kl, kl]
  have m1 : (if a ∈ uniqS P then 0 else 1) = if a ∈ P then 0 else 1 := by
    by_cases ha : a ∈ P
    · rw [if_pos ha, if_pos ((mP a).mpr ha)]
    · rw [if_neg ha, if_neg fun z => ha ((mP a).mp z)]
  have m2 : (if b ∈ kAdd (uniqS P) a then 0 else 1) = if b ∈ P ∨ b = a then 0 else 1 := by
    by_cases hb : b ∈ P ∨ b = a
    · rw [if_pos hb, if_pos (by rw [kAdd_mem, mP]; exact hb)]
    · rw [if_neg hb, if_neg (by rw [kAdd_mem, mP]; exact hb)]
  rw [m1, m2, hw]
  by_cases er : r a = r b
  · rw [if_pos er]
    by_cases ha : a ∈ P
    · have hb : b ∈ P := by
        by_cases hb : b ∈ P
        · exact hb
        · rw [fx.1 b hb] at er; exact er ▸ fx.2 a ha
      have ct : (hs.filter (touch a b)).length = 1 := by
        have : hs.filter (touch a b) = hs.filter fun g => decide (a ∈ g) := List.filter_congr fun g hg => by
          unfold touch
          by_cases z : a ∈ g
          · rw [decide_eq_true z]; rfl
          · have z2 : ¬ b ∈ g := fun zb => z (h.same hg zb ha er.symm)
            rw [decide_eq_false z, decide_eq_false z2]; rfl
        rw [this, ca, if_pos ha]
      rw [if_pos ha, if_pos (.inl hb)]
      omega
    · have hb : b ∉ P := fun hb => by
        rw [fx.1 a ha] at er; exact ha (er ▸ fx.2 b hb)
      have eab : b = a := by rw [fx.1 a ha, fx.1 b hb] at er; exact er.symm
      have ct : (hs.filter (touch a b)).length = 0 := by
        have : hs.filter (touch a b) = hs.filter fun g => decide (a ∈ g) := List.filter_congr fun g hg => by
          unfold touch; rw [eab, Bool.or_self]
        rw [this, ca, if_neg ha]
      rw [if_neg ha, if_pos (.inr eab)]
      omega
  · rw [if_neg er]
    have ct : (hs.filter (touch a b)).length = (if a ∈ P then 1 else 0) + if b ∈ P then 1 else 0 := by
      rw [← ca, ← cb]
      exact filter_or (fun g => decide (a ∈ g)) (fun g => decide (b ∈ g)) hs fun g hg ⟨z1, z2⟩ => er (h.one g hg a (of_decide_eq_true z1) b (of_decide_eq_true z2))
    have nab : ¬ b = a := fun e => er (by rw [e])
    by_cases ha : a ∈ P <;> by_cases hb : b ∈ P
    · rw [if_pos ha, if_pos hb] at ct; rw [if_pos ha, if_pos (.inl hb)]; omega
    · rw [if_pos ha, if_neg hb] at ct; rw [if_pos ha, if_neg (not_or.mpr ⟨hb, nab⟩)]; omega
    · rw [if_neg ha, if_pos hb] at ct; rw [if_neg ha, if_pos (.inl hb)]; omega
    · rw [if_neg ha, if_neg hb] at ct; rw [if_neg ha, if_neg (not_or.mpr ⟨hb, nab⟩)]; omega
end TV

set_option Elab.async false
set_option linter.all false
set_option maxRecDepth 100000
set_option maxHeartbeats 4000000
set_option exponentiation.threshold 4000
set_option pp.maxSteps 1500
namespace TV
open PySem PySem.Spec PyProof.Rows L2
local macro_rules | `(tactic| ktf_call [$as,*]) => `(tactic| simp (maxSteps := 1000000) (disch := first | omega | assumption | (with_reducible ((repeat (first | assumption | exact deps_str _ _ | exact deps_int _ _ | exact deps_bl _ _ | exact deps_rows _ _ _ (by decide) | exact deps_nil _ | exact dep_s _ _ | exact dep_i _ _ | exact dep_b _ _ | exact dep_n _ | (refine deps_map ?_; intro _ _) | apply deps_cons | apply deps_app | refine dep_lst2 ?_ (by decide) | refine dep_tup2 ?_ (by decide) | exact Nat.zero_le _)); done)) | (simp only [List.length_append, List.length_cons, List.length_nil, List.length_take, List.length_drop, List.length_replicate, List.length_map, List.length_range, List.length_singleton, mkS_len]; omega) | (decide; done)) only [wx_ok, wx_stuck, wx_bind, wx_noErr, wf_ok, cS_t, cS_f, eS_t, eS_f, exec_iffS, ev_iteS, onBe_bl, cB_t, cB_f, cB_and, cB_or, cB_not, cB_b, sg_has, goA_some, callRun_eq, callBack_ok, onO_some, onO_none, noErr_ok, onB_bl, onF_nx, onF_rt, onF_bk, onF_ct, loopF_nx, loopF_ct, loopF_bk, loopF_rt, slot_0, slot_s, obind_some, obind_none, omap_some, omap_none, rd_v, rd_s, rd_p, pathT_nil, pathT_lst, pathT_tup, rds_nil, rds_cons, ev_var, ev_cst, ev_pth, ev_op, nlkO_eq, ev_lst, ev_tup, ev_dic, ev_dit0, ev_call, ev_and, ev_or, ev_not, ev_chain, ev_comp, ev_pop, evs_nil, evs_cons, evq_nil, evq_var, evq_pth, evo_var, evo_pthT, evo_pthF, evt_nil, evt_one, evi_seq, evi_rng, evi_enm, evi_zip, evi_rev, mvr_var, mvr_tup, mvr_lst, mvs_nil, mvs_cons, mv_var, evb_eq, exec_set, exec_setm, exec_par, exec_aug, augRun_int, exec_sub, exec_mut, onL_l, exec_exp, exec_ret, exec_retn, exec_whl, exec_for, endF_nx, endF_rt, backS_n, backS_s, backSS_n, backSS_k, exec_brk, exec_cnt, exec_pass, exec_rais, execs_nil, execs_cons, formOpen_t, opRun_eq, opK_bin_int, opK_bin_str, opK_bin_si, opK_cat, opK_cmp, opK_neg, opK_inv, opK_len, opK_abs, opK_int, opK_str, opK_isi, opK_max, opK_min, opK_sum, opK_all, opK_any, opK_idx_str, opK_idx_scr, opK_idx_lst, opK_idx_tup, opK_idx_dic, opK_idx_lkd, opK_get, opK_slc_s01, opK_slc_s10, opK_slc_s11, opK_slc_l01, opK_slc_l10, opK_slc_l11, opK_list, opK_tupl, opK_sortd, kidL_v, kidL_s, kidLs_t, kidLs_f, frz_lst, frz_tup, frz_dic, frz_int, frz_str, frz_bl, frz_non, frz_scr, frzs_nil, frzs_cons, frzs_int, frzs_str, frzs_bl, shrs_int, shrs_str, clns_int, clns_str, frzs_rows, shrs_rows, clns_rows, frzs_app, shrs_app, clns_app, itSeq_L, itSeq_T, itSeq_S, itSeq_K, itTpl_v, itTpl_s, itTpl_f, itTpl_tF, itTpl_tT, itStr_v, itStr_ss, itKey_s, itKey_t, itFrz_v, itFrz_s, itFrz_f, itFrz_tF, itFrz_tT, finF_rt, finF_nx, finS_eq, outS_nil, outS, argS, varRun, pthRun, dspRun, mvV, shr, cln, shrs, clns, catRun, mutsOf, noDup, lent, frzO, setOuts, wipeL, backL, tgs, backOk, mT, aS, aSs, simpEs, simp1, setO, sub_one, mutT, LINE_eq, sop, bAdd, bSub, bMul_h, bMul, bDiv_h, bDiv, bMod, bPow, bShl, bShr, bAnd, bOr, bXor, cEq_i, cEq_s, cEq_b, cNe_i, cNe_s, cEq_go, cNe_go, cLt_i, cLe_i, cGt_i, cGe_i, cLt_s, cLe_s, cGt_s, cGe_s, cIs_n, cIsN_n, cIn_L, cNin_L, eqT_int, eqT_str, eqT_bl, eqT_lst, eqT_tup, eqTs_nil, eqTs_cons, eqTs_n1, eqTs_n2, eqTs_str, eqTs_int, eqTs_rows, eqTs_nilR, any_str, idxL_one, idxL_strn, idxL_intn, idxL_row, atI_nn, signAt_nn, rng_n, rng_ab, lenS_l, lenS_t, lenS_scr, lenS_d, lenS_s, isiS, tyOf, isNon, List.map_cons, List.map_nil, List.cons_append, List.nil_append, List.replicate_succ, List.replicate_zero, List.set_cons_zero, List.set_cons_succ, List.length_cons, List.length_nil, List.getElem?_cons_zero, List.getElem?_cons_succ, List.length_map, List.length_append, List.all_cons, List.all_nil, List.contains_nil, List.contains_cons, Option.some.injEq, Nat.reduceAdd, Nat.reduceSub, Nat.reduceLeDiff, Nat.reduceBEq, Nat.reduceEqDiff, Int.reduceNeg, Int.reduceToNat, Int.reduceAdd, Int.reduceSub, Int.reduceMul, Int.reducePow, Int.reduceLT, Int.reduceLE, Int.reduceEq, Int.reduceNe, String.reduceEq, if_true, if_false, reduceIte, reduceCtorEq, ne_eq, not_false_eq_true, implies_true, BEq.rfl, beq_self_eq_true, Bool.false_eq_true, Bool.true_eq_false, Bool.or_false, Bool.false_or, Bool.or_true, Bool.true_or, Bool.and_true, Bool.true_and, Bool.and_false, Bool.false_and, Bool.not_true, Bool.not_false, Bool.not_not, and_true, true_and, and_false, false_and, or_true, true_or, or_false, false_or, decide_true, decide_false, id_eq, evq_cst, evo_cst, mv_cst, mvr_cst, evq_op, evo_op, mv_op, mvr_op, evq_lst, evo_lst, mv_lst, evq_tup, evo_tup, mv_tup, evq_dic, evo_dic, mv_dic, mvr_dic, evq_dit0, evo_dit0, mv_dit0, mvr_dit0, evq_call, evo_call, mv_call, mvr_call, evq_and, evo_and, mv_and, mvr_and, evq_or, evo_or, mv_or, mvr_or, evq_not, evo_not, mv_not, mvr_not, evq_ite, evo_ite, mv_ite, mvr_ite, evq_chain, evo_chain, mv_chain, mvr_chain, evq_comp, evo_comp, mv_comp, mvr_comp, evq_srtk, evo_srtk, mv_srtk, mvr_srtk, evq_pop, evo_pop, mv_pop, mvr_pop, mv_pth, mvr_pth, sortL_str, sortL_s, sortT_str, mkS_one, mkS_len, mkS_app, slcS_hi, slcS_lo, bSMul_mk, bSAdd_mk, signAt_mk, lenS_mk, and_1, big_no, List.length_range, Out.bind_ok, filter_tt, Int.toNat_natCast, ite_le, ite_lt, app_str, opK_catT, opK_listT, opK_srtset, kidT_v, kidT_s, kidTs_t, kidTs_f, catTRun, sortSetL, frz_dit, isLkd_non, isLkd_bl, isLkd_int, isLkd_str, isLkd_lst, isLkd_tup, isLkd_dic, isLkd_dit, isLkd_lkd, isLkd_scr, isOwn_non, isOwn_bl, isOwn_int, isOwn_str, isOwn_lst, isOwn_tup, isOwn_dic, isOwn_dit, isOwn_lkd, isOwn_scr, ite_self, strsOf_map, true_imp_iff, false_imp_iff, slcL, cutT_hi, cutT_lo, take_map, drop_map, Int.cast_ofNat_Int, ev_lend, lendRun, lendA, lendBack, List.any_nil, List.any_cons, entT_two, entT_three, opK_lrng1, opK_lrng2, $[$as:term],*])
section
variable {tb : Tbl} {N d : Nat}
abbrev Heap2 := List Str × List Str
abbrev hpF (p : Heap2) : T := .lst false [.lst false (p.1.map T.str), .lst false (p.2.map T.str)]
theorem frzs_hpF (hs : List Heap2) : frzs (hs.map hpF) = hs.map hpF := by
  rw [frzs_map, List.map_map]
  exact List.map_congr_left fun e _ => by simp [frz_lst, frzs_cons, frzs_nil, frzs_str, hpF]
theorem idx_hp0 (p : Opd) (h : Heap2) (L : Slots) : idxL p [T.lst false (h.1.map T.str), T.lst false (h.2.map T.str)] 0 L = some (T.lst false (h.1.map T.str), L) := idxL_go (n := 0) rfl rfl rfl
theorem idx_hp1 (p : Opd) (h : Heap2) (L : Slots) : idxL p [T.lst false (h.1.map T.str), T.lst false (h.2.map T.str)] 1 L = some (T.lst false (h.2.map T.str), L) := idxL_go (n := 1) rfl rfl rfl
theorem idx_ow0 (i : Nat) (x : List T) (y : T) (L : Slots) : idxL (.s i []) [T.lst true x, y] 0 L = some (.lst false (frzs x), L.set i (some (.lst true [.lst false (frzs x), y]))) := by
  show some (frz (T.lst true x), L.set i (some (.lst true [frz (T.lst true x), y]))) = _
  rw [frz_lst]
theorem idx_ow1 (i : Nat) (x : T) (y : List T) (L : Slots) : idxL (.s i []) [x, T.lst true y] 1 L = some (.lst false (frzs y), L.set i (some (.lst true [x, .lst false (frzs y)]))) := by
  show some (frz (T.lst true y), L.set i (some (.lst true [x, frz (T.lst true y)]))) = _
  rw [frz_lst]
/-- one heap looked at -/
theorem heap_turn (s0 s1 s3 s4x s5x : Option T) (a b : Str) (J M : List Str) (O : List Heap2) (h : Heap2) (hJ : J.length ≤ 100) (hM : M.length ≤ 100) (h1 : h.1.length ≤ 100) (h2 : h.2.length ≤ 100) (hO : O.length ≤ 100) {Q : Fl → Slots → Prop}
    (kt : touch a b h.1 = true → Q .nx [s0, s1, none, s3, some (.str a), some (.str b), some (.lst true [.lst true ((J ++ h.1).map T.str), .lst true ((h.2 ++ M).map T.str)]), some (.lst true (O.map hpF)), some (hpF h)])
    (kf : touch a b h.1 = false → Q .nx [s0, s1, none, s3, some (.str a), some (.str b), some (.lst true [.lst true (J.map T.str), .lst true (M.map T.str)]), some (.lst true ((O ++ [h]).map hpF)), some (hpF h)]) :
    wx (execs (run tb N d) (sgOf tb) N D.b_heaps_of_2 [s0, s1, none, s3, some (.str a), some (.str b), some (.lst true [.lst true (J.map T.str), .lst true (M.map T.str)]), some (.lst true (O.map hpF)), some (hpF h)]) Q := by
  unfold touch at kt kf
  by_cases ha : a ∈ h.1
  · have e2 := decide_eq_true ha
    rw [e2] at kt
    have kt := kt rfl
    ktf_call [D.b_heaps_of, D.b_heaps_of_1, D.b_heaps_of_2, frzs_tieF, frzs_hpF, idx_hp0, idx_hp1, idx_ow0, idx_ow1, isDic_l, e2]
    exact kt
  · have e2 := decide_eq_false ha
    rw [e2] at kt kf
    ktf_call [D.b_heaps_of, D.b_heaps_of_1, D.b_heaps_of_2, frzs_tieF, frzs_hpF, idx_hp0, idx_hp1, idx_ow0, idx_ow1, isDic_l, e2]
    by_cases hb : b ∈ h.1
    · have e3 := decide_eq_true hb
      rw [e3] at kt
      have kt := kt rfl
      ktf_call [D.b_heaps_of, D.b_heaps_of_1, D.b_heaps_of_2, frzs_tieF, frzs_hpF, idx_hp0, idx_hp1, idx_ow0, idx_ow1, isDic_l, e3]
      exact kt
    · have e3 := decide_eq_false hb
      rw [e3] at kf
      have kf := kf rfl
      rw [List.map_append] at kf
      ktf_call [D.b_heaps_of, D.b_heaps_of_1, D.b_heaps_of_2, frzs_tieF, frzs_hpF, idx_hp0, idx_hp1, idx_ow0, idx_ow1, isDic_l, e3]
      exact kf
end
end TV

set_option Elab.async false
set_option linter.all false
set_option maxRecDepth 100000
set_option maxHeartbeats 4000000
set_option exponentiation.threshold 4000
set_option pp.maxSteps 1500
namespace TV
open PySem PySem.Spec PyProof.Rows L2
section
variable {tb : Tbl} {N d : Nat}
theorem flen {α : Type} (f : α → List Str) (p : α → Bool) : ∀ xs : List α, ((xs.filter p).map f).flatten.length ≤ (xs.map f).flatten.length
  | [] => Nat.le_refl _
  | x :: xs => by
    have ih := flen f p xs
    by_cases e : p x = true
    · rw [List.filter_cons_of_pos e]; simp only [List.map_cons, List.flatten_cons, List.length_append]; omega
    · rw [List.filter_cons_of_neg e]; simp only [List.map_cons, List.flatten_cons, List.length_append]; omega
/-- all heaps looked at -/
theorem heaps_turn (s0 s1 s3 : Option T) (a b n : Str) (hs : List Heap2) (hl : hs.length ≤ 12) (h1 : (hs.map (·.1)).flatten.length ≤ 24) (h2 : (hs.map (·.2)).flatten.length ≤ 12) (x8 : Option T) {Q : Fl → Slots → Prop}
    (k : ∀ (J M : List Str) (x8 : Option T), (∀ x, x ∈ J ↔ (x = a ∨ x = b) ∨ ∃ g ∈ hs, touch a b g.1 = true ∧ x ∈ g.1) → J.length = 2 + ((hs.filter fun g => touch a b g.1).map (·.1)).flatten.length → M.length = 1 + ((hs.filter fun g => touch a b g.1).map (·.2)).flatten.length →
      Q .nx [s0, s1, none, s3, some (.str a), some (.str b), some (.lst true [.lst true (J.map T.str), .lst true (M.map T.str)]), some (.lst true ((hs.filter fun g => !touch a b g.1).map hpF)), x8]) :
    wx (forRun (entT (.one 8)) (execs (run tb N d) (sgOf tb) N D.b_heaps_of_2) (hs.map hpF) [s0, s1, none, s3, some (.str a), some (.str b), some (.lst true [.lst true [.str a, .str b], .lst true [.str n]]), some (.lst true []), x8]) Q := by
  refine wx_for hpF hs (fun pr L => ∃ (J M : List Str) (x8 : Option T), (∀ x, x ∈ J ↔ (x = a ∨ x = b) ∨ ∃ g ∈ pr, touch a b g.1 = true ∧ x ∈ g.1) ∧ J.length = 2 + ((pr.filter fun g => touch a b g.1).map (·.1)).flatten.length ∧ M.length = 1 + ((pr.filter fun g => touch a b g.1).map (·.2)).flatten.length ∧
    L = [s0, s1, none, s3, some (.str a), some (.str b), some (.lst true [.lst true (J.map T.str), .lst true (M.map T.str)]), some (.lst true ((pr.filter fun g => !touch a b g.1).map hpF)), x8]) ⟨[a, b], [n], _, by simp, rfl, rfl, rfl⟩ ?_ ?_
  · rintro pr h po L e ⟨J, M, x8, mJ, lJ, lM, rfl⟩
    have q1 : pr.length + (po.length + 1) = hs.length := by rw [e]; simp
    have q2 : (pr.map (·.1)).flatten.length + h.1.length ≤ 24 := by
      rw [e] at h1; simp only [List.map_append, List.map_cons, List.flatten_append, List.flatten_cons, List.length_append] at h1; omega
    have q3 : (pr.map (·.2)).flatten.length + h.2.length ≤ 12 := by
      rw [e] at h2; simp only [List.map_append, List.map_cons, List.flatten_append, List.flatten_cons, List.length_append] at h2; omega
    have fl1 : ((pr.filter fun g => touch a b g.1).map (·.1)).flatten.length ≤ (pr.map (·.1)).flatten.length := flen _ _ _
    have fl2 : ((pr.filter fun g => touch a b g.1).map (·.2)).flatten.length ≤ (pr.map (·.2)).flatten.length := flen _ _ _
    have fl3 : (pr.filter fun g => !touch a b g.1).length ≤ pr.length := List.length_filter_le _ _
    refine ⟨_, rfl, ?_⟩
    refine heap_turn s0 s1 s3 none none a b J M _ h (by omega) (by omega) (by omega) (by omega) (by omega) (fun ht => ?_) fun ht => ?_
    · refine ⟨J ++ h.1, h.2 ++ M, some (hpF h), fun x => ?_, ?_, ?_, ?_⟩
      · rw [List.mem_append, mJ]
        constructor
        · rintro ((z | ⟨g, hg, z1, z2⟩) | z)
          · exact .inl z
          · exact .inr ⟨g, List.mem_append_left _ hg, z1, z2⟩
          · exact .inr ⟨h, by simp, ht, z⟩
        · rintro (z | ⟨g, hg, z1, z2⟩)
          · exact .inl (.inl z)
          · rcases List.mem_append.mp hg with hg | hg
            · exact .inl (.inr ⟨g, hg, z1, z2⟩)
            · rw [List.mem_singleton.mp hg] at z2; exact .inr z2
      · rw [List.filter_append, List.filter_cons_of_pos (by exact ht)]
        simp only [List.map_append, List.map_cons, List.map_nil, List.flatten_append, List.flatten_cons, List.flatten_nil, List.length_append, List.length_nil, List.filter_nil]; omega
      · rw [List.filter_append, List.filter_cons_of_pos (by exact ht)]
        simp only [List.map_append, List.map_cons, List.map_nil, List.flatten_append, List.flatten_cons, List.flatten_nil, List.length_append, List.length_nil, List.filter_nil]; omega
      · rw [List.filter_append (p := fun g : Heap2 => !touch a b g.1), List.filter_cons_of_neg (by simp [ht]), List.filter_nil, List.append_nil]
    · refine ⟨J, M, some (hpF h), fun x => ?_, ?_, ?_, ?_⟩
      · rw [mJ]
        constructor
        · rintro (z | ⟨g, hg, z1, z2⟩)
          · exact .inl z
          · exact .inr ⟨g, List.mem_append_left _ hg, z1, z2⟩
        · rintro (z | ⟨g, hg, z1, z2⟩)
          · exact .inl z
          · rcases List.mem_append.mp hg with hg | hg
            · exact .inr ⟨g, hg, z1, z2⟩
            · rw [List.mem_singleton.mp hg, ht] at z1; cases z1
      · rw [List.filter_append, List.filter_cons_of_neg (by simp [ht]), List.filter_nil, List.append_nil]; exact lJ
      · rw [List.filter_append, List.filter_cons_of_neg (by simp [ht]), List.filter_nil, List.append_nil]; exact lM
      · rw [List.filter_append (p := fun g : Heap2 => !touch a b g.1), List.filter_cons_of_pos (by simp [ht]), List.filter_nil]
  · rintro L ⟨J, M, x8, mJ, lJ, lM, rfl⟩
    exact k J M x8 mJ lJ lM
end
end TV

set_option Elab.async false
set_option linter.all false
set_option maxRecDepth 100000
set_option maxHeartbeats 4000000
set_option exponentiation.threshold 4000
set_option pp.maxSteps 1500
namespace TV
open PySem PySem.Spec PyProof.Rows L2
local macro_rules | `(tactic| ktf_call [$as,*]) => `(tactic| simp (maxSteps := 1000000) (disch := first | omega | assumption | (with_reducible ((repeat (first | assumption | exact deps_str _ _ | exact deps_int _ _ | exact deps_bl _ _ | exact deps_rows _ _ _ (by decide) | exact deps_nil _ | exact dep_s _ _ | exact dep_i _ _ | exact dep_b _ _ | exact dep_n _ | (refine deps_map ?_; intro _ _) | apply deps_cons | apply deps_app | refine dep_lst2 ?_ (by decide) | refine dep_tup2 ?_ (by decide) | exact Nat.zero_le _)); done)) | (simp only [List.length_append, List.length_cons, List.length_nil, List.length_take, List.length_drop, List.length_replicate, List.length_map, List.length_range, List.length_singleton, mkS_len]; omega) | (decide; done)) only [wx_ok, wx_stuck, wx_bind, wx_noErr, wf_ok, cS_t, cS_f, eS_t, eS_f, exec_iffS, ev_iteS, onBe_bl, cB_t, cB_f, cB_and, cB_or, cB_not, cB_b, sg_has, goA_some, callRun_eq, callBack_ok, onO_some, onO_none, noErr_ok, onB_bl, onF_nx, onF_rt, onF_bk, onF_ct, loopF_nx, loopF_ct, loopF_bk, loopF_rt, slot_0, slot_s, obind_some, obind_none, omap_some, omap_none, rd_v, rd_s, rd_p, pathT_nil, pathT_lst, pathT_tup, rds_nil, rds_cons, ev_var, ev_cst, ev_pth, ev_op, nlkO_eq, ev_lst, ev_tup, ev_dic, ev_dit0, ev_call, ev_and, ev_or, ev_not, ev_chain, ev_comp, ev_pop, evs_nil, evs_cons, evq_nil, evq_var, evq_pth, evo_var, evo_pthT, evo_pthF, evt_nil, evt_one, evi_seq, evi_rng, evi_enm, evi_zip, evi_rev, mvr_var, mvr_tup, mvr_lst, mvs_nil, mvs_cons, mv_var, evb_eq, exec_set, exec_setm, exec_par, exec_aug, augRun_int, exec_sub, exec_mut, onL_l, exec_exp, exec_ret, exec_retn, exec_whl, exec_for, endF_nx, endF_rt, backS_n, backS_s, backSS_n, backSS_k, exec_brk, exec_cnt, exec_pass, exec_rais, execs_nil, execs_cons, formOpen_t, opRun_eq, opK_bin_int, opK_bin_str, opK_bin_si, opK_cat, opK_cmp, opK_neg, opK_inv, opK_len, opK_abs, opK_int, opK_str, opK_isi, opK_max, opK_min, opK_sum, opK_all, opK_any, opK_idx_str, opK_idx_scr, opK_idx_lst, opK_idx_tup, opK_idx_dic, opK_idx_lkd, opK_get, opK_slc_s01, opK_slc_s10, opK_slc_s11, opK_slc_l01, opK_slc_l10, opK_slc_l11, opK_list, opK_tupl, opK_sortd, kidL_v, kidL_s, kidLs_t, kidLs_f, frz_lst, frz_tup, frz_dic, frz_int, frz_str, frz_bl, frz_non, frz_scr, frzs_nil, frzs_cons, frzs_int, frzs_str, frzs_bl, shrs_int, shrs_str, clns_int, clns_str, frzs_rows, shrs_rows, clns_rows, frzs_app, shrs_app, clns_app, itSeq_L, itSeq_T, itSeq_S, itSeq_K, itTpl_v, itTpl_s, itTpl_f, itTpl_tF, itTpl_tT, itStr_v, itStr_ss, itKey_s, itKey_t, itFrz_v, itFrz_s, itFrz_f, itFrz_tF, itFrz_tT, finF_rt, finF_nx, finS_eq, outS_nil, outS, argS, varRun, pthRun, dspRun, mvV, shr, cln, shrs, clns, catRun, mutsOf, noDup, lent, frzO, setOuts, wipeL, backL, tgs, backOk, mT, aS, aSs, simpEs, simp1, setO, sub_one, mutT, LINE_eq, sop, bAdd, bSub, bMul_h, bMul, bDiv_h, bDiv, bMod, bPow, bShl, bShr, bAnd, bOr, bXor, cEq_i, cEq_s, cEq_b, cNe_i, cNe_s, cEq_go, cNe_go, cLt_i, cLe_i, cGt_i, cGe_i, cLt_s, cLe_s, cGt_s, cGe_s, cIs_n, cIsN_n, cIn_L, cNin_L, eqT_int, eqT_str, eqT_bl, eqT_lst, eqT_tup, eqTs_nil, eqTs_cons, eqTs_n1, eqTs_n2, eqTs_str, eqTs_int, eqTs_rows, eqTs_nilR, any_str, idxL_one, idxL_strn, idxL_intn, idxL_row, atI_nn, signAt_nn, rng_n, rng_ab, lenS_l, lenS_t, lenS_scr, lenS_d, lenS_s, isiS, tyOf, isNon, List.map_cons, List.map_nil, List.cons_append, List.nil_append, List.replicate_succ, List.replicate_zero, List.set_cons_zero, List.set_cons_succ, List.length_cons, List.length_nil, List.getElem?_cons_zero, List.getElem?_cons_succ, List.length_map, List.length_append, List.all_cons, List.all_nil, List.contains_nil, List.contains_cons, Option.some.injEq, Nat.reduceAdd, Nat.reduceSub, Nat.reduceLeDiff, Nat.reduceBEq, Nat.reduceEqDiff, Int.reduceNeg, Int.reduceToNat, Int.reduceAdd, Int.reduceSub, Int.reduceMul, Int.reducePow, Int.reduceLT, Int.reduceLE, Int.reduceEq, Int.reduceNe, String.reduceEq, if_true, if_false, reduceIte, reduceCtorEq, ne_eq, not_false_eq_true, implies_true, BEq.rfl, beq_self_eq_true, Bool.false_eq_true, Bool.true_eq_false, Bool.or_false, Bool.false_or, Bool.or_true, Bool.true_or, Bool.and_true, Bool.true_and, Bool.and_false, Bool.false_and, Bool.not_true, Bool.not_false, Bool.not_not, and_true, true_and, and_false, false_and, or_true, true_or, or_false, false_or, decide_true, decide_false, id_eq, evq_cst, evo_cst, mv_cst, mvr_cst, evq_op, evo_op, mv_op, mvr_op, evq_lst, evo_lst, mv_lst, evq_tup, evo_tup, mv_tup, evq_dic, evo_dic, mv_dic, mvr_dic, evq_dit0, evo_dit0, mv_dit0, mvr_dit0, evq_call, evo_call, mv_call, mvr_call, evq_and, evo_and, mv_and, mvr_and, evq_or, evo_or, mv_or, mvr_or, evq_not, evo_not, mv_not, mvr_not, evq_ite, evo_ite, mv_ite, mvr_ite, evq_chain, evo_chain, mv_chain, mvr_chain, evq_comp, evo_comp, mv_comp, mvr_comp, evq_srtk, evo_srtk, mv_srtk, mvr_srtk, evq_pop, evo_pop, mv_pop, mvr_pop, mv_pth, mvr_pth, sortL_str, sortL_s, sortT_str, mkS_one, mkS_len, mkS_app, slcS_hi, slcS_lo, bSMul_mk, bSAdd_mk, signAt_mk, lenS_mk, and_1, big_no, List.length_range, Out.bind_ok, filter_tt, Int.toNat_natCast, ite_le, ite_lt, app_str, opK_catT, opK_listT, opK_srtset, kidT_v, kidT_s, kidTs_t, kidTs_f, catTRun, sortSetL, frz_dit, isLkd_non, isLkd_bl, isLkd_int, isLkd_str, isLkd_lst, isLkd_tup, isLkd_dic, isLkd_dit, isLkd_lkd, isLkd_scr, isOwn_non, isOwn_bl, isOwn_int, isOwn_str, isOwn_lst, isOwn_tup, isOwn_dic, isOwn_dit, isOwn_lkd, isOwn_scr, ite_self, strsOf_map, true_imp_iff, false_imp_iff, slcL, cutT_hi, cutT_lo, take_map, drop_map, Int.cast_ofNat_Int, ev_lend, lendRun, lendA, lendBack, List.any_nil, List.any_cons, entT_two, entT_three, opK_lrng1, opK_lrng2, $[$as:term],*])
section
variable {tb : Tbl} {N d : Nat}
theorem ends2_snoc (pre : List Tie) (n : Tie) : ∀ x, x ∈ ends2 (pre ++ [n]) ↔ (x ∈ ends2 pre ∨ x = n.2.1) ∨ x = n.2.2 := fun x => by
  unfold ends2
  simp only [List.map_append, List.mem_append, List.map_cons, List.map_nil, List.mem_singleton]
  constructor
  · rintro ((h | h) | (h | h))
    · exact .inl (.inl (.inl h))
    · exact .inl (.inr h)
    · exact .inl (.inl (.inr h))
    · exact .inr h
  · rintro (((h | h) | h) | h)
    · exact .inl (.inl h)
    · exact .inr (.inl h)
    · exact .inl (.inr h)
    · exact .inr (.inr h)
theorem part_len3 {α : Type} (f : α → List Str) (p : α → Bool) : ∀ hs : List α, ((hs.filter fun h => !p h).map f).flatten.length + ((hs.filter p).map f).flatten.length = (hs.map f).flatten.length
  | [] => rfl
  | h :: hs => by
    have ih := part_len3 f p hs
    by_cases e : p h = true
    · rw [List.filter_cons_of_neg (by simpa using e), List.filter_cons_of_pos e]
      simp only [List.map_cons, List.flatten_cons, List.length_append]; omega
    · rw [List.filter_cons_of_pos (by simpa using e), List.filter_cons_of_neg e]
      simp only [List.map_cons, List.flatten_cons, List.length_append]; omega
theorem heaps_of_ok [D.H_heaps_of tb] (o p : Bool) (x0 : List T) (net : List Tie) (nm : List Str) (hx0 : frzs x0 = net.map tieF) (hl : net.length ≤ 12) (hnm : ∀ n ∈ net, n.1 ∈ nm) :
    wf (run tb N (d + 1) "heaps_of" [.lst o x0, .lst p (nm.map T.str)]) fun r out => ∃ (hs : List Heap2) (x2 : List T), r = .lst true x2 ∧ out = [] ∧ x2 = hs.map hpF ∧ (uniqS (ends2 net)).length = hs.length + (woodL net).length ∧ hs.length ≤ 12 ∧ (hs.map (·.2)).flatten.length ≤ 12 := by
  refine wf_in (us := [.lst false (net.map tieF), .lst false (nm.map T.str)]) rfl rfl (by ktf_call [D.b_heaps_of, D.b_heaps_of_1, frzs_tieF, frzs_hpF, isDic_l, hx0]) ?_
  ktf_call [D.b_heaps_of, D.b_heaps_of_1, frzs_tieF, frzs_hpF, isDic_l]
  refine wx_for tieF net (fun pre L => ∃ (hs : List Heap2) (x2 : List T) (x3 x4 x5 x6 x7 x8 : Option T), x2 = hs.map hpF ∧ Hps (hs.map (·.1)) (repR pre) (ends2 pre) ∧ Fix (repR pre) (ends2 pre) ∧ (uniqS (ends2 pre)).length = hs.length + (woodL pre).length ∧ hs.length ≤ pre.length ∧ (hs.map (·.1)).flatten.length ≤ 2 * pre.length ∧ (hs.map (·.2)).flatten.length ≤ pre.length ∧
    L = [some (.lst false (net.map tieF)), some (.lst false (nm.map T.str)), some (.lst true x2), x3, x4, x5, x6, x7, x8]) ?_ ?_ ?_
  · exact ⟨[], [], _, _, _, _, _, _, rfl, ⟨by simp [ends2], by simp, .nil⟩, ⟨fun _ _ => rfl, by simp [ends2]⟩, rfl, Nat.le_refl _, Nat.le_refl _, Nat.le_refl _, rfl⟩
  · rintro pre ⟨n, a, b⟩ post L e ⟨hs, x2, x3, x4, x5, x6, x7, x8, hx, hp, fx, hc, hl1, hl2, hl3, rfl⟩
    refine ⟨_, entT_three 3 4 5 false _ _ _, ?_⟩
    have hpl : pre.length < 12 := by
      have := congrArg List.length e
      simp at this; omega
    have hin : n ∈ nm := hnm (n, a, b) (by rw [e]; simp)
    have hin2 := decide_eq_true hin
    have x2l : x2.length = hs.length := by rw [hx, List.length_map]
    have as2 : aSs 2 D.b_heaps_of_2 = false := rfl
    ktf_call [D.b_heaps_of, D.b_heaps_of_1, frzs_tieF, frzs_hpF, isDic_l, hx, hin2, as2]
    refine heaps_turn _ _ _ a b n hs (by omega) (by omega) (by omega) _ ?_
    intro J M y8 mJ lJ lM
    have lfe : (hs.filter fun g => !touch a b g.1).length ≤ hs.length := List.length_filter_le _ _
    ktf_call [D.b_heaps_of, D.b_heaps_of_1, frzs_tieF, frzs_hpF, isDic_l]
    have p1 := part_len3 (fun g : Heap2 => g.1) (fun g => touch a b g.1) hs
    have p2 := part_len3 (fun g : Heap2 => g.2) (fun g => touch a b g.1) hs
    have ef : ((hs.filter fun g => !touch a b g.1) ++ [(J, M)]).map (·.1) = heapS a b (hs.map (·.1)) J := by
      unfold heapS
      rw [List.map_append, List.filter_map]; rfl
    have hnew : ∀ x, x ∈ J ↔ (x = a ∨ x = b) ∨ ∃ g ∈ hs.map (·.1), touch a b g = true ∧ x ∈ g := fun x => by
      rw [mJ]
      constructor
      · rintro (z | ⟨g, hg, z⟩)
        · exact .inl z
        · exact .inr ⟨g.1, List.mem_map_of_mem hg, z⟩
      · rintro (z | ⟨g, hg, z⟩)
        · exact .inl z
        · obtain ⟨q, hq, rfl⟩ := List.mem_map.mp hg
          exact .inr ⟨q, hq, z⟩
    have hQ := ends2_snoc pre (n, a, b)
    have cnt := Hps.count (new := J) (w := (woodL pre).length) hp fx hQ (by rw [List.length_map]; exact hc)
    refine ⟨(hs.filter fun g => !touch a b g.1) ++ [(J, M)], ((hs.filter fun g => !touch a b g.1) ++ [(J, M)]).map hpF, some (.str n), some (.str a), some (.str b), some (.lst false [.lst false (J.map T.str), .lst false (M.map T.str)]), some (.lst true ((hs.filter fun g => !touch a b g.1).map hpF)), y8, rfl, ?_, ?_, ?_, ?_, ?_, ?_, ?_⟩
    · rw [ef, repR_snoc]; exact hp.step fx hQ hnew
    · rw [repR_snoc]; exact fx.step hQ
    · rw [cnt, ← ef, List.length_map, woodL_snoc]
      by_cases er : repR pre a = repR pre b
      · rw [if_pos er, if_pos er, List.append_nil]; rfl
      · rw [if_neg er, if_neg er, List.length_append (as := woodL pre)]; rfl
    · rw [List.length_append, List.length_cons, List.length_nil]; omega
    · simp only [List.map_append, List.map_cons, List.map_nil, List.flatten_append, List.flatten_cons, List.flatten_nil, List.length_append, List.length_nil]; omega
    · simp only [List.map_append, List.map_cons, List.map_nil, List.flatten_append, List.flatten_cons, List.flatten_nil, List.length_append, List.length_nil]; omega
    · rw [List.map_append]; rfl
  · rintro L ⟨hs, x2, x3, x4, x5, x6, x7, x8, hx, hp, fx, hc, hl1, hl2, hl3, rfl⟩
    ktf_call [D.b_heaps_of, D.b_heaps_of_1, frzs_tieF, frzs_hpF, isDic_l]
    exact ⟨hs, x2, rfl, hx, hc, by omega, by omega⟩
end
end TV

set_option Elab.async false
set_option linter.all false
set_option maxRecDepth 100000
set_option maxHeartbeats 4000000
set_option exponentiation.threshold 4000
set_option pp.maxSteps 1500
namespace TV
open PySem PySem.Spec PyProof.Rows L2
local macro_rules | `(tactic| ktf_call [$as,*]) => `(tactic| simp (maxSteps := 1000000) (disch := first | omega | assumption | (with_reducible ((repeat (first | assumption | exact deps_str _ _ | exact deps_int _ _ | exact deps_bl _ _ | exact deps_rows _ _ _ (by decide) | exact deps_nil _ | exact dep_s _ _ | exact dep_i _ _ | exact dep_b _ _ | exact dep_n _ | (refine deps_map ?_; intro _ _) | apply deps_cons | apply deps_app | refine dep_lst2 ?_ (by decide) | refine dep_tup2 ?_ (by decide) | exact Nat.zero_le _)); done)) | (simp only [List.length_append, List.length_cons, List.length_nil, List.length_take, List.length_drop, List.length_replicate, List.length_map, List.length_range, List.length_singleton, mkS_len]; omega) | (decide; done)) only [wx_ok, wx_stuck, wx_bind, wx_noErr, wf_ok, cS_t, cS_f, eS_t, eS_f, exec_iffS, ev_iteS, onBe_bl, cB_t, cB_f, cB_and, cB_or, cB_not, cB_b, sg_has, goA_some, callRun_eq, callBack_ok, onO_some, onO_none, noErr_ok, onB_bl, onF_nx, onF_rt, onF_bk, onF_ct, loopF_nx, loopF_ct, loopF_bk, loopF_rt, slot_0, slot_s, obind_some, obind_none, omap_some, omap_none, rd_v, rd_s, rd_p, pathT_nil, pathT_lst, pathT_tup, rds_nil, rds_cons, ev_var, ev_cst, ev_pth, ev_op, nlkO_eq, ev_lst, ev_tup, ev_dic, ev_dit0, ev_call, ev_and, ev_or, ev_not, ev_chain, ev_comp, ev_pop, evs_nil, evs_cons, evq_nil, evq_var, evq_pth, evo_var, evo_pthT, evo_pthF, evt_nil, evt_one, evi_seq, evi_rng, evi_enm, evi_zip, evi_rev, mvr_var, mvr_tup, mvr_lst, mvs_nil, mvs_cons, mv_var, evb_eq, exec_set, exec_setm, exec_par, exec_aug, augRun_int, exec_sub, exec_mut, onL_l, exec_exp, exec_ret, exec_retn, exec_whl, exec_for, endF_nx, endF_rt, backS_n, backS_s, backSS_n, backSS_k, exec_brk, exec_cnt, exec_pass, exec_rais, execs_nil, execs_cons, formOpen_t, opRun_eq, opK_bin_int, opK_bin_str, opK_bin_si, opK_cat, opK_cmp, opK_neg, opK_inv, opK_len, opK_abs, opK_int, opK_str, opK_isi, opK_max, opK_min, opK_sum, opK_all, opK_any, opK_idx_str, opK_idx_scr, opK_idx_lst, opK_idx_tup, opK_idx_dic, opK_idx_lkd, opK_get, opK_slc_s01, opK_slc_s10, opK_slc_s11, opK_slc_l01, opK_slc_l10, opK_slc_l11, opK_list, opK_tupl, opK_sortd, kidL_v, kidL_s, kidLs_t, kidLs_f, frz_lst, frz_tup, frz_dic, frz_int, frz_str, frz_bl, frz_non, frz_scr, frzs_nil, frzs_cons, frzs_int, frzs_str, frzs_bl, shrs_int, shrs_str, clns_int, clns_str, frzs_rows, shrs_rows, clns_rows, frzs_app, shrs_app, clns_app, itSeq_L, itSeq_T, itSeq_S, itSeq_K, itTpl_v, itTpl_s, itTpl_f, itTpl_tF, itTpl_tT, itStr_v, itStr_ss, itKey_s, itKey_t, itFrz_v, itFrz_s, itFrz_f, itFrz_tF, itFrz_tT, finF_rt, finF_nx, finS_eq, outS_nil, outS, argS, varRun, pthRun, dspRun, mvV, shr, cln, shrs, clns, catRun, mutsOf, noDup, lent, frzO, setOuts, wipeL, backL, tgs, backOk, mT, aS, aSs, simpEs, simp1, setO, sub_one, mutT, LINE_eq, sop, bAdd, bSub, bMul_h, bMul, bDiv_h, bDiv, bMod, bPow, bShl, bShr, bAnd, bOr, bXor, cEq_i, cEq_s, cEq_b, cNe_i, cNe_s, cEq_go, cNe_go, cLt_i, cLe_i, cGt_i, cGe_i, cLt_s, cLe_s, cGt_s, cGe_s, cIs_n, cIsN_n, cIn_L, cNin_L, eqT_int, eqT_str, eqT_bl, eqT_lst, eqT_tup, eqTs_nil, eqTs_cons, eqTs_n1, eqTs_n2, eqTs_str, eqTs_int, eqTs_rows, eqTs_nilR, any_str, idxL_one, idxL_strn, idxL_intn, idxL_row, atI_nn, signAt_nn, rng_n, rng_ab, lenS_l, lenS_t, lenS_scr, lenS_d, lenS_s, isiS, tyOf, isNon, List.map_cons, List.map_nil, List.cons_append, List.nil_append, List.replicate_succ, List.replicate_zero, List.set_cons_zero, List.set_cons_succ, List.length_cons, List.length_nil, List.getElem?_cons_zero, List.getElem?_cons_succ, List.length_map, List.length_append, List.all_cons, List.all_nil, List.contains_nil, List.contains_cons, Option.some.injEq, Nat.reduceAdd, Nat.reduceSub, Nat.reduceLeDiff, Nat.reduceBEq, Nat.reduceEqDiff, Int.reduceNeg, Int.reduceToNat, Int.reduceAdd, Int.reduceSub, Int.reduceMul, Int.reducePow, Int.reduceLT, Int.reduceLE, Int.reduceEq, Int.reduceNe, String.reduceEq, if_true, if_false, reduceIte, reduceCtorEq, ne_eq, not_false_eq_true, implies_true, BEq.rfl, beq_self_eq_true, Bool.false_eq_true, Bool.true_eq_false, Bool.or_false, Bool.false_or, Bool.or_true, Bool.true_or, Bool.and_true, Bool.true_and, Bool.and_false, Bool.false_and, Bool.not_true, Bool.not_false, Bool.not_not, and_true, true_and, and_false, false_and, or_true, true_or, or_false, false_or, decide_true, decide_false, id_eq, evq_cst, evo_cst, mv_cst, mvr_cst, evq_op, evo_op, mv_op, mvr_op, evq_lst, evo_lst, mv_lst, evq_tup, evo_tup, mv_tup, evq_dic, evo_dic, mv_dic, mvr_dic, evq_dit0, evo_dit0, mv_dit0, mvr_dit0, evq_call, evo_call, mv_call, mvr_call, evq_and, evo_and, mv_and, mvr_and, evq_or, evo_or, mv_or, mvr_or, evq_not, evo_not, mv_not, mvr_not, evq_ite, evo_ite, mv_ite, mvr_ite, evq_chain, evo_chain, mv_chain, mvr_chain, evq_comp, evo_comp, mv_comp, mvr_comp, evq_srtk, evo_srtk, mv_srtk, mvr_srtk, evq_pop, evo_pop, mv_pop, mvr_pop, mv_pth, mvr_pth, sortL_str, sortL_s, sortT_str, mkS_one, mkS_len, mkS_app, slcS_hi, slcS_lo, bSMul_mk, bSAdd_mk, signAt_mk, lenS_mk, and_1, big_no, List.length_range, Out.bind_ok, filter_tt, Int.toNat_natCast, ite_le, ite_lt, app_str, opK_catT, opK_listT, opK_srtset, kidT_v, kidT_s, kidTs_t, kidTs_f, catTRun, sortSetL, frz_dit, isLkd_non, isLkd_bl, isLkd_int, isLkd_str, isLkd_lst, isLkd_tup, isLkd_dic, isLkd_dit, isLkd_lkd, isLkd_scr, isOwn_non, isOwn_bl, isOwn_int, isOwn_str, isOwn_lst, isOwn_tup, isOwn_dic, isOwn_dit, isOwn_lkd, isOwn_scr, ite_self, strsOf_map, true_imp_iff, false_imp_iff, slcL, cutT_hi, cutT_lo, take_map, drop_map, Int.cast_ofNat_Int, ev_lend, lendRun, lendA, lendBack, List.any_nil, List.any_cons, entT_two, entT_three, opK_lrng1, opK_lrng2, $[$as:term],*])
section
variable {tb : Tbl} {N d : Nat}
theorem alike_strs : ∀ xs ys : List Str, PySem.W.alikeAll (toDs (xs.map T.str)) (toDs (ys.map T.str)) = true
  | [], ys => by simp [toDs, PySem.W.alikeAll]
  | _ :: _, [] => by simp [toDs, PySem.W.alikeAll]
  | x :: xs, y :: ys => by
    have ih := alike_strs xs ys
    simp [toDs, toD, PySem.W.alikeAll, PySem.W.alike, ih]
theorem sortT_rows (o : Bool) (R : List (List Str)) : ∃ zs, sortT (R.map fun r => T.lst o (r.map T.str)) = some zs ∧ zs.length = R.length := by
  cases R with
  | nil => exact ⟨[], by simp [sortT, sortT0, strsOf, strSort], rfl⟩
  | cons r R =>
    refine ⟨((r :: R).map fun r => T.lst o (r.map T.str)).mergeSort leT, ?_, by rw [List.length_mergeSort, List.length_map]⟩
    have h0 : sortT0 ((r :: R).map fun r => T.lst o (r.map T.str)) = none := rfl
    unfold sortT
    rw [h0]
    simp only []
    rw [if_pos]
    unfold srtD
    rw [toDs_eq, List.map_map]
    have hd : deps ((r :: R).map fun r => T.lst o (r.map T.str)) ≤ 60 := deps_rows _ _ _ (by decide)
    simp only [Bool.and_eq_true, Bool.or_eq_true, decide_eq_true_eq]
    refine ⟨⟨.inr ?_, ?_⟩, hd⟩
    · refine List.all_eq_true.mpr fun x hx => ?_
      obtain ⟨y, _, rfl⟩ := List.mem_map.mp hx
      rfl
    · refine List.all_eq_true.mpr fun x hx => List.all_eq_true.mpr fun z hz => ?_
      obtain ⟨y, _, rfl⟩ := List.mem_map.mp hx
      obtain ⟨w, _, rfl⟩ := List.mem_map.mp hz
      simp [toD, PySem.W.alike, alike_strs]
theorem sortL_v (o : Bool) (xs : List T) (L : Slots) : sortL (.v (.lst o xs)) L = (sortT xs).map fun zs => (.lst true zs, L) := rfl
theorem in_flat {hs : List Heap2} {h : Heap2} (hm : h ∈ hs) (hl : (hs.map (·.2)).flatten.length ≤ 12) : h.2.length ≤ 12 := by
  have : h.2.Sublist (hs.map (·.2)).flatten := List.sublist_flatten_of_mem (List.mem_map_of_mem hm)
  exact Nat.le_trans this.length_le hl
theorem pieces_ok [D.H_heaps_of tb] [D.H_pieces tb] (o : Bool) (x0 : List T) (net : List Tie) (hx0 : frzs x0 = net.map tieF) (hl : net.length ≤ 12) :
    wf (run tb N (d + 2) "pieces" [.lst o x0]) fun r out => ∃ rs : List T, r = .lst true rs ∧ out = [] ∧ (uniqS (ends2 net)).length = rs.length + (woodL net).length := by
  refine wf_in (us := [.lst false (net.map tieF)]) rfl rfl (by ktf_call [D.b_pieces, D.c_pieces_1, D.c_pieces_1i, D.c_pieces_2, D.c_pieces_2i, frzs_tieF, frzs_hpF, tie_0, idx_hp0, idx_hp1, isDic_l, map_strT, hx0]) ?_
  ktf_call [D.b_pieces, D.c_pieces_1, D.c_pieces_1i, D.c_pieces_2, D.c_pieces_2i, frzs_tieF, frzs_hpF, tie_0, idx_hp0, idx_hp1, isDic_l, map_strT]
  refine wx_compT tieF (fun n => T.str n.1) rfl (fun _ => ⟨_, _, rfl⟩) ?_ ?_
  · intro n hn
    ktf_call [D.b_pieces, D.c_pieces_1, D.c_pieces_1i, D.c_pieces_2, D.c_pieces_2i, frzs_tieF, frzs_hpF, tie_0, idx_hp0, idx_hp1, isDic_l, map_strT]
  · intro y
    ktf_call [D.b_pieces, D.c_pieces_1, D.c_pieces_1i, D.c_pieces_2, D.c_pieces_2i, frzs_tieF, frzs_hpF, tie_0, idx_hp0, idx_hp1, isDic_l, map_strT]
    refine wx_call (heaps_of_ok (tb := tb) (d := d) false true (net.map tieF) net (net.map (·.1)) (frzs_tieF net) hl fun n hn => List.mem_map_of_mem hn) ?_
    rintro r out ⟨hs, x2, rfl, rfl, hx, hc, hl1, hl2⟩
    subst hx
    have cl : clns (hs.map hpF) = hs.isEmpty := by cases hs <;> rfl
    ktf_call [D.b_pieces, D.c_pieces_1, D.c_pieces_1i, D.c_pieces_2, D.c_pieces_2i, frzs_tieF, frzs_hpF, tie_0, idx_hp0, idx_hp1, isDic_l, map_strT, cl]
    refine wx_mono (Q' := fun t L => t = .lst true (hs.map hpF) ∧ ∃ x1, L = [some (.lst false (net.map tieF)), x1, none, none]) ?_ ?_
    · split
      · rw [wx_ok]; exact ⟨rfl, _, rfl⟩
      · rw [wx_ok]; exact ⟨rfl, _, rfl⟩
    · rintro t L ⟨rfl, x1, rfl⟩
      ktf_call [D.b_pieces, D.c_pieces_1, D.c_pieces_1i, D.c_pieces_2, D.c_pieces_2i, frzs_tieF, frzs_hpF, tie_0, idx_hp0, idx_hp1, isDic_l, map_strT]
      refine wx_compT hpF (fun h => T.lst true ((strSort h.2).map T.str)) rfl (fun _ => ⟨_, _, rfl⟩) ?_ ?_
      · intro h hm
        have h2 := in_flat hm hl2
        have h3 : h.2.length < 64 := by omega
        ktf_call [D.b_pieces, D.c_pieces_1, D.c_pieces_1i, D.c_pieces_2, D.c_pieces_2i, frzs_tieF, frzs_hpF, tie_0, idx_hp0, idx_hp1, isDic_l, map_strT]
      · intro y
        obtain ⟨zs, e1, e2⟩ := sortT_rows true (hs.map fun h => strSort h.2)
        rw [List.map_map] at e1
        have e3 : ∀ L : Slots, sortL (.v (.lst true (hs.map fun h => T.lst true ((strSort h.2).map T.str)))) L = some (.lst true zs, L) := fun L => by
          rw [sortL_v]
          show (sortT (hs.map ((fun r : List Str => T.lst true (r.map T.str)) ∘ fun h : Heap2 => strSort h.2))).map _ = _
          rw [e1]; rfl
        rw [List.length_map] at e2
        ktf_call [D.b_pieces, D.c_pieces_1, D.c_pieces_1i, D.c_pieces_2, D.c_pieces_2i, frzs_tieF, frzs_hpF, tie_0, idx_hp0, idx_hp1, isDic_l, map_strT, e3]
        exact ⟨zs, rfl, by rw [e2]; exact hc⟩
end
end TV

set_option Elab.async false
set_option linter.all false
set_option maxRecDepth 100000
set_option maxHeartbeats 4000000
set_option exponentiation.threshold 4000
set_option pp.maxSteps 1500
namespace TV
open PySem PySem.Spec PyProof.Rows L2
local macro_rules | `(tactic| ktf_call [$as,*]) => `(tactic| simp (maxSteps := 1000000) (disch := first | omega | assumption | (with_reducible ((repeat (first | assumption | exact deps_str _ _ | exact deps_int _ _ | exact deps_bl _ _ | exact deps_rows _ _ _ (by decide) | exact deps_nil _ | exact dep_s _ _ | exact dep_i _ _ | exact dep_b _ _ | exact dep_n _ | (refine deps_map ?_; intro _ _) | apply deps_cons | apply deps_app | refine dep_lst2 ?_ (by decide) | refine dep_tup2 ?_ (by decide) | exact Nat.zero_le _)); done)) | (simp only [List.length_append, List.length_cons, List.length_nil, List.length_take, List.length_drop, List.length_replicate, List.length_map, List.length_range, List.length_singleton, mkS_len]; omega) | (decide; done)) only [wx_ok, wx_stuck, wx_bind, wx_noErr, wf_ok, cS_t, cS_f, eS_t, eS_f, exec_iffS, ev_iteS, onBe_bl, cB_t, cB_f, cB_and, cB_or, cB_not, cB_b, sg_has, goA_some, callRun_eq, callBack_ok, onO_some, onO_none, noErr_ok, onB_bl, onF_nx, onF_rt, onF_bk, onF_ct, loopF_nx, loopF_ct, loopF_bk, loopF_rt, slot_0, slot_s, obind_some, obind_none, omap_some, omap_none, rd_v, rd_s, rd_p, pathT_nil, pathT_lst, pathT_tup, rds_nil, rds_cons, ev_var, ev_cst, ev_pth, ev_op, nlkO_eq, ev_lst, ev_tup, ev_dic, ev_dit0, ev_call, ev_and, ev_or, ev_not, ev_chain, ev_comp, ev_pop, evs_nil, evs_cons, evq_nil, evq_var, evq_pth, evo_var, evo_pthT, evo_pthF, evt_nil, evt_one, evi_seq, evi_rng, evi_enm, evi_zip, evi_rev, mvr_var, mvr_tup, mvr_lst, mvs_nil, mvs_cons, mv_var, evb_eq, exec_set, exec_setm, exec_par, exec_aug, augRun_int, exec_sub, exec_mut, onL_l, exec_exp, exec_ret, exec_retn, exec_whl, exec_for, endF_nx, endF_rt, backS_n, backS_s, backSS_n, backSS_k, exec_brk, exec_cnt, exec_pass, exec_rais, execs_nil, execs_cons, formOpen_t, opRun_eq, opK_bin_int, opK_bin_str, opK_bin_si, opK_cat, opK_cmp, opK_neg, opK_inv, opK_len, opK_abs, opK_int, opK_str, opK_isi, opK_max, opK_min, opK_sum, opK_all, opK_any, opK_idx_str, opK_idx_scr, opK_idx_lst, opK_idx_tup, opK_idx_dic, opK_idx_lkd, opK_get, opK_slc_s01, opK_slc_s10, opK_slc_s11, opK_slc_l01, opK_slc_l10, opK_slc_l11, opK_list, opK_tupl, opK_sortd, kidL_v, kidL_s, kidLs_t, kidLs_f, frz_lst, frz_tup, frz_dic, frz_int, frz_str, frz_bl, frz_non, frz_scr, frzs_nil, frzs_cons, frzs_int, frzs_str, frzs_bl, shrs_int, shrs_str, clns_int, clns_str, frzs_rows, shrs_rows, clns_rows, frzs_app, shrs_app, clns_app, itSeq_L, itSeq_T, itSeq_S, itSeq_K, itTpl_v, itTpl_s, itTpl_f, itTpl_tF, itTpl_tT, itStr_v, itStr_ss, itKey_s, itKey_t, itFrz_v, itFrz_s, itFrz_f, itFrz_tF, itFrz_tT, finF_rt, finF_nx, finS_eq, outS_nil, outS, argS, varRun, pthRun, dspRun, mvV, shr, cln, shrs, clns, catRun, mutsOf, noDup, lent, frzO, setOuts, wipeL, backL, tgs, backOk, mT, aS, aSs, simpEs, simp1, setO, sub_one, mutT, LINE_eq, sop, bAdd, bSub, bMul_h, bMul, bDiv_h, bDiv, bMod, bPow, bShl, bShr, bAnd, bOr, bXor, cEq_i, cEq_s, cEq_b, cNe_i, cNe_s, cEq_go, cNe_go, cLt_i, cLe_i, cGt_i, cGe_i, cLt_s, cLe_s, cGt_s, cGe_s, cIs_n, cIsN_n, cIn_L, cNin_L, eqT_int, eqT_str, eqT_bl, eqT_lst, eqT_tup, eqTs_nil, eqTs_cons, eqTs_n1, eqTs_n2, eqTs_str, eqTs_int, eqTs_rows, eqTs_nilR, any_str, idxL_one, idxL_strn, idxL_intn, idxL_row, atI_nn, signAt_nn, rng_n, rng_ab, lenS_l, lenS_t, lenS_scr, lenS_d, lenS_s, isiS, tyOf, isNon, List.map_cons, List.map_nil, List.cons_append, List.nil_append, List.replicate_succ, List.replicate_zero, List.set_cons_zero, List.set_cons_succ, List.length_cons, List.length_nil, List.getElem?_cons_zero, List.getElem?_cons_succ, List.length_map, List.length_append, List.all_cons, List.all_nil, List.contains_nil, List.contains_cons, Option.some.injEq, Nat.reduceAdd, Nat.reduceSub, Nat.reduceLeDiff, Nat.reduceBEq, Nat.reduceEqDiff, Int.reduceNeg, Int.reduceToNat, Int.reduceAdd, Int.reduceSub, Int.reduceMul, Int.reducePow, Int.reduceLT, Int.reduceLE, Int.reduceEq, Int.reduceNe, String.reduceEq, if_true, if_false, reduceIte, reduceCtorEq, ne_eq, not_false_eq_true, implies_true, BEq.rfl, beq_self_eq_true, Bool.false_eq_true, Bool.true_eq_false, Bool.or_false, Bool.false_or, Bool.or_true, Bool.true_or, Bool.and_true, Bool.true_and, Bool.and_false, Bool.false_and, Bool.not_true, Bool.not_false, Bool.not_not, and_true, true_and, and_false, false_and, or_true, true_or, or_false, false_or, decide_true, decide_false, id_eq, evq_cst, evo_cst, mv_cst, mvr_cst, evq_op, evo_op, mv_op, mvr_op, evq_lst, evo_lst, mv_lst, evq_tup, evo_tup, mv_tup, evq_dic, evo_dic, mv_dic, mvr_dic, evq_dit0, evo_dit0, mv_dit0, mvr_dit0, evq_call, evo_call, mv_call, mvr_call, evq_and, evo_and, mv_and, mvr_and, evq_or, evo_or, mv_or, mvr_or, evq_not, evo_not, mv_not, mvr_not, evq_ite, evo_ite, mv_ite, mvr_ite, evq_chain, evo_chain, mv_chain, mvr_chain, evq_comp, evo_comp, mv_comp, mvr_comp, evq_srtk, evo_srtk, mv_srtk, mvr_srtk, evq_pop, evo_pop, mv_pop, mvr_pop, mv_pth, mvr_pth, sortL_str, sortL_s, sortT_str, mkS_one, mkS_len, mkS_app, slcS_hi, slcS_lo, bSMul_mk, bSAdd_mk, signAt_mk, lenS_mk, and_1, big_no, List.length_range, Out.bind_ok, filter_tt, Int.toNat_natCast, ite_le, ite_lt, app_str, opK_catT, opK_listT, opK_srtset, kidT_v, kidT_s, kidTs_t, kidTs_f, catTRun, sortSetL, frz_dit, isLkd_non, isLkd_bl, isLkd_int, isLkd_str, isLkd_lst, isLkd_tup, isLkd_dic, isLkd_dit, isLkd_lkd, isLkd_scr, isOwn_non, isOwn_bl, isOwn_int, isOwn_str, isOwn_lst, isOwn_tup, isOwn_dic, isOwn_dit, isOwn_lkd, isOwn_scr, ite_self, strsOf_map, true_imp_iff, false_imp_iff, slcL, cutT_hi, cutT_lo, take_map, drop_map, Int.cast_ofNat_Int, ev_lend, lendRun, lendA, lendBack, List.any_nil, List.any_cons, entT_two, entT_three, opK_lrng1, opK_lrng2, $[$as:term],*])
section
variable {tb : Tbl} {N d : Nat}
theorem law_k21 [D.H__law_cell_at tb] [D.H__law_big tb] [D.H__law_ends tb] [D.H__law_names_v3 tb] [D.H__law_net tb] [D.H__law_wood tb] [D.H_wood tb] [D.H_points tb] [D.H_heaps_of tb] [D.H_pieces tb] [D.H_law_v19 tb] (ss : List Int) :
    run tb N (d + 4) "law" [.scr ss] = .ok (.bl true) [] := by
  refine wf_eq (wf_in (us := [.scr ss]) rfl rfl (by ktf_call [D.b_law_v19, D.b_law_v19_1, frzs_tieF, isDic_l]) ?_)
  ktf_call [D.b_law_v19, D.b_law_v19_1, frzs_tieF, isDic_l]
  refine wx_call (net_ok (tb := tb) (d := d) ss 1 (by omega) (by omega)) ?_
  rintro r o ⟨net, rfl, rfl, hl, hs, hN⟩
  have fz := frzs_tieF net
  have cw := law_wood_ok (tb := tb) (N := N) (d := d + 2) true (net.map tieF) net fz hl
  have cv := fun o => wood_ok (tb := tb) (N := N) (d := d + 2) o (net.map tieF) net fz hl fun n hn => ⟨(hN n hn).2.1, (hN n hn).2.2.1⟩
  have cp := fun o => points_ok (tb := tb) (N := N) (d := d + 2) o (net.map tieF) net fz hl
  have hd : deps (net.map tieF) ≤ 59 := deps_map fun x _ => dep_tup2 (deps_cons (dep_s _ _) (deps_cons (dep_s _ _) (deps_cons (dep_s _ _) (deps_nil _)))) (by decide)
  have ee := eqTs_refl (net.map tieF) (by omega)
  have wl : (woodL net).length ≤ 12 := Nat.le_trans (woodR_len _ _) hl
  have sl : (strSet (ends2 net)).length = (uniqS (ends2 net)).length := (strSort_perm _).length_eq
  ktf_call [D.b_law_v19, D.b_law_v19_1, frzs_tieF, isDic_l, cw]
  refine wx_forT (fun pre L => ∃ (f : Bool) (x4 x5 : Option T), L = [some (.scr ss), some (.lst true (net.map tieF)), some (.lst f (net.map tieF)), some (.lst true ((woodL net).map T.str)), x4, x5]) ⟨true, _, _, rfl⟩ ?_ ?_
  · rintro pre t0 post L e ⟨f, x4, x5, rfl⟩
    refine ⟨_, rfl, ?_⟩
    have rl : ((woodL net).map T.str).reverse.length < 16777216 := by rw [List.length_reverse, List.length_map]; omega
    cases f with
    | false =>
      ktf_call [D.b_law_v19, D.b_law_v19_1, frzs_tieF, isDic_l, cv, ee, cp]
      refine wx_call (pieces_ok (tb := tb) (d := d + 1) _ (net.map tieF) net fz hl) ?_
      rintro r o ⟨rs, rfl, rfl, hc⟩
      have hz : decide (((woodL net).length : Int) = (strSet (ends2 net)).length - rs.length) = true := decide_eq_true (by rw [sl, hc]; omega)
      ktf_call [D.b_law_v19, D.b_law_v19_1, frzs_tieF, isDic_l, hz, rl]
      exact ⟨_, _, _, rfl⟩
    | true =>
      ktf_call [D.b_law_v19, D.b_law_v19_1, frzs_tieF, isDic_l, cv, ee, cp]
      refine wx_call (pieces_ok (tb := tb) (d := d + 1) _ (net.map tieF) net fz hl) ?_
      rintro r o ⟨rs, rfl, rfl, hc⟩
      have hz : decide (((woodL net).length : Int) = (strSet (ends2 net)).length - rs.length) = true := decide_eq_true (by rw [sl, hc]; omega)
      ktf_call [D.b_law_v19, D.b_law_v19_1, frzs_tieF, isDic_l]
      refine wx_mono (Q' := fun t L => t = T.lst true rs ∧ ∃ g, L = [some (.scr ss), some (.lst true (net.map tieF)), some (.lst g (net.map tieF)), some (.lst true ((woodL net).map T.str)), some t0, some (.lst true ((woodL net).map T.str))]) ?_ ?_
      · split <;> (rw [wx_ok]; exact ⟨rfl, _, rfl⟩)
      · rintro t L ⟨rfl, g, rfl⟩
        ktf_call [D.b_law_v19, D.b_law_v19_1, frzs_tieF, isDic_l, hz, rl]
        exact ⟨_, _, _, rfl⟩
  · rintro L ⟨f, x4, x5, rfl⟩
    ktf_call [D.b_law_v19, D.b_law_v19_1, frzs_tieF, isDic_l, ee]
end
end TV

set_option Elab.async false
set_option linter.all false
set_option maxRecDepth 100000
set_option maxHeartbeats 4000000
namespace K21
open PySem PySem.Spec PyProof.Rows L2 TV
def topS (i : Nat) : Stmt := PySem.Challenge.pw_roundsalone_k21_woods.main.body.getD i (.Pass ⟨0, 0, 0, 0⟩)
def bs : List Str := ["len", "abs", "any", "list", "range", "isinstance", "tuple", "sorted", "set", "zip"]
def cs : List (Str × T) := []
def fs : List (Str × String) := [("wood", "wood"), ("points", "points"), ("heaps_of", "heaps_of"), ("pieces", "pieces"), ("_law_cell_at", "_law_cell_at"), ("_law_big", "_law_big"), ("_law_names", "_law_names"), ("_law_ends", "_law_ends"), ("_law_net", "_law_net"), ("_law_wood", "_law_wood"), ("law", "law")]
abbrev f_wood : Fn := ⟨1, 9, [], D.b_wood⟩
def n_wood : List Str := ["net", "heap_of", "found", "name", "one", "other", "here", "there", "point"]
theorem k_wood : FnChk ⟨n_wood, bs, cs, fs⟩ (defScope (topS 1)) ["net"] (defBody (topS 1)) f_wood := ⟨rfl, rfl, by decide, by decide +kernel, 30, 30, by decide +kernel⟩
abbrev f_points : Fn := ⟨1, 2, [], D.b_points⟩
def n_points : List Str := ["net", "tie"]
theorem k_points : FnChk ⟨n_points, bs, cs, fs⟩ (defScope (topS 3)) ["net"] (defBody (topS 3)) f_points := ⟨rfl, rfl, by decide, by decide +kernel, 30, 30, by decide +kernel⟩
abbrev f_heaps_of : Fn := ⟨2, 9, [], D.b_heaps_of⟩
def n_heaps_of : List Str := ["net", "names", "heaps", "name", "one", "other", "joined", "others", "heap"]
theorem k_heaps_of : FnChk ⟨n_heaps_of, bs, cs, fs⟩ (defScope (topS 4)) ["net", "names"] (defBody (topS 4)) f_heaps_of := ⟨rfl, rfl, by decide, by decide +kernel, 30, 30, by decide +kernel⟩
abbrev f_pieces : Fn := ⟨1, 4, [], D.b_pieces⟩
def n_pieces : List Str := ["net", "names", "tie", "heap"]
theorem k_pieces : FnChk ⟨n_pieces, bs, cs, fs⟩ (defScope (topS 5)) ["net"] (defBody (topS 5)) f_pieces := ⟨rfl, rfl, by decide, by decide +kernel, 30, 30, by decide +kernel⟩
abbrev f__law_cell_at : Fn := ⟨2, 2, [], D.b__law_cell_at⟩
def n__law_cell_at : List Str := ["_law_script", "_law_k"]
theorem k__law_cell_at : FnChk ⟨n__law_cell_at, bs, cs, fs⟩ (defScope (topS 7)) ["_law_script", "_law_k"] (defBody (topS 7)) f__law_cell_at := ⟨rfl, rfl, by decide, by decide +kernel, 30, 30, by decide +kernel⟩
abbrev f__law_big : Fn := ⟨2, 5, [], D.b__law_big⟩
def n__law_big : List Str := ["_law_script", "_law_k", "_law_x", "_law_total", "_law_j"]
theorem k__law_big : FnChk ⟨n__law_big, bs, cs, fs⟩ (defScope (topS 8)) ["_law_script", "_law_k"] (defBody (topS 8)) f__law_big := ⟨rfl, rfl, by decide, by decide +kernel, 30, 30, by decide +kernel⟩
abbrev f__law_names : Fn := ⟨2, 9, [], D.b__law_names_v3⟩
def n__law_names : List Str := ["_law_big_here", "_law_many", "_law_signs", "_law_word", "_law_k", "_law_spot", "_law_first", "_law_head", "_law_tail"]
theorem k__law_names : FnChk ⟨n__law_names, bs, cs, fs⟩ (defScope (topS 9)) ["_law_big_here", "_law_many"] (defBody (topS 9)) f__law_names := ⟨rfl, rfl, by decide, by decide +kernel, 30, 30, by decide +kernel⟩
abbrev f__law_ends : Fn := ⟨3, 11, [], D.b__law_ends⟩
def n__law_ends : List Str := ["_law_big_here", "_law_many", "_law_spread", "_law_heaps", "_law_found", "_law_high", "_law_k", "_law_one", "_law_other", "_law_gone", "_law_heap"]
theorem k__law_ends : FnChk ⟨n__law_ends, bs, cs, fs⟩ (defScope (topS 10)) ["_law_big_here", "_law_many", "_law_spread"] (defBody (topS 10)) f__law_ends := ⟨rfl, rfl, by decide, by decide +kernel, 30, 30, by decide +kernel⟩
abbrev f__law_net : Fn := ⟨2, 9, [], D.b__law_net⟩
def n__law_net : List Str := ["_law_script", "_law_at", "_law_head", "_law_ends_here", "_law_ties", "_law_knots", "_law_net_here", "_law_tie", "_law_two"]
theorem k__law_net : FnChk ⟨n__law_net, bs, cs, fs⟩ (defScope (topS 11)) ["_law_script", "_law_at"] (defBody (topS 11)) f__law_net := ⟨rfl, rfl, by decide, by decide +kernel, 30, 30, by decide +kernel⟩
abbrev f__law_wood : Fn := ⟨1, 9, [], D.b__law_wood⟩
def n__law_wood : List Str := ["_law_net_here", "_law_found", "_law_heaps", "_law_name", "_law_one", "_law_other", "_law_mine", "_law_heap", "_law_both"]
theorem k__law_wood : FnChk ⟨n__law_wood, bs, cs, fs⟩ (defScope (topS 12)) ["_law_net_here"] (defBody (topS 12)) f__law_wood := ⟨rfl, rfl, by decide, by decide +kernel, 30, 30, by decide +kernel⟩
abbrev f_law : Fn := ⟨1, 6, [], D.b_law_v19⟩
def n_law : List Str := ["_law_script", "_law_net_here", "_law_handed", "_law_due", "_law_k", "_law_found"]
theorem k_law : FnChk ⟨n_law, bs, cs, fs⟩ (defScope (topS 13)) ["_law_script"] (defBody (topS 13)) f_law := ⟨rfl, rfl, by decide, by decide +kernel, 30, 30, by decide +kernel⟩
def tb : Tbl := [("wood", f_wood), ("points", f_points), ("heaps_of", f_heaps_of), ("pieces", f_pieces), ("_law_cell_at", f__law_cell_at), ("_law_big", f__law_big), ("_law_names", f__law_names), ("_law_ends", f__law_ends), ("_law_net", f__law_net), ("_law_wood", f__law_wood), ("law", f_law)]
instance i_wood : D.H_wood tb := ⟨rfl⟩
instance i_points : D.H_points tb := ⟨rfl⟩
instance i_heaps_of : D.H_heaps_of tb := ⟨rfl⟩
instance i_pieces : D.H_pieces tb := ⟨rfl⟩
instance i__law_cell_at : D.H__law_cell_at tb := ⟨rfl⟩
instance i__law_big : D.H__law_big tb := ⟨rfl⟩
instance i__law_names : D.H__law_names_v3 tb := ⟨rfl⟩
instance i__law_ends : D.H__law_ends tb := ⟨rfl⟩
instance i__law_net : D.H__law_net tb := ⟨rfl⟩
instance i__law_wood : D.H__law_wood tb := ⟨rfl⟩
instance i_law : D.H_law_v19 tb := ⟨rfl⟩
def depth : Nat := 4
theorem all_mk {l : PySem.W.OpenLaw} {w : World} {K : PySem.W.Frag} {h : Heap} {mg : Str → Option Value} {fa : Addr} (X : K.In h) (G : h.Ns mainGlobals mg) (hfa : mg "law" = some (.ref fa))
    {f0 : Addr} {od0 an0 : Option Addr} {sl0 : Array (Option Value)} {oc0 kV0 dc0 pm0 cd0 ct0 : Value}
    {f1 : Addr} {od1 an1 : Option Addr} {sl1 : Array (Option Value)} {oc1 kV1 dc1 pm1 cd1 ct1 : Value}
    {f2 : Addr} {od2 an2 : Option Addr} {sl2 : Array (Option Value)} {oc2 kV2 dc2 pm2 cd2 ct2 : Value}
    {f3 : Addr} {od3 an3 : Option Addr} {sl3 : Array (Option Value)} {oc3 kV3 dc3 pm3 cd3 ct3 : Value}
    {f4 : Addr} {od4 an4 : Option Addr} {sl4 : Array (Option Value)} {oc4 kV4 dc4 pm4 cd4 ct4 : Value}
    {f5 : Addr} {od5 an5 : Option Addr} {sl5 : Array (Option Value)} {oc5 kV5 dc5 pm5 cd5 ct5 : Value}
    {f6 : Addr} {od6 an6 : Option Addr} {sl6 : Array (Option Value)} {oc6 kV6 dc6 pm6 cd6 ct6 : Value}
    {f7 : Addr} {od7 an7 : Option Addr} {sl7 : Array (Option Value)} {oc7 kV7 dc7 pm7 cd7 ct7 : Value}
    {f8 : Addr} {od8 an8 : Option Addr} {sl8 : Array (Option Value)} {oc8 kV8 dc8 pm8 cd8 ct8 : Value}
    {f9 : Addr} {od9 an9 : Option Addr} {sl9 : Array (Option Value)} {oc9 kV9 dc9 pm9 cd9 ct9 : Value}
    {f10 : Addr} {od10 an10 : Option Addr} {sl10 : Array (Option Value)} {oc10 kV10 dc10 pm10 cd10 ct10 : Value}
    (a0 : PySem.W.nsIn K mainGlobals "wood" = some (some (.ref f0))) (l0 : K.lookup f0 = some ⟨oc0, od0, .func (PySem.W.fnOf "wood" "wood" (defArgs (topS 1)) (defBody (topS 1)) (defScope (topS 1)) .none kV0 dc0 pm0 an0 cd0 ct0), sl0⟩) (c0 : PySem.W.codeIn K cd0 "wood" = true) (k0 : PySem.W.keepIn K (.ref f0) = true)
    (a1 : PySem.W.nsIn K mainGlobals "points" = some (some (.ref f1))) (l1 : K.lookup f1 = some ⟨oc1, od1, .func (PySem.W.fnOf "points" "points" (defArgs (topS 3)) (defBody (topS 3)) (defScope (topS 3)) .none kV1 dc1 pm1 an1 cd1 ct1), sl1⟩) (c1 : PySem.W.codeIn K cd1 "points" = true) (k1 : PySem.W.keepIn K (.ref f1) = true)
    (a2 : PySem.W.nsIn K mainGlobals "heaps_of" = some (some (.ref f2))) (l2 : K.lookup f2 = some ⟨oc2, od2, .func (PySem.W.fnOf "heaps_of" "heaps_of" (defArgs (topS 4)) (defBody (topS 4)) (defScope (topS 4)) .none kV2 dc2 pm2 an2 cd2 ct2), sl2⟩) (c2 : PySem.W.codeIn K cd2 "heaps_of" = true) (k2 : PySem.W.keepIn K (.ref f2) = true)
    (a3 : PySem.W.nsIn K mainGlobals "pieces" = some (some (.ref f3))) (l3 : K.lookup f3 = some ⟨oc3, od3, .func (PySem.W.fnOf "pieces" "pieces" (defArgs (topS 5)) (defBody (topS 5)) (defScope (topS 5)) .none kV3 dc3 pm3 an3 cd3 ct3), sl3⟩) (c3 : PySem.W.codeIn K cd3 "pieces" = true) (k3 : PySem.W.keepIn K (.ref f3) = true)
    (a4 : PySem.W.nsIn K mainGlobals "_law_cell_at" = some (some (.ref f4))) (l4 : K.lookup f4 = some ⟨oc4, od4, .func (PySem.W.fnOf "_law_cell_at" "_law_cell_at" (defArgs (topS 7)) (defBody (topS 7)) (defScope (topS 7)) .none kV4 dc4 pm4 an4 cd4 ct4), sl4⟩) (c4 : PySem.W.codeIn K cd4 "_law_cell_at" = true) (k4 : PySem.W.keepIn K (.ref f4) = true)
    (a5 : PySem.W.nsIn K mainGlobals "_law_big" = some (some (.ref f5))) (l5 : K.lookup f5 = some ⟨oc5, od5, .func (PySem.W.fnOf "_law_big" "_law_big" (defArgs (topS 8)) (defBody (topS 8)) (defScope (topS 8)) .none kV5 dc5 pm5 an5 cd5 ct5), sl5⟩) (c5 : PySem.W.codeIn K cd5 "_law_big" = true) (k5 : PySem.W.keepIn K (.ref f5) = true)
    (a6 : PySem.W.nsIn K mainGlobals "_law_names" = some (some (.ref f6))) (l6 : K.lookup f6 = some ⟨oc6, od6, .func (PySem.W.fnOf "_law_names" "_law_names" (defArgs (topS 9)) (defBody (topS 9)) (defScope (topS 9)) .none kV6 dc6 pm6 an6 cd6 ct6), sl6⟩) (c6 : PySem.W.codeIn K cd6 "_law_names" = true) (k6 : PySem.W.keepIn K (.ref f6) = true)
    (a7 : PySem.W.nsIn K mainGlobals "_law_ends" = some (some (.ref f7))) (l7 : K.lookup f7 = some ⟨oc7, od7, .func (PySem.W.fnOf "_law_ends" "_law_ends" (defArgs (topS 10)) (defBody (topS 10)) (defScope (topS 10)) .none kV7 dc7 pm7 an7 cd7 ct7), sl7⟩) (c7 : PySem.W.codeIn K cd7 "_law_ends" = true) (k7 : PySem.W.keepIn K (.ref f7) = true)
    (a8 : PySem.W.nsIn K mainGlobals "_law_net" = some (some (.ref f8))) (l8 : K.lookup f8 = some ⟨oc8, od8, .func (PySem.W.fnOf "_law_net" "_law_net" (defArgs (topS 11)) (defBody (topS 11)) (defScope (topS 11)) .none kV8 dc8 pm8 an8 cd8 ct8), sl8⟩) (c8 : PySem.W.codeIn K cd8 "_law_net" = true) (k8 : PySem.W.keepIn K (.ref f8) = true)
    (a9 : PySem.W.nsIn K mainGlobals "_law_wood" = some (some (.ref f9))) (l9 : K.lookup f9 = some ⟨oc9, od9, .func (PySem.W.fnOf "_law_wood" "_law_wood" (defArgs (topS 12)) (defBody (topS 12)) (defScope (topS 12)) .none kV9 dc9 pm9 an9 cd9 ct9), sl9⟩) (c9 : PySem.W.codeIn K cd9 "_law_wood" = true) (k9 : PySem.W.keepIn K (.ref f9) = true)
    (a10 : PySem.W.nsIn K mainGlobals "law" = some (some (.ref f10))) (l10 : K.lookup f10 = some ⟨oc10, od10, .func (PySem.W.fnOf "law" "law" (defArgs (topS 13)) (defBody (topS 13)) (defScope (topS 13)) .none kV10 dc10 pm10 an10 cd10 ct10), sl10⟩) (c10 : PySem.W.codeIn K cd10 "law" = true) (k10 : PySem.W.keepIn K (.ref f10) = true)
    (z0 : PySem.W.nsIn K mainGlobals "len" = some none)
    (z1 : PySem.W.nsIn K mainGlobals "abs" = some none)
    (z2 : PySem.W.nsIn K mainGlobals "any" = some none)
    (z3 : PySem.W.nsIn K mainGlobals "list" = some none)
    (z4 : PySem.W.nsIn K mainGlobals "range" = some none)
    (z5 : PySem.W.nsIn K mainGlobals "isinstance" = some none)
    (z6 : PySem.W.nsIn K mainGlobals "tuple" = some none)
    (z7 : PySem.W.nsIn K mainGlobals "sorted" = some none)
    (z8 : PySem.W.nsIn K mainGlobals "set" = some none)
    (z9 : PySem.W.nsIn K mainGlobals "zip" = some none)
    (hl : ∀ ns : List Int, ns.length ≤ 63 → (∀ z ∈ ns, Builtin.Int.intBits z ≤ 1048576) → run tb 100000 depth "law" [.scr ns] = .ok (.bl true) []) :
    ∃ fd : FuncData, (∀ (s : Shared) (v : Value), BindsTo s fd ⟨[v], []⟩ [("_law_script", v)]) ∧ ∀ base : Heap, K.In base → base.Ns mainGlobals mg → FnOk l.prog w K mg base (L2.CX l.prog w) depth fa fd ["_law_script"] (spLaw K 63) := by
  have e := hfa.symm.trans (PySem.W.mg_of X G a10)
  cases e
  have F0 := fun_mk (st := topS 1) l0 c0 k0
  have B0 := F0.binds (ps := ["net"]) fun _ _ _ _ _ _ us hl => match us, hl with | [_], _ => rfl
  have F1 := fun_mk (st := topS 3) l1 c1 k1
  have B1 := F1.binds (ps := ["net"]) fun _ _ _ _ _ _ us hl => match us, hl with | [_], _ => rfl
  have F2 := fun_mk (st := topS 4) l2 c2 k2
  have B2 := F2.binds (ps := ["net", "names"]) fun _ _ _ _ _ _ us hl => match us, hl with | [_, _], _ => rfl
  have F3 := fun_mk (st := topS 5) l3 c3 k3
  have B3 := F3.binds (ps := ["net"]) fun _ _ _ _ _ _ us hl => match us, hl with | [_], _ => rfl
  have F4 := fun_mk (st := topS 7) l4 c4 k4
  have B4 := F4.binds (ps := ["_law_script", "_law_k"]) fun _ _ _ _ _ _ us hl => match us, hl with | [_, _], _ => rfl
  have F5 := fun_mk (st := topS 8) l5 c5 k5
  have B5 := F5.binds (ps := ["_law_script", "_law_k"]) fun _ _ _ _ _ _ us hl => match us, hl with | [_, _], _ => rfl
  have F6 := fun_mk (st := topS 9) l6 c6 k6
  have B6 := F6.binds (ps := ["_law_big_here", "_law_many"]) fun _ _ _ _ _ _ us hl => match us, hl with | [_, _], _ => rfl
  have F7 := fun_mk (st := topS 10) l7 c7 k7
  have B7 := F7.binds (ps := ["_law_big_here", "_law_many", "_law_spread"]) fun _ _ _ _ _ _ us hl => match us, hl with | [_, _, _], _ => rfl
  have F8 := fun_mk (st := topS 11) l8 c8 k8
  have B8 := F8.binds (ps := ["_law_script", "_law_at"]) fun _ _ _ _ _ _ us hl => match us, hl with | [_, _], _ => rfl
  have F9 := fun_mk (st := topS 12) l9 c9 k9
  have B9 := F9.binds (ps := ["_law_net_here"]) fun _ _ _ _ _ _ us hl => match us, hl with | [_], _ => rfl
  have F10 := fun_mk (st := topS 13) l10 c10 k10
  have B10 := F10.binds (ps := ["_law_script"]) fun _ _ _ _ _ _ us hl => match us, hl with | [_], _ => rfl
  have D0 : ∃ fa fd ps, DefAt K mg bs cs fs tb "wood" "wood" fa fd ps := ⟨_, _, ["net"], PySem.W.mg_of X G a0, k0, B0, _, _, _, _, _, F0, rfl, k_wood⟩
  have D1 : ∃ fa fd ps, DefAt K mg bs cs fs tb "points" "points" fa fd ps := ⟨_, _, ["net"], PySem.W.mg_of X G a1, k1, B1, _, _, _, _, _, F1, rfl, k_points⟩
  have D2 : ∃ fa fd ps, DefAt K mg bs cs fs tb "heaps_of" "heaps_of" fa fd ps := ⟨_, _, ["net", "names"], PySem.W.mg_of X G a2, k2, B2, _, _, _, _, _, F2, rfl, k_heaps_of⟩
  have D3 : ∃ fa fd ps, DefAt K mg bs cs fs tb "pieces" "pieces" fa fd ps := ⟨_, _, ["net"], PySem.W.mg_of X G a3, k3, B3, _, _, _, _, _, F3, rfl, k_pieces⟩
  have D4 : ∃ fa fd ps, DefAt K mg bs cs fs tb "_law_cell_at" "_law_cell_at" fa fd ps := ⟨_, _, ["_law_script", "_law_k"], PySem.W.mg_of X G a4, k4, B4, _, _, _, _, _, F4, rfl, k__law_cell_at⟩
  have D5 : ∃ fa fd ps, DefAt K mg bs cs fs tb "_law_big" "_law_big" fa fd ps := ⟨_, _, ["_law_script", "_law_k"], PySem.W.mg_of X G a5, k5, B5, _, _, _, _, _, F5, rfl, k__law_big⟩
  have D6 : ∃ fa fd ps, DefAt K mg bs cs fs tb "_law_names" "_law_names" fa fd ps := ⟨_, _, ["_law_big_here", "_law_many"], PySem.W.mg_of X G a6, k6, B6, _, _, _, _, _, F6, rfl, k__law_names⟩
  have D7 : ∃ fa fd ps, DefAt K mg bs cs fs tb "_law_ends" "_law_ends" fa fd ps := ⟨_, _, ["_law_big_here", "_law_many", "_law_spread"], PySem.W.mg_of X G a7, k7, B7, _, _, _, _, _, F7, rfl, k__law_ends⟩
  have D8 : ∃ fa fd ps, DefAt K mg bs cs fs tb "_law_net" "_law_net" fa fd ps := ⟨_, _, ["_law_script", "_law_at"], PySem.W.mg_of X G a8, k8, B8, _, _, _, _, _, F8, rfl, k__law_net⟩
  have D9 : ∃ fa fd ps, DefAt K mg bs cs fs tb "_law_wood" "_law_wood" fa fd ps := ⟨_, _, ["_law_net_here"], PySem.W.mg_of X G a9, k9, B9, _, _, _, _, _, F9, rfl, k__law_wood⟩
  have D10 : ∃ fa fd ps, DefAt K mg bs cs fs tb "law" "law" fa fd ps := ⟨_, _, ["_law_script"], PySem.W.mg_of X G a10, k10, B10, _, _, _, _, _, F10, rfl, k_law⟩
  have hd : ∀ x key, fs.lookup x = some key → ∃ fa fd ps, DefAt K mg bs cs fs tb x key fa fd ps := lk_cons D0 (lk_cons D1 (lk_cons D2 (lk_cons D3 (lk_cons D4 (lk_cons D5 (lk_cons D6 (lk_cons D7 (lk_cons D8 (lk_cons D9 (lk_cons D10 (lk_nil)))))))))))
  have gb : ∀ x ∈ bs, mg x = none := al_cons (PySem.W.mg_none_of X G z0) (al_cons (PySem.W.mg_none_of X G z1) (al_cons (PySem.W.mg_none_of X G z2) (al_cons (PySem.W.mg_none_of X G z3) (al_cons (PySem.W.mg_none_of X G z4) (al_cons (PySem.W.mg_none_of X G z5) (al_cons (PySem.W.mg_none_of X G z6) (al_cons (PySem.W.mg_none_of X G z7) (al_cons (PySem.W.mg_none_of X G z8) (al_cons (PySem.W.mg_none_of X G z9) (al_nil))))))))))
  have gc : ∀ x c, cs.lookup x = some c → ∃ v u, mg x = some u ∧ L2.RelV v u ∧ ∀ H Z, RepO K H Z c v [] := lk_nil
  exact ⟨_, fun s v => .of_eq rfl, fun base _ _ => FnOk.to (level_ok (Nf := 100000) gb gc hd depth "law" "law" (by decide +kernel) _ _ ["_law_script"] ⟨PySem.W.mg_of X G a10, k10, B10, _, _, _, _, _, F10, rfl, k_law⟩) fun vs H Q E q => law_sp hl vs H Q E q⟩

theorem hl : ∀ ns : List Int, ns.length ≤ 63 → (∀ z ∈ ns, Builtin.Int.intBits z ≤ 1048576) → run tb 100000 depth "law" [.scr ns] = .ok (.bl true) [] := fun ns _ _ => TV.law_k21 (d := 0) ns
end K21
open PySem PySem.W PyProof.Rows
set_option maxHeartbeats 0 in
theorem PySem.Challenge.cw_roundsalone_k21_woods_holds : PySem.Challenge.rw_roundsalone_k21_woods.Holds := by
  w_on; o_law; k_head; (case hw => w_witness2)
  k_fill
  refine L2.walk_ofB (l := PySem.Challenge.rw_roundsalone_k21_woods) (n := 63) (k := K21.depth) (x := "_law_script") (CX := fun w => L2.CX PySem.Challenge.rw_roundsalone_k21_woods.prog w) (sp := fun w => TV.spLaw _ 63) rfl (by decide) rfl ⟨rfl, by decide, by decide⟩ (fun w h Y => PySem.W.kIn_of Y) ?F (fun _ _ a ns hl hb hO hS => ⟨a, ns, rfl, hS, hO, hl, hb, fun _ => rfl⟩) TV.cx_no
  case F =>
    intro w mg fa h KX G hmg
    refine' K21.all_mk KX G hmg ?a0 ?l0 ?c0 ?k0 ?a1 ?l1 ?c1 ?k1 ?a2 ?l2 ?c2 ?k2 ?a3 ?l3 ?c3 ?k3 ?a4 ?l4 ?c4 ?k4 ?a5 ?l5 ?c5 ?k5 ?a6 ?l6 ?c6 ?k6 ?a7 ?l7 ?c7 ?k7 ?a8 ?l8 ?c8 ?k8 ?a9 ?l9 ?c9 ?k9 ?a10 ?l10 ?c10 ?k10 ?z0 ?z1 ?z2 ?z3 ?z4 ?z5 ?z6 ?z7 ?z8 ?z9 K21.hl
    (case a0 => k_is); (case l0 => k_is); (case c0 => k_is); (case k0 => k_is); (case a1 => k_is); (case l1 => k_is); (case c1 => k_is); (case k1 => k_is); (case a2 => k_is); (case l2 => k_is); (case c2 => k_is); (case k2 => k_is); (case a3 => k_is); (case l3 => k_is); (case c3 => k_is); (case k3 => k_is); (case a4 => k_is); (case l4 => k_is); (case c4 => k_is); (case k4 => k_is); (case a5 => k_is); (case l5 => k_is); (case c5 => k_is); (case k5 => k_is); (case a6 => k_is); (case l6 => k_is); (case c6 => k_is); (case k6 => k_is); (case a7 => k_is); (case l7 => k_is); (case c7 => k_is); (case k7 => k_is); (case a8 => k_is); (case l8 => k_is); (case c8 => k_is); (case k8 => k_is); (case a9 => k_is); (case l9 => k_is); (case c9 => k_is); (case k9 => k_is); (case a10 => k_is); (case l10 => k_is); (case c10 => k_is); (case k10 => k_is); (case z0 => k_is); (case z1 => k_is); (case z2 => k_is); (case z3 => k_is); (case z4 => k_is); (case z5 => k_is); (case z6 => k_is); (case z7 => k_is); (case z8 => k_is); (case z9 => k_is)

