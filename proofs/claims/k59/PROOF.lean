import PyProof.Rows.All
import Wide.All
import OpenK.AllK
import Wide.FinOn
import HandS.ForMost
import HandS.Steps
import HandS.Wide
import HandS.Deep
import HandS.TupAny
import HandS.IsInst
import HandS.SortInts
import HandS.Gcd
import KE.KSortedM
import HandS.Style
import KE.DatumOrd
import HandS.SortKw
import HandS.Zip
import HandS.TryOnly
import HandS.ExcCtx
import HandS.ExcInit
import HandS.HotCalls
import HandS.ExcField
import KE.KExcIs
import HandS.Conv
import HandS.RevRange
import HandS.Defaults
import HandS.Head3
import HandS.Head0
import HandS.Head1
import HandS.Head2
import HandS.HeadEnd
import HandS.HeadHook1
import HandS.HeadHook2
import PySem.Challenge.RW_daybooktold_k59_hours_checked_and_earlie
set_option Elab.async false
set_option linter.all false
set_option maxRecDepth 100000
set_option maxHeartbeats 0
set_option synthInstance.maxHeartbeats 400000
set_option synthInstance.maxSize 100000
namespace VI
open PySem PySem.Spec PyProof.Rows L2

/-- a Python value as a tree -/
inductive PV where
  | non | bl (b : Bool) | int (i : Int) | str (s : Str) | tup (xs : List PV) | lst (xs : List PV)
  | dk (ks : List Key) (vs : List PV) | dt (ks : List (List Key)) (vs : List PV)
  | ty (n : String)
  /-- the script: a list that is read alone -/
  | scr (xs : List PV)
  /-- an exception that is in the air: its class's number, its fields -/
  | exn (c : Nat) (ns : List Str) (vs : List PV)
  /-- an exception that is handled: its place, its dict's -/
  | exr (a d : Addr) (c : Nat) (ns : List Str) (vs : List PV)

/-- a plain value -/
def scV : PV → V
  | .bl b => .bl b
  | .int i => .int i
  | .str s => .str s
  | _ => .non
def xdV (ns : List Str) (vs : List PV) : List (Str × V) := ns.zip (vs.map scV)

def KLst (K : PySem.W.Frag) (a : Addr) (xs : List V) : Prop :=
  ∃ (o : Obj) (its : Array Value) (n : Nat), K.lookup a = some o ∧ o.cls = .type "list" ∧ o.dict = none ∧ o.data = .seq its n ∧ its.size ≤ sizeLine ∧ Vals xs its.toList
def KTup (K : PySem.W.Frag) (a : Addr) (xs : List V) : Prop :=
  ∃ (o : Obj) (its : Array Value) (n : Nat), K.lookup a = some o ∧ o.cls = .type "tuple" ∧ o.data = .seq its n ∧ its.size ≤ sizeLine ∧ Vals xs its.toList
def LstAt (K : PySem.W.Frag) (H : Hp) (O : Addr → Prop) (a : Addr) (ys : List V) : Prop := (Rd H a (.lst ys) ∧ ¬ O a) ∨ KLst K a ys
def TupAt (K : PySem.W.Frag) (H : Hp) (O : Addr → Prop) (a : Addr) (ys : List V) : Prop := (Rd H a (.tup ys) ∧ ¬ O a) ∨ KTup K a ys

mutual
/-- the tree v is what x is in H; no list, dict or tuple of it stands at an address of O -/
def R (K : PySem.W.Frag) (H : Hp) (O : Addr → Prop) : PV → V → Prop
  | .non, x => x = .non
  | .bl b, x => x = .bl b
  | .int i, x => x = .int i
  | .str s, x => x = .str s
  | .ty n, x => x = .ty n
  | .tup vs, x => ∃ a ys, x = .ref a ∧ TupAt K H O a ys ∧ Rs K H O vs ys
  | .lst vs, x => ∃ a ys, x = .ref a ∧ (H a = some (.lst ys) ∧ ¬ O a) ∧ Rs K H O vs ys
  | .scr vs, x => ∃ a ys, x = .ref a ∧ LstAt K H O a ys ∧ Rs K H O vs ys
  | .exn _ _ _, _ => False
  | .exr a d _ ns vs, x => x = .ref a ∧ H d = some (.xd (xdV ns vs)) ∧ ¬ O d
  | .dk ks vs, x => ∃ a ys, x = .ref a ∧ (H a = some (.dK (ks.zip ys)) ∧ ¬ O a) ∧ ks.length = ys.length ∧ Rs K H O vs ys
  | .dt ks vs, x => ∃ a ys, x = .ref a ∧ (H a = some (.dT (ks.zip ys)) ∧ ¬ O a) ∧ ks.length = ys.length ∧ Rs K H O vs ys
def Rs (K : PySem.W.Frag) (H : Hp) (O : Addr → Prop) : List PV → List V → Prop
  | [], ys => ys = []
  | v :: vs, ys => ∃ y ys', ys = y :: ys' ∧ R K H O v y ∧ Rs K H O vs ys'
end

mutual
/-- as R, the upper n levels of lists owned: their addresses are fp -/
def RM (K : PySem.W.Frag) (H : Hp) (O : Addr → Prop) : Nat → PV → V → List Addr → Prop
  | 0, v, x, fp => fp = [] ∧ R K H O v x
  | n + 1, .lst vs, x, fp => ∃ a ys fs, x = .ref a ∧ H a = some (.lst ys) ∧ fp = a :: fs ∧ RMs K H O n vs ys fs
  | n + 1, .dk ks vs, x, fp => ∃ a ys fs, x = .ref a ∧ H a = some (.dK (ks.zip ys)) ∧ ks.length = ys.length ∧ fp = a :: fs ∧ RMs K H O n vs ys fs
  | n + 1, .dt ks vs, x, fp => ∃ a ys fs, x = .ref a ∧ H a = some (.dT (ks.zip ys)) ∧ ks.length = ys.length ∧ fp = a :: fs ∧ RMs K H O n vs ys fs
  | n + 1, .tup vs, x, fp => ∃ a ys, x = .ref a ∧ TupAt K H O a ys ∧ RMs K H O (n + 1) vs ys fp
  | _ + 1, .non, x, fp => fp = [] ∧ x = .non
  | _ + 1, .bl b, x, fp => fp = [] ∧ x = .bl b
  | _ + 1, .int i, x, fp => fp = [] ∧ x = .int i
  | _ + 1, .str s, x, fp => fp = [] ∧ x = .str s
  | _ + 1, .ty s, x, fp => fp = [] ∧ x = .ty s
  | _ + 1, .scr vs, x, fp => fp = [] ∧ R K H O (.scr vs) x
  | _ + 1, .exn _ _ _, _, _ => False
  | _ + 1, .exr a d c ns vs, x, fp => fp = [] ∧ R K H O (.exr a d c ns vs) x
def RMs (K : PySem.W.Frag) (H : Hp) (O : Addr → Prop) : Nat → List PV → List V → List Addr → Prop
  | _, [], ys, fp => ys = [] ∧ fp = []
  | n, v :: vs, ys, fp => ∃ y ys' f1 f2, ys = y :: ys' ∧ fp = f1 ++ f2 ∧ RM K H O n v y f1 ∧ RMs K H O n vs ys' f2
end


theorem RM.zero {K : PySem.W.Frag} {H : Hp} {O : Addr → Prop} {v : PV} {x : V} {fp : List Addr} : RM K H O 0 v x fp = (fp = [] ∧ R K H O v x) := by cases v <;> rfl
section
variable {K : PySem.W.Frag} {H H' : Hp} {O O' : Addr → Prop}

theorem LstAt.step (eff : ∀ b o, H b = some o → ¬ O b → H' b = some o) (hO : ∀ a, O' a → O a ∨ H a = none) {a : Addr} {ys : List V} (h : LstAt K H O a ys) : LstAt K H' O' a ys := by
  rcases h with ⟨r, n⟩ | h
  · refine .inl ⟨?_, fun z => ?_⟩
    · rcases r with r | ⟨o, r⟩
      · exact .inl (eff _ _ r n)
      · exact .inr ⟨o, eff _ _ r n⟩
    · rcases hO a z with z | z
      · exact n z
      · rcases r with r | ⟨o, r⟩ <;> (rw [r] at z; cases z)
  · exact .inr h
theorem TupAt.step (eff : ∀ b o, H b = some o → ¬ O b → H' b = some o) (hO : ∀ a, O' a → O a ∨ H a = none) {a : Addr} {ys : List V} (h : TupAt K H O a ys) : TupAt K H' O' a ys := by
  rcases h with ⟨r, n⟩ | h
  · refine .inl ⟨?_, fun z => ?_⟩
    · rcases r with r | ⟨o, r⟩
      · exact .inl (eff _ _ r n)
      · exact .inr ⟨o, eff _ _ r n⟩
    · rcases hO a z with z | z
      · exact n z
      · rcases r with r | ⟨o, r⟩ <;> (rw [r] at z; cases z)
  · exact .inr h
theorem LstAt.sq {a : Addr} {ys : List V} (h : LstAt K H O a ys) : SqL K H a ys := by
  rcases h with ⟨r, _⟩ | h
  · exact .inl r
  · exact .inr h
theorem TupAt.sq {a : Addr} {ys : List V} (h : TupAt K H O a ys) : SqT K H a ys := by
  rcases h with ⟨r, _⟩ | h
  · exact .inl r
  · exact .inr h

mutual
theorem R.step (eff : ∀ b o, H b = some o → ¬ O b → H' b = some o) (hO : ∀ a, O' a → O a ∨ H a = none) : ∀ (v : PV) (x : V), R K H O v x → R K H' O' v x
  | .non, x, h => h
  | .bl b, x, h => h
  | .int i, x, h => h
  | .str s, x, h => h
  | .ty s, x, h => h
  | .tup vs, x, h => by
    obtain ⟨a, ys, e, t, r⟩ := h
    exact ⟨a, ys, e, t.step eff hO, Rs.step eff hO vs ys r⟩
  | .scr vs, x, h => by
    obtain ⟨a, ys, e, t, r⟩ := h
    exact ⟨a, ys, e, t.step eff hO, Rs.step eff hO vs ys r⟩
  | .exn _ _ _, x, h => h.elim
  | .exr a d c ns vs, x, h => by
    obtain ⟨e, t, n⟩ := h
    refine ⟨e, eff _ _ t n, fun z => ?_⟩
    rcases hO d z with z | z
    · exact n z
    · rw [t] at z; cases z
  | .lst vs, x, h => by
    obtain ⟨a, ys, e, ⟨t, n⟩, r⟩ := h
    refine ⟨a, ys, e, ⟨eff _ _ t n, fun z => ?_⟩, Rs.step eff hO vs ys r⟩
    rcases hO a z with z | z
    · exact n z
    · rw [t] at z; cases z
  | .dk ks vs, x, h => by
    obtain ⟨a, ys, e, ⟨t, n⟩, l, r⟩ := h
    refine ⟨a, ys, e, ⟨eff _ _ t n, fun z => ?_⟩, l, Rs.step eff hO vs ys r⟩
    rcases hO a z with z | z
    · exact n z
    · rw [t] at z; cases z
  | .dt ks vs, x, h => by
    obtain ⟨a, ys, e, ⟨t, n⟩, l, r⟩ := h
    refine ⟨a, ys, e, ⟨eff _ _ t n, fun z => ?_⟩, l, Rs.step eff hO vs ys r⟩
    rcases hO a z with z | z
    · exact n z
    · rw [t] at z; cases z
theorem Rs.step (eff : ∀ b o, H b = some o → ¬ O b → H' b = some o) (hO : ∀ a, O' a → O a ∨ H a = none) : ∀ (vs : List PV) (ys : List V), Rs K H O vs ys → Rs K H' O' vs ys
  | [], ys, h => h
  | v :: vs, ys, h => by
    obtain ⟨y, ys', e, r, q⟩ := h
    exact ⟨y, ys', e, R.step eff hO v y r, Rs.step eff hO vs ys' q⟩
end
theorem R.mono (hO : ∀ a, O' a → O a) {v : PV} {x : V} (h : R K H O v x) : R K H O' v x := R.step (fun _ _ e _ => e) (fun a z => .inl (hO a z)) v x h
theorem Rs.mono (hO : ∀ a, O' a → O a) {v : List PV} {x : List V} (h : Rs K H O v x) : Rs K H O' v x := Rs.step (fun _ _ e _ => e) (fun a z => .inl (hO a z)) v x h

mutual
/-- the owned levels stay where nothing of them is written -/
theorem RM.step (eff : ∀ b o, H b = some o → ¬ O b → H' b = some o) (hO : ∀ a, O' a → O a ∨ H a = none) :
    ∀ (n : Nat) (v : PV) (x : V) (fp : List Addr), (∀ b ∈ fp, ∀ o, H b = some o → H' b = some o) → RM K H O n v x fp → RM K H' O' n v x fp
  | 0, v, x, fp, _, h => by
    rw [RM.zero] at h ⊢
    exact ⟨h.1, R.step eff hO v x h.2⟩
  | n + 1, .non, x, fp, _, h => h
  | n + 1, .bl b, x, fp, _, h => h
  | n + 1, .int i, x, fp, _, h => h
  | n + 1, .str s, x, fp, _, h => h
  | n + 1, .ty s, x, fp, _, h => h
  | n + 1, .scr vs, x, fp, _, h => ⟨h.1, R.step eff hO _ _ h.2⟩
  | n + 1, .exn _ _ _, x, fp, _, h => h.elim
  | n + 1, .exr a d c ns vs, x, fp, _, h => ⟨h.1, R.step eff hO _ _ h.2⟩
  | n + 1, .tup vs, x, fp, k, h => by
    obtain ⟨a, ys, e, t, r⟩ := h
    exact ⟨a, ys, e, t.step eff hO, RMs.step eff hO (n + 1) vs ys fp k r⟩
  | n + 1, .lst vs, x, fp, k, h => by
    obtain ⟨a, ys, fs, e, t, ef, r⟩ := h
    subst ef
    exact ⟨a, ys, fs, e, k a List.mem_cons_self _ t, rfl, RMs.step eff hO n vs ys fs (fun b hb => k b (List.mem_cons_of_mem _ hb)) r⟩
  | n + 1, .dk ks vs, x, fp, k, h => by
    obtain ⟨a, ys, fs, e, t, l, ef, r⟩ := h
    subst ef
    exact ⟨a, ys, fs, e, k a List.mem_cons_self _ t, l, rfl, RMs.step eff hO n vs ys fs (fun b hb => k b (List.mem_cons_of_mem _ hb)) r⟩
  | n + 1, .dt ks vs, x, fp, k, h => by
    obtain ⟨a, ys, fs, e, t, l, ef, r⟩ := h
    subst ef
    exact ⟨a, ys, fs, e, k a List.mem_cons_self _ t, l, rfl, RMs.step eff hO n vs ys fs (fun b hb => k b (List.mem_cons_of_mem _ hb)) r⟩
theorem RMs.step (eff : ∀ b o, H b = some o → ¬ O b → H' b = some o) (hO : ∀ a, O' a → O a ∨ H a = none) :
    ∀ (n : Nat) (vs : List PV) (ys : List V) (fp : List Addr), (∀ b ∈ fp, ∀ o, H b = some o → H' b = some o) → RMs K H O n vs ys fp → RMs K H' O' n vs ys fp
  | n, [], ys, fp, _, h => h
  | n, v :: vs, ys, fp, k, h => by
    obtain ⟨y, ys', f1, f2, e, ef, r, q⟩ := h
    subst ef
    exact ⟨y, ys', f1, f2, e, rfl, RM.step eff hO n v y f1 (fun b hb => k b (List.mem_append_left _ hb)) r, RMs.step eff hO n vs ys' f2 (fun b hb => k b (List.mem_append_right _ hb)) q⟩
end
theorem RM.mono (hO : ∀ a, O' a → O a) {n : Nat} {v : PV} {x : V} {fp : List Addr} (h : RM K H O n v x fp) : RM K H O' n v x fp := RM.step (fun _ _ e _ => e) (fun a z => .inl (hO a z)) n v x fp (fun _ _ _ e => e) h

mutual
/-- the ownership forgotten -/
theorem RM.drop (hO : ∀ a, O' a → O a) : ∀ (n : Nat) (v : PV) (x : V) (fp : List Addr), (∀ b ∈ fp, ¬ O' b) → RM K H O n v x fp → R K H O' v x
  | 0, v, x, fp, _, h => by
    rw [RM.zero] at h
    exact h.2.mono hO
  | n + 1, .non, x, fp, _, h => h.2
  | n + 1, .bl b, x, fp, _, h => h.2
  | n + 1, .int i, x, fp, _, h => h.2
  | n + 1, .str s, x, fp, _, h => h.2
  | n + 1, .ty s, x, fp, _, h => h.2
  | n + 1, .scr vs, x, fp, _, h => R.mono hO (v := .scr vs) h.2
  | n + 1, .exn _ _ _, x, fp, _, h => h.elim
  | n + 1, .exr a d c ns vs, x, fp, _, h => R.mono hO (v := .exr a d c ns vs) h.2
  | n + 1, .tup vs, x, fp, k, h => by
    obtain ⟨a, ys, e, t, r⟩ := h
    exact ⟨a, ys, e, t.step (fun _ _ e _ => e) (fun a z => .inl (hO a z)), RMs.drop hO (n + 1) vs ys fp k r⟩
  | n + 1, .lst vs, x, fp, k, h => by
    obtain ⟨a, ys, fs, e, t, ef, r⟩ := h
    subst ef
    exact ⟨a, ys, e, ⟨t, k a List.mem_cons_self⟩, RMs.drop hO n vs ys fs (fun b hb => k b (List.mem_cons_of_mem _ hb)) r⟩
  | n + 1, .dk ks vs, x, fp, k, h => by
    obtain ⟨a, ys, fs, e, t, l, ef, r⟩ := h
    subst ef
    exact ⟨a, ys, e, ⟨t, k a List.mem_cons_self⟩, l, RMs.drop hO n vs ys fs (fun b hb => k b (List.mem_cons_of_mem _ hb)) r⟩
  | n + 1, .dt ks vs, x, fp, k, h => by
    obtain ⟨a, ys, fs, e, t, l, ef, r⟩ := h
    subst ef
    exact ⟨a, ys, e, ⟨t, k a List.mem_cons_self⟩, l, RMs.drop hO n vs ys fs (fun b hb => k b (List.mem_cons_of_mem _ hb)) r⟩
theorem RMs.drop (hO : ∀ a, O' a → O a) : ∀ (n : Nat) (vs : List PV) (ys : List V) (fp : List Addr), (∀ b ∈ fp, ¬ O' b) → RMs K H O n vs ys fp → Rs K H O' vs ys
  | n, [], ys, fp, _, h => h.1
  | n, v :: vs, ys, fp, k, h => by
    obtain ⟨y, ys', f1, f2, e, ef, r, q⟩ := h
    subst ef
    exact ⟨y, ys', e, RM.drop hO n v y f1 (fun b hb => k b (List.mem_append_left _ hb)) r, RMs.drop hO n vs ys' f2 (fun b hb => k b (List.mem_append_right _ hb)) q⟩
end

mutual
/-- what is owned is tracked, and is no tuple and not locked -/
theorem RM.there : ∀ (n : Nat) (v : PV) (x : V) (fp : List Addr), RM K H O n v x fp → ∀ b ∈ fp, ∃ o, H b = some o
  | 0, v, x, fp, h, b, hb => by rw [RM.zero] at h; rw [h.1] at hb; cases hb
  | n + 1, .non, x, fp, h, b, hb => by rw [h.1] at hb; cases hb
  | n + 1, .bl _, x, fp, h, b, hb => by rw [h.1] at hb; cases hb
  | n + 1, .int _, x, fp, h, b, hb => by rw [h.1] at hb; cases hb
  | n + 1, .str _, x, fp, h, b, hb => by rw [h.1] at hb; cases hb
  | n + 1, .ty _, x, fp, h, b, hb => by rw [h.1] at hb; cases hb
  | n + 1, .scr _, x, fp, h, b, hb => by rw [h.1] at hb; cases hb
  | n + 1, .exn _ _ _, x, fp, h, b, hb => h.elim
  | n + 1, .exr _ _ _ _ _, x, fp, h, b, hb => by rw [h.1] at hb; cases hb
  | n + 1, .tup vs, x, fp, h, b, hb => by
    obtain ⟨a, ys, e, t, r⟩ := h
    exact RMs.there (n + 1) vs ys fp r b hb
  | n + 1, .lst vs, x, fp, h, b, hb => by
    obtain ⟨a, ys, fs, e, t, ef, r⟩ := h
    subst ef
    rcases List.mem_cons.mp hb with rfl | hb
    · exact ⟨_, t⟩
    · exact RMs.there n vs ys fs r b hb
  | n + 1, .dk ks vs, x, fp, h, b, hb => by
    obtain ⟨a, ys, fs, e, t, l, ef, r⟩ := h
    subst ef
    rcases List.mem_cons.mp hb with rfl | hb
    · exact ⟨_, t⟩
    · exact RMs.there n vs ys fs r b hb
  | n + 1, .dt ks vs, x, fp, h, b, hb => by
    obtain ⟨a, ys, fs, e, t, l, ef, r⟩ := h
    subst ef
    rcases List.mem_cons.mp hb with rfl | hb
    · exact ⟨_, t⟩
    · exact RMs.there n vs ys fs r b hb
theorem RMs.there : ∀ (n : Nat) (vs : List PV) (ys : List V) (fp : List Addr), RMs K H O n vs ys fp → ∀ b ∈ fp, ∃ o, H b = some o
  | n, [], ys, fp, h, b, hb => by rw [h.2] at hb; cases hb
  | n, v :: vs, ys, fp, h, b, hb => by
    obtain ⟨y, ys', f1, f2, e, ef, r, q⟩ := h
    subst ef
    rcases List.mem_append.mp hb with hb | hb
    · exact RM.there n v y f1 r b hb
    · exact RMs.there n vs ys' f2 q b hb
end

/-- all shared -/
theorem RMs.of0 : ∀ {vs : List PV} {ys : List V}, Rs K H O vs ys → RMs K H O 0 vs ys []
  | [], ys, h => ⟨h, rfl⟩
  | v :: vs, ys, h => by
    obtain ⟨y, ys', e, r, q⟩ := h
    exact ⟨y, ys', [], [], e, rfl, by rw [RM.zero]; exact ⟨rfl, r⟩, RMs.of0 q⟩
theorem RMs.to0 : ∀ {vs : List PV} {ys : List V} {fp : List Addr}, RMs K H O 0 vs ys fp → fp = [] ∧ Rs K H O vs ys
  | [], ys, fp, h => ⟨h.2, h.1⟩
  | v :: vs, ys, fp, h => by
    obtain ⟨y, ys', f1, f2, e, ef, r0, q⟩ := h
    rw [RM.zero] at r0
    obtain ⟨e1, r⟩ := r0
    obtain ⟨e2, q2⟩ := RMs.to0 q
    subst e1 e2
    exact ⟨ef, y, ys', e, r, q2⟩
theorem Rs.length : ∀ {vs : List PV} {ys : List V}, Rs K H O vs ys → ys.length = vs.length
  | [], ys, h => by rw [show ys = [] from h]; rfl
  | v :: vs, ys, h => by
    obtain ⟨y, ys', e, r, q⟩ := h
    rw [e, List.length_cons, List.length_cons, Rs.length q]
theorem RMs.length {n : Nat} : ∀ {vs : List PV} {ys : List V} {fp : List Addr}, RMs K H O n vs ys fp → ys.length = vs.length
  | [], ys, _, h => by rw [show ys = [] from h.1]; rfl
  | v :: vs, ys, _, h => by
    obtain ⟨y, ys', f1, f2, e, ef, r, q⟩ := h
    rw [e, List.length_cons, List.length_cons, RMs.length q]
theorem Rs.append : ∀ {vs ws : List PV} {ys zs : List V}, Rs K H O vs ys → Rs K H O ws zs → Rs K H O (vs ++ ws) (ys ++ zs)
  | [], ws, ys, zs, h, h2 => by rw [show ys = [] from h]; exact h2
  | v :: vs, ws, ys, zs, h, h2 => by
    obtain ⟨y, ys', e, r, q⟩ := h
    exact ⟨y, ys' ++ zs, by rw [e]; rfl, r, Rs.append q h2⟩
theorem Rs.get : ∀ {vs : List PV} {ys : List V} {i : Nat} {v : PV}, Rs K H O vs ys → vs[i]? = some v → ∃ y, ys[i]? = some y ∧ R K H O v y
  | [], _, _, _, _, e => by simp at e
  | w :: vs, ys, 0, v, h, e => by
    obtain ⟨y, ys', e', r, q⟩ := h
    have : w = v := Option.some.inj e
    subst this e'
    exact ⟨y, rfl, r⟩
  | w :: vs, ys, i + 1, v, h, e => by
    obtain ⟨y, ys', e', r, q⟩ := h
    subst e'
    exact Rs.get (i := i) q e
theorem Rs.cons {v : PV} {y : V} {vs : List PV} {ys : List V} (h : R K H O v y) (q : Rs K H O vs ys) : Rs K H O (v :: vs) (y :: ys) := ⟨y, ys, rfl, h, q⟩
theorem Rs.nil : Rs K H O [] [] := rfl
theorem Rs.take : ∀ (n : Nat) {vs : List PV} {ys : List V}, Rs K H O vs ys → Rs K H O (vs.take n) (ys.take n)
  | 0, _, _, _ => by rw [List.take_zero, List.take_zero]; exact rfl
  | n + 1, [], ys, h => by rw [show ys = [] from h]; exact rfl
  | n + 1, v :: vs, ys, h => by
    obtain ⟨y, ys', e', r, q⟩ := h
    subst e'
    exact ⟨y, _, rfl, r, Rs.take n q⟩
theorem Rs.drop : ∀ (n : Nat) {vs : List PV} {ys : List V}, Rs K H O vs ys → Rs K H O (vs.drop n) (ys.drop n)
  | 0, _, _, h => h
  | n + 1, [], ys, h => by rw [show ys = [] from h]; exact rfl
  | n + 1, v :: vs, ys, h => by
    obtain ⟨y, ys', e', r, q⟩ := h
    subst e'
    exact Rs.drop n q
theorem Rs.reverse : ∀ {vs : List PV} {ys : List V}, Rs K H O vs ys → Rs K H O vs.reverse ys.reverse
  | [], ys, h => by rw [show ys = [] from h]; exact rfl
  | v :: vs, ys, h => by
    obtain ⟨y, ys', e', r, q⟩ := h
    subst e'
    rw [List.reverse_cons, List.reverse_cons]
    exact (Rs.reverse q).append (Rs.cons r Rs.nil)
theorem Rs.set : ∀ {vs : List PV} {ys : List V} (i : Nat) {v : PV} {y : V}, Rs K H O vs ys → R K H O v y → Rs K H O (vs.set i v) (ys.set i y)
  | [], ys, _, _, _, h, _ => by rw [show ys = [] from h]; exact rfl
  | v :: vs, ys, 0, _, _, h, r' => by
    obtain ⟨y, ys', e', r, q⟩ := h
    subst e'
    exact ⟨_, _, rfl, r', q⟩
  | v :: vs, ys, i + 1, _, _, h, r' => by
    obtain ⟨y, ys', e', r, q⟩ := h
    subst e'
    exact ⟨_, _, rfl, r, Rs.set i q r'⟩
theorem Rs.eraseIdx : ∀ {vs : List PV} {ys : List V} (i : Nat), Rs K H O vs ys → Rs K H O (vs.eraseIdx i) (ys.eraseIdx i)
  | [], ys, _, h => by rw [show ys = [] from h]; exact rfl
  | v :: vs, ys, 0, h => by
    obtain ⟨y, ys', e', r, q⟩ := h
    subst e'
    exact q
  | v :: vs, ys, i + 1, h => by
    obtain ⟨y, ys', e', r, q⟩ := h
    subst e'
    exact ⟨_, _, rfl, r, Rs.eraseIdx i q⟩
theorem Rs.flatRep {vs : List PV} {ys : List V} (h : Rs K H O vs ys) : ∀ k : Nat, Rs K H O (List.replicate k vs).flatten (List.replicate k ys).flatten
  | 0 => rfl
  | k + 1 => by
    rw [List.replicate_succ, List.replicate_succ, List.flatten_cons, List.flatten_cons]
    exact h.append (Rs.flatRep h k)
end

/-! ### plain kinds -/
mutual
/-- no list and no dict in it -/
def flat : PV → Bool
  | .non => true | .bl _ => true | .int _ => true | .str _ => true | .ty _ => true
  | .tup vs => flats vs
  | .lst _ => false | .dk _ _ => false | .dt _ _ => false | .scr _ => false | .exn _ _ _ => true | .exr _ _ _ _ _ => false
def flats : List PV → Bool
  | [] => true
  | v :: vs => flat v && flats vs
end
mutual
/-- nothing but flat values below the upper n levels -/
def flatM : Nat → PV → Bool
  | _, .non => true | _, .bl _ => true | _, .int _ => true | _, .str _ => true | _, .ty _ => true
  | n, .tup vs => flatMs n vs
  | 0, .lst _ => false | 0, .dk _ _ => false | 0, .dt _ _ => false | _, .scr _ => false | _, .exn _ _ _ => true | _, .exr _ _ _ _ _ => false
  | n + 1, .lst vs => flatMs n vs
  | n + 1, .dk _ vs => flatMs n vs
  | n + 1, .dt _ vs => flatMs n vs
def flatMs : Nat → List PV → Bool
  | _, [] => true
  | n, v :: vs => flatM n v && flatMs n vs
end
end VI
namespace VI
open PySem PySem.Spec PyProof.Rows L2

/-! ### frames -/
/-- a slot: how many levels of its value are owned; whether it is a parameter that is changed in place -/
structure Sl where
  m : Nat
  pin : Bool
  v : PV
abbrev Fr := List (Option Sl)
abbrev FP := Nat → List Addr
def Ow (F : Addr → Prop) (fp : FP) (a : Addr) : Prop := F a ∨ ∃ i, a ∈ fp i
def OwA (F : Addr → Prop) (fp : FP) (al : List Nat) (a : Addr) : Prop := F a ∨ ∃ i, a ∈ fp i ∧ i ∉ al

structure FR (K : PySem.W.Frag) (H : Hp) (F : Addr → Prop) (fr : Fr) (σ : L2.St) (fp : FP) : Prop where
  len : σ.length = fr.length
  slot : ∀ i s, fr[i]? = some (some s) → ∃ x, σ[i]? = some (some x) ∧ RM K H (Ow F fp) s.m s.v x (fp i)
  emp : ∀ i, (∀ s, fr[i]? ≠ some (some s)) → fp i = []
  nd : ∀ i, (fp i).Nodup
  disj : ∀ i j a, a ∈ fp i → a ∈ fp j → i = j
  amb : ∀ a, F a → (∃ o, H a = some o) ∧ ∀ i, a ∉ fp i

/-- what may have changed: the lists owned by the slots D -/
structure StepD (D : List Nat) (H : Hp) (fp : FP) (H' : Hp) (fp' : FP) : Prop where
  eff : ∀ b o, H b = some o → (∀ i ∈ D, b ∉ fp i) → H' b = some o
  sub : ∀ i a, a ∈ fp' i → a ∈ fp i ∨ H a = none
  there : ∀ b o, H b = some o → ∃ o', H' b = some o'

theorem StepD.refl (D : List Nat) (H : Hp) (fp : FP) : StepD D H fp H fp := ⟨fun _ _ e _ => e, fun _ _ h => .inl h, fun _ o e => ⟨o, e⟩⟩
theorem StepD.trans {D : List Nat} {H H1 H2 : Hp} {fp fp1 fp2 : FP} (a : StepD D H fp H1 fp1) (b : StepD D H1 fp1 H2 fp2) : StepD D H fp H2 fp2 where
  eff := fun c o e n => by
    refine b.eff c o (a.eff c o e n) fun i hi hc => ?_
    rcases a.sub i c hc with z | z
    · exact n i hi z
    · rw [e] at z; cases z
  sub := fun i c hc => by
    rcases b.sub i c hc with z | z
    · exact a.sub i c z
    · cases q : H c with
      | none => exact .inr rfl
      | some o =>
        obtain ⟨o', e⟩ := a.there c o q
        rw [e] at z; cases z
  there := fun c o e => by
    obtain ⟨o', e'⟩ := a.there c o e
    exact b.there c o' e'
theorem StepD.mono {D D' : List Nat} {H H1 : Hp} {fp fp1 : FP} (a : StepD D H fp H1 fp1) (h : ∀ i ∈ D, i ∈ D') : StepD D' H fp H1 fp1 :=
  ⟨fun b o e n => a.eff b o e fun i hi => n i (h i hi), a.sub, a.there⟩
/-- something new is laid -/
theorem StepD.new {D : List Nat} {H : Hp} {fp : FP} {p : Addr} {o : HO} (h : H p = none) : StepD D H fp (upd H p o) fp :=
  ⟨fun b u e _ => by rw [upd_ne (ne_of_none e h)]; exact e, fun _ _ h => .inl h, fun b u e => ⟨u, by rw [upd_ne (ne_of_none e h)]; exact e⟩⟩


section
variable {K : PySem.W.Frag} {H H' : Hp} {F F' : Addr → Prop} {fr fr' : Fr} {σ : L2.St} {fp fp' : FP}
theorem FR.tracked (h : FR K H F fr σ fp) {i : Nat} {a : Addr} (ha : a ∈ fp i) : ∃ o, H a = some o := by
  by_cases q : ∃ s, fr[i]? = some (some s)
  · obtain ⟨s, e⟩ := q
    obtain ⟨x, _, r⟩ := h.slot i s e
    exact RM.there _ _ _ _ r a ha
  · rw [h.emp i fun s e => q ⟨s, e⟩] at ha
    cases ha
theorem FR.owTracked (h : FR K H F fr σ fp) {a : Addr} (ha : Ow F fp a) : ∃ o, H a = some o := by
  rcases ha with z | ⟨i, z⟩
  · exact (h.amb a z).1
  · exact h.tracked z
/-- the frame stays while nothing is touched; the ambient part may lose, or gain what is new -/
theorem FR.go (h : FR K H F fr σ fp) (eff : ∀ b o, H b = some o → H' b = some o) (hF : ∀ a, F' a → F a ∨ H a = none) (ht : ∀ a, F' a → ∃ o, H' a = some o) : FR K H' F' fr σ fp where
  len := h.len
  slot := fun i s e => by
    obtain ⟨x, ex, r⟩ := h.slot i s e
    refine ⟨x, ex, RM.step (fun b o e _ => eff b o e) (fun a z => ?_) _ _ _ _ (fun b _ o e => eff b o e) r⟩
    rcases z with z | z
    · rcases hF a z with z | z
      · exact .inl (.inl z)
      · exact .inr z
    · exact .inl (.inr z)
  emp := h.emp
  nd := h.nd
  disj := h.disj
  amb := fun a z => ⟨ht a z, fun i hi => by
    rcases hF a z with q | q
    · exact (h.amb a q).2 i hi
    · obtain ⟨o, e⟩ := h.tracked hi
      rw [e] at q; cases q⟩
theorem FR.monoF (h : FR K H F fr σ fp) (hF : ∀ a, F' a → F a) : FR K H F' fr σ fp := h.go (fun _ _ e => e) (fun a z => .inl (hF a z)) fun a z => (h.amb a (hF a z)).1
theorem FR.same (h : FR K H F fr σ fp) (eff : ∀ b o, H b = some o → H' b = some o) : FR K H' F fr σ fp := h.go eff (fun a z => .inl z) fun a z => by
  obtain ⟨o, e⟩ := (h.amb a z).1
  exact ⟨o, eff _ _ e⟩
theorem upd_eff {H : Hp} {p : Addr} {o : HO} (h : H p = none) : ∀ b u, H b = some u → upd H p o b = some u := fun b u e => by
  rw [upd_ne (ne_of_none e h)]; exact e
/-- a new object, kept apart -/
theorem FR.new (h : FR K H F fr σ fp) {p : Addr} {o : HO} (hp : H p = none) : FR K (upd H p o) (fun a => F a ∨ a ∈ [p]) fr σ fp :=
  h.go (upd_eff hp) (fun a z => z.elim .inl fun z => .inr (by rw [List.mem_singleton.mp z]; exact hp)) fun a z => by
    rcases z with z | z
    · obtain ⟨u, e⟩ := (h.amb a z).1
      exact ⟨u, upd_eff hp a u e⟩
    · rw [List.mem_singleton.mp z]; exact ⟨_, upd_same⟩

/-! ### what an expression gives -/
/-- a value; how many levels are owned by nobody else; the slots whose lists it may reach; whether only its top is such a slot's list -/
structure Od where
  v : PV
  m : Nat
  al : List Nat
  top : Bool
/-- an operand's tree as far as its top goes: the items are R -/
def RT (K : PySem.W.Frag) (H : Hp) (O : Addr → Prop) : PV → V → Prop
  | .lst vs, x => ∃ a ys, x = .ref a ∧ H a = some (.lst ys) ∧ Rs K H O vs ys
  | .dk ks vs, x => ∃ a ys, x = .ref a ∧ H a = some (.dK (ks.zip ys)) ∧ ks.length = ys.length ∧ Rs K H O vs ys
  | .dt ks vs, x => ∃ a ys, x = .ref a ∧ H a = some (.dT (ks.zip ys)) ∧ ks.length = ys.length ∧ Rs K H O vs ys
  | v, x => R K H O v x
theorem RT.of {O : Addr → Prop} : ∀ {v : PV} {x : V}, R K H O v x → RT K H O v x
  | .non, _, h => h
  | .bl _, _, h => h
  | .int _, _, h => h
  | .str _, _, h => h
  | .ty _, _, h => h
  | .tup _, _, h => h
  | .lst vs, x, h => by
    obtain ⟨a, ys, e, t, r⟩ := h
    exact ⟨a, ys, e, t.1, r⟩
  | .scr _, _, h => h
  | .exn _ _ _, _, h => h
  | .exr _ _ _ _ _, _, h => h
  | .dk ks vs, x, h => by
    obtain ⟨a, ys, e, t, l, r⟩ := h
    exact ⟨a, ys, e, t.1, l, r⟩
  | .dt ks vs, x, h => by
    obtain ⟨a, ys, e, t, l, r⟩ := h
    exact ⟨a, ys, e, t.1, l, r⟩
theorem RT.mono {O O' : Addr → Prop} (hO : ∀ a, O' a → O a) : ∀ {v : PV} {x : V}, RT K H O v x → RT K H O' v x
  | .non, _, h => h
  | .bl _, _, h => h
  | .int _, _, h => h
  | .str _, _, h => h
  | .ty _, _, h => h
  | .tup vs, x, h => R.mono hO (v := .tup vs) h
  | .scr vs, x, h => R.mono hO (v := .scr vs) h
  | .exn _ _ _, _, h => h.elim
  | .exr a d c ns vs, x, h => R.mono hO (v := .exr a d c ns vs) (show R K H O (.exr a d c ns vs) x from h)
  | .lst vs, x, h => by
    obtain ⟨a, ys, e, t, r⟩ := h
    exact ⟨a, ys, e, t, r.mono hO⟩
  | .dk ks vs, x, h => by
    obtain ⟨a, ys, e, t, l, r⟩ := h
    exact ⟨a, ys, e, t, l, r.mono hO⟩
  | .dt ks vs, x, h => by
    obtain ⟨a, ys, e, t, l, r⟩ := h
    exact ⟨a, ys, e, t, l, r.mono hO⟩
/-- what an operand's items may reach -/
def elal (o : Od) : List Nat := if o.top then [] else o.al

structure OR (K : PySem.W.Frag) (H : Hp) (F : Addr → Prop) (fp : FP) (o : Od) (x : V) (fo : List Addr) : Prop where
  rep : RM K H (OwA (fun a => F a ∨ a ∈ fo) fp o.al) o.m o.v x fo
  nd : fo.Nodup
  ap : ∀ b ∈ fo, ¬ Ow F fp b
  tp : o.top = true → RT K H (Ow F fp) o.v x

theorem OwA.ow {al : List Nat} {a : Addr} (h : OwA F fp al a) : Ow F fp a := h.elim .inl fun ⟨i, h, _⟩ => .inr ⟨i, h⟩
theorem OwA.mono {al al' : List Nat} (h : ∀ i ∈ al, i ∈ al') {a : Addr} (z : OwA F fp al' a) : OwA F fp al a := z.elim .inl fun ⟨i, q, n⟩ => .inr ⟨i, q, fun y => n (h i y)⟩
theorem OwA.nil {a : Addr} (z : Ow F fp a) : OwA F fp [] a := z.elim .inl fun ⟨i, q⟩ => .inr ⟨i, q, by simp⟩
/-- an operand, its ownership forgotten -/
theorem OR.r (h : OR K H F fp o x fo) : R K H (OwA F fp o.al) o.v x := h.rep.drop (fun _ z => z.elim (fun z => .inl (.inl z)) .inr) _ _ _ _ fun b hb z => h.ap b hb z.ow
theorem OR.rt (h : OR K H F fp o x fo) : RT K H (OwA F fp (elal o)) o.v x := by
  unfold elal
  by_cases t : o.top = true
  · rw [if_pos t]
    exact (h.tp t).mono fun a z => z.ow
  · rw [if_neg t]
    exact .of h.r
end
end VI
namespace VI
open PySem PySem.Spec PyProof.Rows L2

/-! ### a small syntax -/
inductive Prim where
  | add | sub | mul | fdiv | mod | pow | shl | shr | band | neg
  | eq | ne | lt | le | gt | ge | isIn | notIn | isNone | notNone
  | idx | sl (lo hi : Bool) | slrev
  | abs | int | len | sum | any | all | max1 | min1 | max2 | min2 | sorted | list | tuple | isinst
  | tupD | lstD | index | count | join | range1 | range2 | tru | isB | isNotB | gcd | str1 | max1d | min1d
  deriving DecidableEq
mutual
inductive Pat where
  | nm (i : Nat) | tp (ps : Pats)
inductive Pats where
  | nil | cons (p : Pat) (ps : Pats)
end
mutual
inductive IE where
  | cst (v : PV) | var (i : Nat) | prim (p : Prim) (as : IEs)
  | and (a b : IE) | or (a b : IE) | not (a : IE) | ife (c a b : IE) | chain (p q : Prim) (a b c : IE)
  | call (j : Nat) (mu : List Nat) (na : Bool) (as : IEs)
  | lc (own : List Nat) (pt : Pat) (it : IT) (ts : IEs) (e : IE) (k : Nat) (als : List Nat)
  | pop0 (i : Nat) | pop1 (i : Nat) (a : IE)
  /-- a call that may raise, where it does not -/
  | callx (j : Nat) (mu : List Nat) (na : Bool) (as : IEs)
  /-- e.f, isinstance(e, X) with X's classes l among n ones, e the exception that slot i has -/
  | fld (i : Nat) (f : Str) | isx (i n : Nat) (l : List Nat)
inductive IEs where
  | nil | cons (a : IE) (as : IEs)
inductive IT where
  | seq (a : IE) | rng1 (a : IE) | rng2 (a b : IE) | enum (a : IE) | zip (a b : IE) | rev (a : IE)
end
mutual
inductive IS where
  | asg (i : Nat) (e : IE) | asgT (p : Pat) (e : IE) | aug (i : Nat) (p : Prim) (e : IE)
  | seti (i : Nat) (ix e : IE) | setij (i : Nat) (ix jx e : IE) | augi (i : Nat) (p : Prim) (ix e : IE)
  | app (i : Nat) (e : IE) | ext (i : Nat) (e : IE) | ins (i : Nat) (a e : IE)
  | ex (e : IE) | ret (e : IE) | retN
  | ite (c : IE) (a b : ISs) | whl (c : IE) (b : ISs) | for (p : Pat) (it : IT) (b : ISs)
  | brk | cont | pass
  /-- raise; a call that may raise: as a statement, stored, returned, asked for None -/
  | rse (c : Nat) (ns : List Str) (as : IEs) | xex (e : IE) | xasg (i : Nat) (e : IE) | xret (e : IE) | xnn (e : IE) (b : ISs)
  /-- try: b except X as e: h; slot i is e's, l the classes under X; whether others are let out -/
  | tryx (i n : Nat) (l : List Nat) (o : Bool) (b h : ISs)
inductive ISs where
  | nil | cons (a : IS) (as : ISs)
end

/-! ### values -/
mutual
def pvEq : PV → PV → Bool
  | .non, .non => true
  | .bl a, .bl b => a == b
  | .bl a, .int j => (if a then 1 else 0) == j
  | .int i, .bl b => i == (if b then 1 else 0)
  | .int i, .int j => i == j
  | .str x, .str y => x == y
  | .lst xs, .lst ys => pvEqs xs ys
  | .tup xs, .tup ys => pvEqs xs ys
  | _, _ => false
def pvEqs : List PV → List PV → Bool
  | [], [] => true
  | x :: xs, y :: ys => pvEq x y && pvEqs xs ys
  | _, _ => false
end
mutual
/-- no dict, no type, nested at most n deep -/
def okD : Nat → PV → Bool
  | _, .non => true | _, .bl _ => true | _, .int _ => true | _, .str s => PyData.strOk s
  | n + 1, .lst vs => okDs n vs
  | n + 1, .tup vs => okDs n vs
  | _, _ => false
def okDs : Nat → List PV → Bool
  | _, [] => true
  | n, v :: vs => okD n v && okDs n vs
end
abbrev dMax : Nat := 40

def mulOk (i j : Int) : Bool := decide (i.natAbs.log2 + j.natAbs.log2 < 1000000)
def pvAdd : PV → PV → Option PV
  | .int i, .int j => some (.int (i + j))
  | .str a, .str b => if a.length + b.length ≤ sizeLine then some (.str (a ++ b)) else none
  | .lst a, .lst b => if a.length + b.length ≤ sizeLine then some (.lst (a ++ b)) else none
  | .tup a, .tup b => if a.length + b.length ≤ sizeLine then some (.tup (a ++ b)) else none
  | _, _ => none
def pvSub : PV → PV → Option PV
  | .int i, .int j => some (.int (i - j))
  | _, _ => none
def pvMul : PV → PV → Option PV
  | .int i, .int j => if mulOk i j = true then some (.int (i * j)) else none
  | .lst a, .int k => if -(2 ^ 63) ≤ k ∧ k < 2 ^ 63 ∧ a.length * k.toNat ≤ sizeLine then some (.lst (List.replicate k.toNat a).flatten) else none
  | _, _ => none
def pvDiv : PV → PV → Option PV
  | .int i, .int j => if j ≠ 0 ∧ j.natAbs < 1073741824 then some (.int (i.fdiv j)) else if 0 < j ∧ j.natAbs.log2 < 9000 then some (.int (i.fdiv j)) else none
  | _, _ => none
def pvMod : PV → PV → Option PV
  | .int i, .int j => if j ≠ 0 then some (.int (i.fmod j)) else none
  | _, _ => none
def pvPow : PV → PV → Option PV
  | .int i, .int j => if 0 ≤ j ∧ j ≤ 1000000 ∧ i.natAbs < 2 ^ 64 then some (.int (i ^ j.toNat)) else none
  | _, _ => none
def pvShl : PV → PV → Option PV
  | .int i, .int j => if 0 ≤ j ∧ j ≤ 1000000 ∧ i.natAbs < 2 ^ 64 then some (.int (i * 2 ^ j.toNat)) else none
  | _, _ => none
def pvShr : PV → PV → Option PV
  | .int i, .int j => if 0 ≤ j then some (.int (i / 2 ^ j.toNat)) else none
  | _, _ => none
def pvBand : PV → PV → Option PV
  | .int i, .int j => some (.int (Builtin.bitAnd i j))
  | _, _ => none
def pvNeg : PV → Option PV
  | .int i => some (.int (-i))
  | _ => none
def pvEqO (a b : PV) : Option PV := if okD dMax a && okD dMax b then some (.bl (pvEq a b)) else none
def pvNeO (a b : PV) : Option PV := if okD dMax a && okD dMax b then some (.bl (!pvEq a b)) else none
/-- numbers in a tuple or a list -/
def asInts : List PV → Option (List Int)
  | [] => some []
  | .int i :: r => (asInts r).map (i :: ·)
  | _ :: _ => none
def asStrs : List PV → Option (List Str)
  | [] => some []
  | .str i :: r => (asStrs r).map (i :: ·)
  | _ :: _ => none
def asBls : List PV → Option (List Bool)
  | [] => some []
  | .bl i :: r => (asBls r).map (i :: ·)
  | _ :: _ => none
def pvLt : PV → PV → Option PV
  | .int i, .int j => some (.bl (decide (i < j)))
  | .str i, .str j => some (.bl (decide (i.cps.toList < j.cps.toList)))
  | .tup a, .tup b => match asInts a, asInts b with
    | some ns, some ms => some (.bl (HT.lexLt ns ms))
    | _, _ => none
  | _, _ => none
def pvLe : PV → PV → Option PV
  | .int i, .int j => some (.bl (decide (i ≤ j)))
  | .str i, .str j => some (.bl (!decide (j.cps.toList < i.cps.toList)))
  | _, _ => none
def pvGt : PV → PV → Option PV
  | .int i, .int j => some (.bl (decide (j < i)))
  | .str i, .str j => some (.bl (decide (j.cps.toList < i.cps.toList)))
  | _, _ => none
def pvGe : PV → PV → Option PV
  | .int i, .int j => some (.bl (decide (j ≤ i)))
  | .str i, .str j => some (.bl (!decide (i.cps.toList < j.cps.toList)))
  | _, _ => none
def pvIdx : PV → PV → Option PV
  | .lst vs, .int i => atI vs i
  | .tup vs, .int i => atI vs i
  | .str s, .int i => if s.length ≤ sizeLine then (atI s.cps.toList i).map fun c => .str ⟨#[c]⟩ else none
  | _, _ => none
def cutP (xs : List PV) (lo hi : Option Int) : List PV := (xs.drop (HT.sIx xs.length 0 lo)).take (HT.sIx xs.length xs.length hi - HT.sIx xs.length 0 lo)
def pvSl : PV → Option Int → Option Int → Option PV
  | .lst vs, lo, hi => some (.lst (cutP vs lo hi))
  | .tup vs, lo, hi => some (.tup (cutP vs lo hi))
  | .str z, lo, hi => if z.length ≤ sizeLine then some (.str (cutS z lo hi)) else none
  | _, _, _ => none
def pvAbs : PV → Option PV
  | .int i => some (.int (if i < 0 then -i else i))
  | _ => none
def pvInt : PV → Option PV
  | .int i => some (.int i)
  | .bl k => some (.int (if k then 1 else 0))
  | _ => none
def pvLen : PV → Option PV
  | .lst vs => some (.int vs.length)
  | .tup vs => some (.int vs.length)
  | .scr vs => some (.int vs.length)
  | .str s => if s.length ≤ sizeLine then some (.int s.length) else none
  | _ => none
def pvSum : PV → Option PV
  | .lst vs => (asInts vs).map fun ns => .int ns.sum
  | _ => none
def pvAny : PV → Option PV
  | .lst vs => (asBls vs).map fun ns => .bl (ns.any id)
  | _ => none
def pvAll : PV → Option PV
  | .lst vs => (asBls vs).map fun ns => .bl (ns.all id)
  | _ => none
def pvMax2 : PV → PV → Option PV
  | .int i, .int j => some (.int (if j > i then j else i))
  | _, _ => none
def pvMin2 : PV → PV → Option PV
  | .int i, .int j => some (.int (if j < i then j else i))
  | _, _ => none
def pvList : PV → Option PV
  | .lst vs => some (.lst vs)
  | .tup vs => some (.lst vs)
  | .scr vs => some (.lst vs)
  | _ => none
def pvTuple : PV → Option PV
  | .lst vs => some (.tup vs)
  | .tup vs => some (.tup vs)
  | _ => none
/-- the name of a value's type -/
def tyOf : PV → String
  | .non => "NoneType" | .bl _ => "bool" | .int _ => "int" | .str _ => "str" | .tup _ => "tuple" | .lst _ => "list"
  | .dk _ _ => "dict" | .dt _ _ => "dict" | .ty _ => "type" | .scr _ => "list" | .exn _ _ _ => "" | .exr _ _ _ _ _ => ""
def isIst : PV → Bool
  | .ty _ => false
  | .exn _ _ _ => false
  | .exr _ _ _ _ _ => false
  | _ => true
def isTy (v : PV) (n : String) : Bool := tyOf v == n || (tyOf v == "bool" && n == "int")
def okTy (n : String) : Bool := n == "int" || n == "bool" || n == "str" || n == "tuple" || n == "list"
def pvIsinst : PV → PV → Option PV
  | .ty _, _ => none
  | .exn _ _ _, _ => none
  | .exr _ _ _ _ _, _ => none
  | v, .ty n => if okTy n then some (.bl (isTy v n)) else none
  | _, _ => none
/-- plain items -/
def plainB : PV → Bool
  | .non | .bl _ | .int _ | .str _ => true
  | _ => false
def pvIn : PV → PV → Option Bool
  | v, .lst vs => if okD dMax v && okDs dMax vs then some (vs.any fun z => pvEq z v) else none
  | v, .tup vs => if plainB v && vs.all plainB then some (vs.any fun z => pvEq z v) else none
  | .str c, .str z => match c.cps.toList with
    | [k] => some (decide (k ∈ z.cps.toList))
    | _ => none
  | _, _ => none
def rangeP (lo : Int) (n : Nat) : List PV := (List.range n).map fun (k : Nat) => PV.int (lo + (k : Int))
def isNon : PV → Bool
  | .non => true
  | _ => false
/-- a value's truth -/
def truP : PV → Option Bool
  | .non => some false
  | .bl b => some b
  | .int i => some (i != 0)
  | .str s => if s.length ≤ sizeLine then some ((s.length : Int) != 0) else none
  | .lst vs => some !vs.isEmpty
  | .tup vs => some !vs.isEmpty
  | .scr vs => some !vs.isEmpty
  | _ => none
def pvTru (v : PV) : Option PV := (truP v).map .bl
def pvRev : PV → Option PV
  | .lst vs => some (.lst vs.reverse)
  | _ => none
def pvIsB : PV → PV → Option PV
  | .bl a, .bl b => some (.bl (decide (a = b)))
  | _, _ => none
def pvIsNotB : PV → PV → Option PV
  | .bl a, .bl b => some (.bl (!decide (a = b)))
  | _, _ => none
def pvGcd : PV → PV → Option PV
  | .int i, .int j => some (.int ((Nat.gcd i.natAbs j.natAbs : Nat) : Int))
  | _, _ => none
def pvStr : PV → Option PV
  | .int i => if i.natAbs.log2 < 1920 then some (.str (Str.ofString (toString i))) else none
  | _ => none
/-- the greatest, the least of whole numbers -/
def maxL : List Int → Int
  | [] => 0
  | [a] => a
  | a :: b :: l => max a (maxL (b :: l))
def minL : List Int → Int
  | [] => 0
  | [a] => a
  | a :: b :: l => min a (minL (b :: l))
def pvMax1 : PV → Option PV
  | .lst vs => match asInts vs with
    | some (a :: l) => some (.int (maxL (a :: l)))
    | _ => none
  | _ => none
def pvMin1 : PV → Option PV
  | .lst vs => match asInts vs with
    | some (a :: l) => some (.int (minL (a :: l)))
    | _ => none
  | _ => none
/-- max(xs, default=d), min(xs, default=d) -/
def pvMax1d : PV → PV → Option PV
  | .lst vs, .int d => match asInts vs with
    | some [] => some (.int d)
    | some (a :: l) => some (.int (maxL (a :: l)))
    | none => none
  | _, _ => none
def pvMin1d : PV → PV → Option PV
  | .lst vs, .int d => match asInts vs with
    | some [] => some (.int d)
    | some (a :: l) => some (.int (minL (a :: l)))
    | none => none
  | _, _ => none
/-- whole numbers in order -/
def insI (x : Int) : List Int → List Int
  | [] => [x]
  | y :: l => if x ≤ y then x :: y :: l else y :: insI x l
def srtI : List Int → List Int
  | [] => []
  | x :: l => insI x (srtI l)
def insS (x : Str) : List Str → List Str
  | [] => [x]
  | y :: l => if y.cps.toList < x.cps.toList then y :: insS x l else x :: y :: l
def srtS : List Str → List Str
  | [] => []
  | x :: l => insS x (srtS l)
def pvSorted : PV → Option PV
  | .lst vs => match asInts vs with
    | some ns => some (.lst ((srtI ns).map PV.int))
    | none => (asStrs vs).bind fun ss => if ss.length < 64 then some (.lst ((srtS ss).map PV.str)) else none
  | _ => none
/-- the first place of w -/
def ixP (w : PV) : List PV → Nat → Option Nat
  | [], _ => none
  | v :: vs, k => if pvEq v w = true then some k else ixP w vs (k + 1)
def pvIndex : PV → PV → Option PV
  | .lst vs, w => if (plainB w && vs.all plainB) = true then (ixP w vs 0).map fun (k : Nat) => PV.int (k : Int) else none
  | _, _ => none
def pvJoin : PV → PV → Option PV
  | .str s, .lst vs => match asStrs vs with
    | some ss => if (ss.map (·.length)).sum + ss.length * s.length ≤ 16777216 then some (.str (Txt.join s ss)) else none
    | none => none
  | _, _ => none
def primF : Prim → List PV → Option PV
  | .index, [a, b] => pvIndex a b
  | .join, [a, b] => pvJoin a b
  | .gcd, [a, b] => pvGcd a b
  | .str1, [a] => pvStr a
  | .max1, [a] => pvMax1 a
  | .max1d, [a, b] => pvMax1d a b
  | .min1d, [a, b] => pvMin1d a b
  | .min1, [a] => pvMin1 a
  | .sorted, [a] => pvSorted a
  | .tru, [a] => pvTru a
  | .slrev, [a] => pvRev a
  | .isB, [a, b] => pvIsB a b
  | .isNotB, [a, b] => pvIsNotB a b
  | .add, [a, b] => pvAdd a b
  | .sub, [a, b] => pvSub a b
  | .mul, [a, b] => pvMul a b
  | .fdiv, [a, b] => pvDiv a b
  | .mod, [a, b] => pvMod a b
  | .pow, [a, b] => pvPow a b
  | .shl, [a, b] => pvShl a b
  | .shr, [a, b] => pvShr a b
  | .band, [a, b] => pvBand a b
  | .neg, [a] => pvNeg a
  | .eq, [a, b] => pvEqO a b
  | .ne, [a, b] => pvNeO a b
  | .lt, [a, b] => pvLt a b
  | .le, [a, b] => pvLe a b
  | .gt, [a, b] => pvGt a b
  | .ge, [a, b] => pvGe a b
  | .isIn, [a, b] => (pvIn a b).map .bl
  | .notIn, [a, b] => (pvIn a b).map fun k => .bl (!k)
  | .isNone, [a] => some (.bl (isNon a))
  | .notNone, [a] => some (.bl (!isNon a))
  | .idx, [a, b] => pvIdx a b
  | .sl false false, [a] => pvSl a none none
  | .sl true false, [a, .int i] => pvSl a (some i) none
  | .sl false true, [a, .int j] => pvSl a none (some j)
  | .sl true true, [a, .int i, .int j] => pvSl a (some i) (some j)
  | .abs, [a] => pvAbs a
  | .int, [a] => pvInt a
  | .len, [a] => pvLen a
  | .sum, [a] => pvSum a
  | .any, [a] => pvAny a
  | .all, [a] => pvAll a
  | .max2, [a, b] => pvMax2 a b
  | .min2, [a, b] => pvMin2 a b
  | .list, [a] => pvList a
  | .tuple, [a] => pvTuple a
  | .isinst, [a, b] => pvIsinst a b
  | .tupD, as => if as.length ≤ sizeLine then some (.tup as) else none
  | .lstD, as => if as.length ≤ sizeLine then some (.lst as) else none
  | .range1, [.int j] => if 0 ≤ j ∧ j ≤ 16777216 then some (.lst (rangeP 0 j.toNat)) else none
  | .range2, [.int i, .int j] => if -(2 ^ 62) ≤ i ∧ i < 2 ^ 62 ∧ -(2 ^ 62) ≤ j ∧ j < 2 ^ 62 ∧ (j - i).toNat ≤ 16777216 then some (.lst (rangeP i (j - i).toNat)) else none
  | _, _ => none
/-- whether a result may hold what its operands hold: nothing; their items; themselves -/
inductive PK where
  | flat | elem | keep
def primK : Prim → PK
  | .tupD => .keep | .lstD => .keep
  | .idx => .elem | .sl _ _ => .elem | .slrev => .elem | .add => .elem | .mul => .elem | .list => .elem | .tuple => .elem
  | _ => .flat
/-- whether a list that it gives is a new one -/
def primNew : Prim → Bool
  | .lstD => true | .add => true | .mul => true | .sl _ _ => true | .slrev => true | .list => true | .sorted => true | .range1 => true | .range2 => true
  | _ => false
def isL : PV → Bool
  | .lst _ => true
  | _ => false
def primM (p : Prim) (v : PV) : Nat := if (primNew p && isL v) = true then 1 else 0
def alsOf (f : Od → List Nat) : List Od → List Nat
  | [] => []
  | o :: os => f o ++ alsOf f os
def primAl (p : Prim) (os : List Od) : List Nat := match primK p with
  | .flat => []
  | .elem => alsOf elal os
  | .keep => alsOf (·.al) os

/-! ### what is changed in place -/
def varOf : IE → List Nat
  | .var i => [i]
  | _ => []
def mutArgs : List Nat → IEs → List Nat
  | m :: mu, .cons a as => (if m = 0 then [] else varOf a) ++ mutArgs mu as
  | _, _ => []
mutual
def mutd : IE → List Nat
  | .cst _ => []
  | .var _ => []
  | .prim _ as => mutdL as
  | .and a b => mutd a ++ mutd b
  | .or a b => mutd a ++ mutd b
  | .not a => mutd a
  | .ife c a b => mutd c ++ (mutd a ++ mutd b)
  | .chain _ _ a b c => mutd a ++ (mutd b ++ mutd c)
  | .call _ mu _ as => mutdL as ++ mutArgs mu as
  | .lc _ _ it ts e _ _ => mutdI it ++ (mutdL ts ++ mutd e)
  | .pop0 i => [i]
  | .pop1 i a => mutd a ++ [i]
  | .callx _ mu _ as => mutdL as ++ mutArgs mu as
  | .fld _ _ => []
  | .isx _ _ _ => []
def mutdL : IEs → List Nat
  | .nil => []
  | .cons a as => mutd a ++ mutdL as
def mutdI : IT → List Nat
  | .seq a => mutd a
  | .rng1 a => mutd a
  | .rng2 a b => mutd a ++ mutd b
  | .enum a => mutd a
  | .zip a b => mutd a ++ mutd b
  | .rev a => mutd a
end
mutual
def mutdS : IS → List Nat
  | .asg _ e => mutd e
  | .asgT _ e => mutd e
  | .aug _ _ e => mutd e
  | .seti i ix e => mutd e ++ (mutd ix ++ [i])
  | .setij i ix jx e => mutd e ++ (mutd ix ++ (mutd jx ++ [i]))
  | .augi i _ ix e => mutd ix ++ (mutd e ++ [i])
  | .app i e => mutd e ++ [i]
  | .ext i e => mutd e ++ [i]
  | .ins i a e => mutd a ++ (mutd e ++ [i])
  | .ex e => mutd e
  | .ret e => mutd e
  | .retN => []
  | .ite c a b => mutd c ++ (mutdSs a ++ mutdSs b)
  | .whl c b => mutd c ++ mutdSs b
  | .for _ it b => mutdI it ++ mutdSs b
  | .brk => [] | .cont => [] | .pass => []
  | .rse _ _ as => mutdL as
  | .xex e => mutd e
  | .xasg _ e => mutd e
  | .xret e => mutd e
  | .xnn e b => mutd e ++ mutdSs b
  | .tryx _ _ _ _ b h => mutdSs b ++ mutdSs h
def mutdSs : ISs → List Nat
  | .nil => []
  | .cons a as => mutdS a ++ mutdSs as
end
def disj (a b : List Nat) : Bool := a.all fun i => !b.contains i

/-! ### frames -/
def varOd (i : Nat) (s : Sl) : Od := if s.m = 0 then ⟨s.v, 0, [], false⟩ else ⟨s.v, 0, [i], decide (s.m = 1) && isL s.v⟩
/-- the slots al are shared from now on -/
def dem : List Nat → Fr → Option Fr
  | [], fr => some fr
  | i :: al, fr => match fr[i]? with
    | some (some s) => if s.pin = true then none else dem al (fr.set i (some ⟨0, false, s.v⟩))
    | _ => dem al fr
/-- a name is bound -/
def setS (i m : Nat) (v : PV) (fr : Fr) : Option Fr := match fr[i]? with
  | some (some s) => if s.pin = true then none else some (fr.set i (some ⟨m, false, v⟩))
  | some none => some (fr.set i (some ⟨m, false, v⟩))
  | none => none
mutual
def asgP : Pat → PV → Fr → Option Fr
  | .nm i, v, fr => setS i 0 v fr
  | .tp ps, .tup vs, fr => asgPs ps vs fr
  | .tp ps, .lst vs, fr => asgPs ps vs fr
  | .tp _, _, _ => none
def asgPs : Pats → List PV → Fr → Option Fr
  | .nil, [], fr => some fr
  | .cons p ps, v :: vs, fr => (asgP p v fr).bind fun fr1 => asgPs ps vs fr1
  | _, _, _ => none
end
def isSlot (fr : Fr) : List Nat → Bool
  | [i] => match fr[i]? with
    | some (some _) => true
    | _ => false
  | _ => false
def wipeF (fr : Fr) : List Nat → Fr
  | [] => fr
  | i :: is => (wipeF fr is).set i none
/-- the slots own as they were in fr0 -/
def backF (fr0 : Fr) (fr : Fr) : List Nat → Fr
  | [] => fr
  | i :: is => (backF fr0 fr is).set i ((fr0[i]?).join)
def iterOf : PV → Option (List PV)
  | .lst vs => some vs
  | .tup vs => some vs
  | .scr vs => some vs
  | .str s => if s.length ≤ sizeLine then some (s.cps.toList.map fun c => .str ⟨#[c]⟩) else none
  | _ => none
/-- what is walked, the slots whose lists are walked, those that the items may reach -/
structure Itm where
  vs : List PV
  src : List Nat
  al : List Nat
def rng2F : PV → PV → Option (List PV)
  | .int i, .int j => if -(2 ^ 62) ≤ i ∧ i < 2 ^ 62 ∧ -(2 ^ 62) ≤ j ∧ j < 2 ^ 62 then some (rangeP i (j - i).toNat) else none
  | _, _ => none
def rng1F : PV → Option (List PV)
  | .int j => if -(2 ^ 62) ≤ j ∧ j < 2 ^ 62 then some (rangeP 0 j.toNat) else none
  | _ => none
def enumP : Nat → List PV → List PV
  | _, [] => []
  | n, v :: vs => .tup [.int n, v] :: enumP (n + 1) vs
def zipP : List PV → List PV → List PV
  | v :: vs, w :: ws => .tup [v, w] :: zipP vs ws
  | _, _ => []

/-- one turn after another -/
def lcGo (turn : PV → Fr → Option (Fr × Option PV)) : List PV → Fr → List PV → Option (Fr × List PV)
  | [], fr, acc => some (fr, acc)
  | v :: vs, fr, acc => (turn v fr).bind fun (fr1, r) => match r with
    | some w => if acc.length < sizeLine then lcGo turn vs fr1 (acc ++ [w]) else none
    | none => lcGo turn vs fr1 acc
def elOk (k : Nat) (als : List Nat) (o : Od) : Bool := if k ≤ 1 then (o.al.all (fun i => als.contains i) || plainB o.v) else (o.m == k - 1 && o.al.isEmpty)
/-- the values of the arguments; those changed in place are read late -/
def fillM : List Nat → IEs → List Od → Fr → Option (List PV)
  | m :: mu, .cons a as, o :: os, fr => (fillM mu as os fr).bind fun vs => if m = 0 then some (o.v :: vs) else match a with
    | .var i => match fr[i]? with
      | some (some s) => if s.m = m then some (s.v :: vs) else none
      | _ => none
    | _ => none
  | [], .nil, [], _ => some []
  | _, _, _, _ => none
def putM : List Nat → List PV → Fr → Option Fr
  | [], [], fr => some fr
  | i :: is, v :: vs, fr => match fr[i]? with
    | some (some s) => putM is vs (fr.set i (some ⟨s.m, s.pin, v⟩))
    | _ => none
  | _, _, _ => none
def alM : List Nat → List Od → List Nat
  | m :: mu, o :: os => if m = 0 then o.al ++ alM mu os else alM mu os
  | _, _ => []
def isLAt (fr : Fr) (i : Nat) : Bool := match fr[i]? with
  | some (some s) => isL s.v
  | _ => false
def nodupB : List Nat → Bool
  | [] => true
  | i :: is => !is.contains i && nodupB is
def flatsM : List Nat → List PV → Bool
  | m :: mu, v :: vs => flatM m v && flatsM mu vs
  | _, _ => true
def muPos : List Nat → List Nat := List.filter (fun m => m != 0)

abbrev Den := List PV → Option (PV × Nat × List PV)
/-- an exception that is handled: the slot of its name, its place, its dict's, its class's number, its fields -/
structure HxI where
  i : Nat
  a : Addr
  d : Addr
  c : Nat
  ns : List Str
  vs : List PV
/-- the defs of the table; the exception that is handled -/
structure GE where
  g : Nat → Den
  ex : Option HxI
instance : CoeFun GE fun _ => Nat → Den := ⟨GE.g⟩
def notExn : PV → Bool
  | .exn _ _ _ => false
  | _ => true
def scB : PV → Bool
  | .non => true | .bl _ => true | .int _ => true | .str _ => true | _ => false
/-- the exception in slot i, if it is the one that is handled -/
def exAt (G : GE) (fr : Fr) (i : Nat) : Option HxI := match G.ex, fr[i]? with
  | some x, some (some s) => match s.v with
    | .exr a d c ns vs => if i = x.i ∧ a = x.a ∧ d = x.d ∧ c = x.c ∧ ns = x.ns then some ⟨i, a, d, c, ns, vs⟩ else none
    | _ => none
  | _, _ => none
section
variable (G : GE)
mutual
def evE : IE → Fr → Option (Fr × Od)
  | .cst v, fr => some (fr, ⟨v, 0, [], false⟩)
  | .var i, fr => match fr[i]? with
    | some (some s) => some (fr, varOd i s)
    | _ => none
  | .prim p as, fr => (evL as fr).bind fun (fr1, os) => (primF p (os.map (·.v))).bind fun v => some (fr1, ⟨v, primM p v, primAl p os, false⟩)
  | .and a b, fr => (evE a fr).bind fun (fr1, o) => match o.v with
    | .bl true => evE b fr1
    | .bl false => some (fr1, ⟨.bl false, 0, [], false⟩)
    | _ => none
  | .or a b, fr => (evE a fr).bind fun (fr1, o) => match o.v with
    | .bl false => evE b fr1
    | .bl true => some (fr1, ⟨.bl true, 0, [], false⟩)
    | _ => none
  | .not a, fr => (evE a fr).bind fun (fr1, o) => match o.v with
    | .bl k => some (fr1, ⟨.bl (!k), 0, [], false⟩)
    | _ => none
  | .ife c a b, fr => (evE c fr).bind fun (fr1, o) => match o.v with
    | .bl true => evE a fr1
    | .bl false => evE b fr1
    | _ => none
  | .chain p q a b c, fr => (evE a fr).bind fun (fr1, oa) => if disj oa.al (mutd b) = true then (evE b fr1).bind fun (fr2, ob) => (primF p [oa.v, ob.v]).bind fun r => match r with
    | .bl true => if disj ob.al (mutd c) = true then (evE c fr2).bind fun (fr3, oc) => (primF q [ob.v, oc.v]).bind fun r2 => match r2 with
      | .bl k => some (fr3, ⟨.bl k, 0, [], false⟩)
      | _ => none else none
    | .bl false => some (fr2, ⟨.bl false, 0, [], false⟩)
    | _ => none else none
  | .call j mu na as, fr => (evLm mu as fr).bind fun (fr1, os) => (fillM mu as os fr1).bind fun vs =>
    if (nodupB (mutArgs mu as) && disj (alM mu os) (mutArgs mu as)) = true then (G j vs).bind fun (v, m, outs) =>
      if (if na then flatM m v && flatsM (muPos mu) outs else (muPos mu).isEmpty || (alM mu os).isEmpty) = true then
        (putM (mutArgs mu as) outs fr1).bind fun fr2 => some (fr2, ⟨v, m, if na then [] else alM mu os, false⟩) else none
    else none
  | .lc own pt it ts e k als, fr => (evI it fr).bind fun (fr1, im) => if (im.al.isEmpty && disj im.src (mutdL ts ++ mutd e) && disj als (mutdL ts ++ mutd e)) = true then
      (lcGo (fun v fr2 => (asgP pt v (wipeF fr2 own)).bind fun fr3 => (evT ts fr3).bind fun (fr4, t) => match t with
        | true => (evE e fr4).bind fun (fr5, o) => if elOk k als o = true then some (fr5, some o.v) else none
        | false => some (fr4, none)) im.vs fr1 []).bind fun (fr6, acc) => some (backF fr1 fr6 own, ⟨.lst acc, k, als, false⟩)
    else none
  | .pop0 i, fr => match fr[i]? with
    | some (some s) => if s.m = 1 then match s.v with
      | .lst vs => match vs[vs.length - 1]? with
        | some y => some (fr.set i (some ⟨1, s.pin, .lst vs.dropLast⟩), ⟨y, 0, [], false⟩)
        | none => none
      | _ => none else none
    | _ => none
  | .pop1 i a, fr => if isLAt fr i = false then none else (evE a fr).bind fun (fr1, o) => match fr1[i]?, o.v with
    | some (some s), .int z => if s.m = 1 ∧ -(2 ^ 63) ≤ z ∧ z < 2 ^ 63 then match s.v with
      | .lst vs => match ixN vs.length z with
        | some n => match vs[n]? with
          | some y => some (fr1.set i (some ⟨1, s.pin, .lst (vs.eraseIdx n)⟩), ⟨y, 0, [], false⟩)
          | none => none
        | none => none
      | _ => none else none
    | _, _ => none
  | .callx j mu na as, fr => (evLm mu as fr).bind fun (fr1, os) => (fillM mu as os fr1).bind fun vs =>
    if (nodupB (mutArgs mu as) && disj (alM mu os) (mutArgs mu as)) = true then (G j vs).bind fun (v, m, outs) =>
      if ((if na then flatM m v && flatsM (muPos mu) outs else (muPos mu).isEmpty || (alM mu os).isEmpty) && notExn v) = true then
        (putM (mutArgs mu as) outs fr1).bind fun fr2 => some (fr2, ⟨v, m, if na then [] else alM mu os, false⟩) else none
    else none
  | .fld i f, fr => (exAt G fr i).bind fun x => match (x.ns.zip x.vs).lookup f with
    | some v => if scB v = true then some (fr, ⟨v, 0, [], false⟩) else none
    | none => none
  | .isx i n l, fr => (exAt G fr i).bind fun x => if x.c < n then some (fr, ⟨.bl (l.contains x.c), 0, [], false⟩) else none
def evL : IEs → Fr → Option (Fr × List Od)
  | .nil, fr => some (fr, [])
  | .cons a as, fr => (evE a fr).bind fun (fr1, o) => if disj o.al (mutdL as) = true then (evL as fr1).bind fun (fr2, os) => some (fr2, o :: os) else none
/-- arguments: those that are changed in place are not read yet -/
def evLm : List Nat → IEs → Fr → Option (Fr × List Od)
  | _, .nil, fr => some (fr, [])
  | [], .cons _ _, _ => none
  | m :: mu, .cons a as, fr => if m = 0 then (evE a fr).bind fun (fr1, o) => if disj o.al (mutdL as) = true then (evLm mu as fr1).bind fun (fr2, os) => some (fr2, o :: os) else none
    else if (isSlot fr (varOf a)) = true then (evLm mu as fr).bind fun (fr2, os) => some (fr2, ⟨.non, 0, [], false⟩ :: os) else none
def evT : IEs → Fr → Option (Fr × Bool)
  | .nil, fr => some (fr, true)
  | .cons a .nil, fr => (evE a fr).bind fun (fr1, o) => match o.v with
    | .bl k => some (fr1, k)
    | _ => none
  | .cons _ (.cons _ _), _ => none
def evI : IT → Fr → Option (Fr × Itm)
  | .seq a, fr => (evE a fr).bind fun (fr1, o) => (iterOf o.v).bind fun vs => some (fr1, ⟨vs, o.al, elal o⟩)
  | .rng1 a, fr => (evE a fr).bind fun (fr1, o) => (rng1F o.v).bind fun vs => some (fr1, ⟨vs, [], []⟩)
  | .rng2 a b, fr => (evE a fr).bind fun (fr1, oa) => (evE b fr1).bind fun (fr2, ob) => (rng2F oa.v ob.v).bind fun vs => some (fr2, ⟨vs, [], []⟩)
  | .enum a, fr => (evE a fr).bind fun (fr1, o) => match o.v with
    | .lst vs => some (fr1, ⟨enumP 0 vs, o.al, elal o⟩)
    | _ => none
  | .zip a b, fr => (evE a fr).bind fun (fr1, oa) => if disj oa.al (mutd b) = true then (evE b fr1).bind fun (fr2, ob) => match oa.v, ob.v with
    | .lst vs, .lst ws => some (fr2, ⟨zipP vs ws, oa.al ++ ob.al, elal oa ++ elal ob⟩)
    | _, _ => none else none
  | .rev a, fr => (evE a fr).bind fun (fr1, o) => match o.v with
    | .lst vs => some (fr1, ⟨vs.reverse, o.al, elal o⟩)
    | _ => none
end
end
end VI
namespace VI
open PySem PySem.Spec PyProof.Rows L2

/-! ### statements -/
inductive Fl where
  | next | brk | cont | ret (v : PV) (m : Nat)
def augF : Prim → PV → PV → Option PV
  | .add, .int i, .int j => some (.int (i + j))
  | .sub, .int i, .int j => some (.int (i - j))
  | _, _, _ => none
def forGo (asg : PV → Fr → Option Fr) (b : Fr → Option (Fr × Fl)) : List PV → Fr → Option (Fr × Fl)
  | [], fr => some (fr, .next)
  | v :: vs, fr => (asg v fr).bind fun fr1 => (b fr1).bind fun (fr2, fl) => match fl with
    | .next => forGo asg b vs fr2
    | .cont => forGo asg b vs fr2
    | .brk => some (fr2, .next)
    | .ret v m => some (fr2, .ret v m)
def whN (c : Fr → Option (Fr × Bool)) (b : Fr → Option (Fr × Fl)) : Nat → Fr → Option (Fr × Fl)
  | 0, _ => none
  | n + 1, fr => (c fr).bind fun (fr1, k) => match k with
    | false => some (fr1, .next)
    | true => (b fr1).bind fun (fr2, fl) => match fl with
      | .next => whN c b n fr2
      | .cont => whN c b n fr2
      | .brk => some (fr2, .next)
      | .ret v m => some (fr2, .ret v m)
open Classical in
noncomputable def wh (c : Fr → Option (Fr × Bool)) (b : Fr → Option (Fr × Fl)) (fr : Fr) : Option (Fr × Fl) :=
  if h : ∃ n r, whN c b n fr = some r then whN c b (Classical.choose h) fr else none
theorem whN_mono {c : Fr → Option (Fr × Bool)} {b : Fr → Option (Fr × Fl)} : ∀ (n : Nat) (fr : Fr) (r : Fr × Fl) (k : Nat), whN c b n fr = some r → whN c b (n + k) fr = some r
  | 0, _, _, _, h => nomatch h
  | n + 1, fr, r, k, h => by
    rw [show n + 1 + k = (n + k) + 1 by omega]
    unfold whN at h ⊢
    cases hc : c fr with
    | none => rw [hc] at h; cases h
    | some p =>
      obtain ⟨fr1, q⟩ := p
      rw [hc] at h
      simp only [Option.bind_some] at h ⊢
      cases q with
      | false => exact h
      | true =>
        cases hb : b fr1 with
        | none => rw [hb] at h; cases h
        | some p =>
          obtain ⟨fr2, fl⟩ := p
          rw [hb] at h
          simp only [Option.bind_some] at h ⊢
          cases fl with
          | next => exact whN_mono n fr2 r k h
          | cont => exact whN_mono n fr2 r k h
          | brk => exact h
          | ret v m => exact h
theorem wh_of {c : Fr → Option (Fr × Bool)} {b : Fr → Option (Fr × Fl)} {n : Nat} {fr : Fr} {r : Fr × Fl} (h : whN c b n fr = some r) : wh c b fr = some r := by
  have e : ∃ n r, whN c b n fr = some r := ⟨n, r, h⟩
  unfold wh
  rw [dif_pos e]
  obtain ⟨r', h'⟩ := Classical.choose_spec e
  have h1 := whN_mono _ _ _ n h'
  have h2 := whN_mono _ _ _ (Classical.choose e) h
  rw [Nat.add_comm] at h2
  rw [h1] at h2
  cases h2
  exact h'
theorem wh_some {c : Fr → Option (Fr × Bool)} {b : Fr → Option (Fr × Fl)} {fr : Fr} {r : Fr × Fl} (h : wh c b fr = some r) : ∃ n, whN c b n fr = some r := by
  unfold wh at h
  split at h
  · exact ⟨_, h⟩
  · cases h
/-- a while unfolds -/
theorem wh_eq (c : Fr → Option (Fr × Bool)) (b : Fr → Option (Fr × Fl)) (fr : Fr) : wh c b fr = (c fr).bind fun (fr1, k) => match k with
    | false => some (fr1, .next)
    | true => (b fr1).bind fun (fr2, fl) => match fl with
      | .next => wh c b fr2
      | .cont => wh c b fr2
      | .brk => some (fr2, .next)
      | .ret v m => some (fr2, .ret v m) := by
  have key : ∀ r, wh c b fr = some r ↔ ((c fr).bind fun (fr1, k) => match k with
    | false => some (fr1, Fl.next)
    | true => (b fr1).bind fun (fr2, fl) => match fl with
      | .next => wh c b fr2
      | .cont => wh c b fr2
      | .brk => some (fr2, .next)
      | .ret v m => some (fr2, .ret v m)) = some r := by
    intro r
    constructor
    · intro h
      obtain ⟨n, h⟩ := wh_some h
      cases n with
      | zero => cases h
      | succ n =>
        unfold whN at h
        cases hc : c fr with
        | none => rw [hc] at h; cases h
        | some p =>
          obtain ⟨fr1, q⟩ := p
          rw [hc] at h
          simp only [Option.bind_some] at h ⊢
          cases q with
          | false => exact h
          | true =>
            simp only at h ⊢
            cases hb : b fr1 with
            | none => rw [hb] at h; cases h
            | some p =>
              obtain ⟨fr2, fl⟩ := p
              rw [hb] at h
              simp only [Option.bind_some] at h ⊢
              cases fl with
              | next => exact wh_of h
              | cont => exact wh_of h
              | brk => exact h
              | ret v m => exact h
    · intro h
      cases hc : c fr with
      | none => rw [hc] at h; cases h
      | some p =>
        obtain ⟨fr1, q⟩ := p
        rw [hc] at h
        simp only [Option.bind_some] at h
        cases q with
        | false => exact wh_of (n := 1) (by unfold whN; rw [hc]; exact h)
        | true =>
          simp only at h
          cases hb : b fr1 with
          | none => rw [hb] at h; cases h
          | some p =>
            obtain ⟨fr2, fl⟩ := p
            rw [hb] at h
            simp only [Option.bind_some] at h
            cases fl with
            | next =>
              obtain ⟨n, h⟩ := wh_some h
              exact wh_of (n := n + 1) (by unfold whN; rw [hc]; simp only [Option.bind_some]; rw [hb]; exact h)
            | cont =>
              obtain ⟨n, h⟩ := wh_some h
              exact wh_of (n := n + 1) (by unfold whN; rw [hc]; simp only [Option.bind_some]; rw [hb]; exact h)
            | brk => exact wh_of (n := 1) (by unfold whN; rw [hc]; simp only [Option.bind_some]; rw [hb]; exact h)
            | ret v m => exact wh_of (n := 1) (by unfold whN; rw [hc]; simp only [Option.bind_some]; rw [hb]; exact h)
  cases e : wh c b fr with
  | some r => exact ((key r).mp e).symm
  | none =>
    cases e2 : ((c fr).bind fun (fr1, k) => match k with
      | false => some (fr1, Fl.next)
      | true => (b fr1).bind fun (fr2, fl) => match fl with
        | .next => wh c b fr2
        | .cont => wh c b fr2
        | .brk => some (fr2, .next)
        | .ret v m => some (fr2, .ret v m)) with
    | none => rfl
    | some r => rw [(key r).mpr e2] at e; cases e

/-- an item of an owned list is put in: what the list's ownership is then -/
def putOk (m : Nat) (o : Od) : Bool := m == 1 || (m == o.m + 1 && o.al.isEmpty)
open Classical in
/-- behind a handler: the same wherever the exception and its dict stand; its name is unbound -/
noncomputable def tryR (i : Nat) (f : Addr → Addr → Option (Fr × Fl)) : Option (Fr × Fl) :=
  if h : ∃ r, ∀ a d, (f a d).map (fun p => (p.1.set i none, p.2)) = some r then some (Classical.choose h) else none
theorem tryR_of {i : Nat} {f : Addr → Addr → Option (Fr × Fl)} {r : Fr × Fl} (h : ∀ a d, (f a d).map (fun p => (p.1.set i none, p.2)) = some r) : tryR i f = some r := by
  have hx : ∃ r, ∀ a d, (f a d).map (fun p => (p.1.set i none, p.2)) = some r := ⟨r, h⟩
  unfold tryR
  rw [dif_pos hx]
  have := (Classical.choose_spec hx) 0 0
  rw [h] at this
  exact this.symm
theorem tryR_ok {i : Nat} {f : Addr → Addr → Option (Fr × Fl)} {r : Fr × Fl} (h : tryR i f = some r) (a d : Addr) : ∃ fr', f a d = some (fr', r.2) ∧ r.1 = fr'.set i none := by
  unfold tryR at h
  split at h
  · rename_i hx
    cases h
    have := Classical.choose_spec hx a d
    cases e : f a d with
    | none => rw [e] at this; cases this
    | some p =>
      rw [e] at this
      have := Option.some.inj this
      exact ⟨p.1, by rw [← this], by rw [← this]⟩
  · cases h
def slFree (fr : Fr) (i : Nat) : Bool := match fr[i]? with
  | some none => true
  | _ => false
mutual
noncomputable def evS (G : GE) : IS → Fr → Option (Fr × Fl)
  | .asg i e, fr => (evE G e fr).bind fun (fr1, o) => (dem o.al fr1).bind fun fr2 => (setS i o.m o.v fr2).bind fun fr3 => some (fr3, .next)
  | .asgT p e, fr => (evE G e fr).bind fun (fr1, o) => (dem o.al fr1).bind fun fr2 => (asgP p o.v fr2).bind fun fr3 => some (fr3, .next)
  | .aug i p e, fr => (evE G e fr).bind fun (fr1, o) => match fr[i]? with
    | some (some s) => (augF p s.v o.v).bind fun v => (setS i 0 v fr1).bind fun fr3 => some (fr3, .next)
    | _ => none
  | .seti i ix e, fr => (evE G e fr).bind fun (fr1, o) => if (disj o.al (mutd ix) && isLAt fr1 i) = true then (evE G ix fr1).bind fun (fr2, oi) => (dem o.al fr2).bind fun fr3 =>
    match fr3[i]?, oi.v with
    | some (some s), .int z => match s.v with
      | .lst vs => match ixN vs.length z with
        | some n => if (s.m != 0 && putOk s.m o) = true then some (fr3.set i (some ⟨s.m, s.pin, .lst (vs.set n o.v)⟩), .next) else none
        | none => none
      | _ => none
    | _, _ => none else none
  | .setij i ix jx e, fr => (evE G e fr).bind fun (fr1, o) => if (disj o.al (mutd ix ++ mutd jx) && isLAt fr1 i) = true then (evE G ix fr1).bind fun (fr2, oi) =>
    if (mutd jx).isEmpty = true then (evE G jx fr2).bind fun (fr3, oj) => (dem o.al fr3).bind fun fr4 =>
    match fr4[i]?, oi.v, oj.v with
    | some (some s), .int z, .int y => match s.v with
      | .lst vs => match ixN vs.length z with
        | some n => match vs[n]? with
          | some (.lst ws) => match ixN ws.length y with
            | some k => if s.m = 2 then some (fr4.set i (some ⟨s.m, s.pin, .lst (vs.set n (.lst (ws.set k o.v)))⟩), .next) else none
            | none => none
          | _ => none
        | none => none
      | _ => none
    | _, _, _ => none else none else none
  | .augi i p ix e, fr => if isLAt fr i = false then none else (evE G ix fr).bind fun (fr1, oi) => if isLAt fr1 i = false then none else match fr1[i]? with
    | some (some s1) => (pvIdx s1.v oi.v).bind fun x => (evE G e fr1).bind fun (fr2, o) => (augF p x o.v).bind fun y => match fr2[i]?, oi.v with
      | some (some s), .int z => match s.v with
        | .lst vs => match ixN vs.length z with
          | some n => if s.m = 1 then some (fr2.set i (some ⟨s.m, s.pin, .lst (vs.set n y)⟩), .next) else none
          | none => none
        | _ => none
      | _, _ => none
    | _ => none
  | .app i e, fr => if isLAt fr i = false then none else (evE G e fr).bind fun (fr1, o) => (dem o.al fr1).bind fun fr2 => match fr2[i]? with
    | some (some s) => match s.v with
      | .lst vs => if (s.m != 0 && putOk s.m o && decide (vs.length < sizeLine)) = true then some (fr2.set i (some ⟨s.m, s.pin, .lst (vs ++ [o.v])⟩), .next) else none
      | _ => none
    | _ => none
  | .ext i e, fr => if isLAt fr i = false then none else (evE G e fr).bind fun (fr1, o) => if o.top = true ∨ o.al = [] then match fr1[i]? with
    | some (some s) => match s.v, o.v with
      | .lst vs, .lst ws => if s.m = 1 ∧ vs.length + ws.length ≤ sizeLine then some (fr1.set i (some ⟨s.m, s.pin, .lst (vs ++ ws)⟩), .next) else none
      | _, _ => none
    | _ => none else none
  | .ins i a e, fr => none
  | .ex e, fr => (evE G e fr).bind fun (fr1, o) => some (fr1, .next)
  | .ret e, fr => match e with
    | .var i => match fr[i]? with
      | some (some s) => if s.m = 0 then some (fr, .ret s.v 0) else if s.pin = true then none else some (fr.set i none, .ret s.v s.m)
      | _ => none
    | e => (evE G e fr).bind fun (fr1, o) => (dem o.al fr1).bind fun fr2 => some (fr2, .ret o.v o.m)
  | .retN, fr => some (fr, .ret .non 0)
  | .ite c a b, fr => (evE G c fr).bind fun (fr1, o) => match o.v with
    | .bl true => evSs G a fr1
    | .bl false => evSs G b fr1
    | _ => none
  | .whl c b, fr => wh (fun fr => (evE G c fr).bind fun (fr1, o) => match o.v with | .bl k => some (fr1, k) | _ => none) (evSs G b) fr
  | .for p it b, fr => (evI G it fr).bind fun (fr1, im) => if disj im.src (mutdSs b) = true then (dem im.al fr1).bind fun fr2 => forGo (asgP p) (evSs G b) im.vs fr2 else none
  | .brk, fr => some (fr, .brk)
  | .cont, fr => some (fr, .cont)
  | .pass, fr => some (fr, .next)
  | .rse c ns as, fr => (evL G as fr).bind fun (fr1, os) => if (os.all (fun o => scB o.v) && os.length == ns.length) = true then some (fr1, .ret (.exn c ns (os.map (·.v)).reverse) 0) else none
  | .xex e, fr => (evE G e fr).bind fun (fr1, o) => match o.v with
    | .exn c ns vs => some (fr1, .ret (.exn c ns vs) 0)
    | _ => some (fr1, .next)
  | .xasg i e, fr => (evE G e fr).bind fun (fr1, o) => match o.v with
    | .exn c ns vs => some (fr1, .ret (.exn c ns vs) 0)
    | _ => (dem o.al fr1).bind fun fr2 => (setS i o.m o.v fr2).bind fun fr3 => some (fr3, .next)
  | .xret e, fr => (evE G e fr).bind fun (fr1, o) => match o.v with
    | .exn c ns vs => some (fr1, .ret (.exn c ns vs) 0)
    | _ => (dem o.al fr1).bind fun fr2 => some (fr2, .ret o.v o.m)
  | .xnn e b, fr => (evE G e fr).bind fun (fr1, o) => match o.v with
    | .exn c ns vs => some (fr1, .ret (.exn c ns vs) 0)
    | v => if isNon v = true then some (fr1, .next) else evSs G b fr1
  | .tryx i n l o b h, fr => (evSs G b fr).bind fun (fr1, fl) => match fl with
    | .ret (.exn c ns vs) m => if c < n ∧ slFree fr1 i = true then (if l.contains c = true then tryR i (fun a d => evSs ⟨G.g, some ⟨i, a, d, c, ns, vs⟩⟩ h (fr1.set i (some ⟨0, false, .exr a d c ns vs⟩)))
        else if o = true then some (fr1, .ret (.exn c ns vs) m) else none) else none
    | fl => some (fr1, fl)
noncomputable def evSs (G : GE) : ISs → Fr → Option (Fr × Fl)
  | .nil, fr => some (fr, .next)
  | .cons a as, fr => (evS G a fr).bind fun (fr1, fl) => match fl with
    | .next => evSs G as fr1
    | .brk => some (fr1, .brk)
    | .cont => some (fr1, .cont)
    | .ret v m => some (fr1, .ret v m)
end

section
variable (G : GE)
/-! ### a def -/
/-- the parameters: those with a mark are changed in place -/
def argFr : List Nat → List PV → Fr
  | m :: mu, v :: vs => some ⟨m, m != 0, v⟩ :: argFr mu vs
  | _, _ => []
def initFr (n : Nat) (mu : List Nat) (vs : List PV) : Fr := argFr mu vs ++ List.replicate (n - mu.length) none
def outsOf : Nat → List Nat → Fr → Option (List PV)
  | _, [], _ => some []
  | i, m :: mu, fr => (outsOf (i + 1) mu fr).bind fun r => if m = 0 then some r else match fr[i]? with
    | some (some s) => if s.m = m then some (s.v :: r) else none
    | _ => none
noncomputable def denOf (n : Nat) (mu : List Nat) (body : ISs) : Den := fun vs =>
  if vs.length = mu.length then (evSs G body (initFr n mu vs)).bind fun (fr, fl) => (outsOf 0 mu fr).bind fun outs => match fl with
    | .ret v m => some (v, m, outs)
    | .next => some (.non, 0, outs)
    | _ => none
  else none
end
end VI
namespace VI
open PySem PySem.Spec PyProof.Rows L2

abbrev Ext (H H' : Hp) : Prop := ∀ b o, H b = some o → H' b = some o
abbrev plus (F : Addr → Prop) (fo : List Addr) : Addr → Prop := fun a => F a ∨ a ∈ fo

section
variable {K : PySem.W.Frag} {H H1 H2 H' : Hp} {F F' O O' : Addr → Prop} {fr fr1 fr2 fr' : Fr} {σ : L2.St} {fp fp1 fp2 fp' : FP}

theorem mem_disj {a b : List Nat} (h : disj a b = true) {i : Nat} (hi : i ∈ a) : i ∉ b := by
  unfold disj at h
  have := List.all_eq_true.mp h i hi
  simpa using this
theorem RT.step {O1 : Addr → Prop} (eff : ∀ b o, H b = some o → ¬ O b → H' b = some o) (hO : ∀ a, O' a → O a ∨ H a = none) {v : PV} {x : V} (eff1 : ∀ b o, H b = some o → ¬ O1 b → H' b = some o) (hr : R K H O1 v x) (h : RT K H O v x) : RT K H' O' v x := by
  cases v with
  | lst vs =>
    obtain ⟨a, ys, e, t, r⟩ := h
    obtain ⟨a', ys', e', t', _⟩ := hr
    rw [e] at e'; cases e'
    exact ⟨a, ys, e, eff1 a _ t t'.2, Rs.step eff hO _ _ r⟩
  | dk ks vs =>
    obtain ⟨a, ys, e, t, l, r⟩ := h
    obtain ⟨a', ys', e', t', _⟩ := hr
    rw [e] at e'; cases e'
    exact ⟨a, ys, e, eff1 a _ t t'.2, l, Rs.step eff hO _ _ r⟩
  | dt ks vs =>
    obtain ⟨a, ys, e, t, l, r⟩ := h
    obtain ⟨a', ys', e', t', _⟩ := hr
    rw [e] at e'; cases e'
    exact ⟨a, ys, e, eff1 a _ t t'.2, l, Rs.step eff hO _ _ r⟩
  | non => exact h
  | bl b => exact h
  | int i => exact h
  | str s => exact h
  | ty s => exact h
  | tup vs => exact R.step eff hO (.tup vs) x h
  | scr vs => exact R.step eff hO (.scr vs) x h
  | exn c ns vs => exact h
  | exr a d c ns vs => exact R.step (K := K) eff hO (.exr a d c ns vs) x h

/-- an operand through a later evaluation -/
theorem OR.later {o : Od} {x : V} {fo : List Addr} {D : List Nat} (h : OR K H1 F fp1 o x fo) (g : FR K H1 (plus F fo) fr1 σ fp1) (keep : ∀ i, i ∉ D → fp2 i = fp1 i) (st : StepD D H1 fp1 H2 fp2) (dj : disj o.al D = true) : OR K H2 F fp2 o x fo := by
  have eff : ∀ b u, H1 b = some u → ¬ OwA (plus F fo) fp1 o.al b → H2 b = some u := fun b u e n => st.eff b u e fun i hi hb => n (.inr ⟨i, hb, fun z => mem_disj dj z hi⟩)
  have hO : ∀ a, OwA (plus F fo) fp2 o.al a → OwA (plus F fo) fp1 o.al a ∨ H1 a = none := fun a z => by
    rcases z with z | ⟨i, hi, n⟩
    · exact .inl (.inl z)
    · rcases st.sub i a hi with z | z
      · exact .inl (.inr ⟨i, z, n⟩)
      · exact .inr z
  refine ⟨RM.step eff hO _ _ _ _ (fun b hb u e => st.eff b u e fun i _ hbi => (g.amb b (.inr hb)).2 i hbi) h.rep, h.nd, fun b hb z => ?_, fun t => ?_⟩
  · rcases z with z | ⟨i, z⟩
    · exact h.ap b hb (.inl z)
    · rcases st.sub i b z with q | q
      · exact h.ap b hb (.inr ⟨i, q⟩)
      · obtain ⟨u, e⟩ := (g.amb b (.inr hb)).1
        rw [e] at q; cases q
  · refine RT.step (O := Ow F fp1) (O1 := OwA F fp1 o.al) (fun b u e n => st.eff b u e fun i _ hb => n (.inr ⟨i, hb⟩)) (fun a z => ?_) (fun b u e n => st.eff b u e fun i hi hb => n (.inr ⟨i, hb, fun z => mem_disj dj z hi⟩)) h.r (h.tp t)
    rcases z with z | ⟨i, hi⟩
    · exact .inl (.inl z)
    · rcases st.sub i a hi with z | z
      · exact .inl (.inr ⟨i, z⟩)
      · exact .inr z

/-! ### what an expression's evaluation gives -/
structure Ex (K : PySem.W.Frag) (H : Hp) (F : Addr → Prop) (σ : L2.St) (fr : Fr) (fp : FP) (D : List Nat) (H' : Hp) (fr' : Fr) (fp' : FP) (fo : List Addr) (o : Od) (x : V) : Prop where
  hf : FR K H' (plus F fo) fr' σ fp'
  keep : ∀ i, i ∉ D → fr'[i]? = fr[i]? ∧ fp' i = fp i
  st : StepD D H fp H' fp'
  nw : ∀ b ∈ fo, H b = none
  od : OR K H' F fp' o x fo

abbrev Ev := Fr → Option (Fr × Od)
abbrev EvL := Fr → Option (Fr × List Od)
/-- the reading t of an expression holds where the evaluator gives a value -/
def Sat (K : PySem.W.Frag) (ev : Ev) (D : List Nat) (t : TE) : Prop :=
  ∀ fr σ H F fp fr' o, FR K H F fr σ fp → ev fr = some (fr', o) → ∀ Q : VK, (∀ x H' fp' fo, Ex K H F σ fr fp D H' fr' fp' fo o x → Q x H') → t σ H Q
def SatT (K : PySem.W.Frag) (ev : Ev) (D : List Nat) (t : TT) : Prop :=
  ∀ fr σ H F fp fr' o k, FR K H F fr σ fp → ev fr = some (fr', o) → o.v = .bl k → ∀ Q : Bool → Hp → Prop, (∀ H' fp' fo, Ex K H F σ fr fp D H' fr' fp' fo o (.bl k) → Q k H') → t σ H Q
def ORs (K : PySem.W.Frag) (H : Hp) (F : Addr → Prop) (fp : FP) : List Od → List V → List Addr → Prop
  | [], xs, fo => xs = [] ∧ fo = []
  | o :: os, xs, fo => ∃ x xs' f1 f2, xs = x :: xs' ∧ fo = f1 ++ f2 ∧ OR K H F fp o x f1 ∧ ORs K H F fp os xs' f2 ∧ ∀ b ∈ f1, b ∉ f2
structure ExL (K : PySem.W.Frag) (H : Hp) (F : Addr → Prop) (σ : L2.St) (fr : Fr) (fp : FP) (D : List Nat) (H' : Hp) (fr' : Fr) (fp' : FP) (fo : List Addr) (os : List Od) (xs : List V) : Prop where
  hf : FR K H' (plus F fo) fr' σ fp'
  keep : ∀ i, i ∉ D → fr'[i]? = fr[i]? ∧ fp' i = fp i
  st : StepD D H fp H' fp'
  nw : ∀ b ∈ fo, H b = none
  od : ORs K H' F fp' os xs fo
def SatL (K : PySem.W.Frag) (ev : EvL) (D : List Nat) (t : TA) : Prop :=
  ∀ fr σ H F fp fr' os, FR K H F fr σ fp → ev fr = some (fr', os) → ∀ Q : List V → Hp → Prop, (∀ xs H' fp' fo, ExL K H F σ fr fp D H' fr' fp' fo os xs → Q xs H') → t σ H Q

theorem OR.monoF {o : Od} {x : V} {fo : List Addr} (h : OR K H F fp o x fo) (hF : ∀ a, F' a → F a) : OR K H F' fp o x fo where
  rep := h.rep.mono fun a z => by
    rcases z with (z | z) | z
    · exact .inl (.inl (hF a z))
    · exact .inl (.inr z)
    · exact .inr z
  nd := h.nd
  ap := fun b hb z => h.ap b hb (z.elim (fun z => .inl (hF b z)) .inr)
  tp := fun t => (h.tp t).mono fun a z => z.elim (fun z => .inl (hF a z)) .inr
theorem ORs.monoF (hF : ∀ a, F' a → F a) : ∀ {os : List Od} {xs : List V} {fo : List Addr}, ORs K H F fp os xs fo → ORs K H F' fp os xs fo
  | [], _, _, h => h
  | o :: os, xs, fo, h => by
    obtain ⟨x, xs', f1, f2, e, ef, r, q, d⟩ := h
    exact ⟨x, xs', f1, f2, e, ef, r.monoF hF, q.monoF hF, d⟩
theorem ORs.ap : ∀ {os : List Od} {xs : List V} {fo : List Addr}, ORs K H F fp os xs fo → ∀ b ∈ fo, ¬ Ow F fp b
  | [], _, _, h, b, hb => by rw [h.2] at hb; cases hb
  | o :: os, xs, fo, h, b, hb => by
    obtain ⟨x, xs', f1, f2, e, ef, r, q, d⟩ := h
    rw [ef] at hb
    rcases List.mem_append.mp hb with hb | hb
    · exact r.ap b hb
    · exact q.ap b hb
theorem plus_app {F : Addr → Prop} {f1 f2 : List Addr} {a : Addr} : plus F (f1 ++ f2) a ↔ plus (plus F f1) f2 a := by
  unfold plus
  rw [List.mem_append]
  exact or_assoc.symm
theorem FR.congrF (h : FR K H F fr σ fp) (hF : ∀ a, F' a ↔ F a) : FR K H F' fr σ fp := h.monoF fun a z => (hF a).mp z

theorem StepD.old {D : List Nat} (st : StepD D H fp H1 fp1) {b : Addr} (h : H1 b = none) : H b = none := by
  cases q : H b with
  | none => rfl
  | some o =>
    obtain ⟨o', e⟩ := st.there b o q
    rw [h] at e; cases e
/-- an expression, then a list of them -/
theorem Ex.cons {D D2 : List Nat} {fo f2 : List Addr} {o : Od} {x : V} {os : List Od} {xs : List V} (h : Ex K H F σ fr fp D H1 fr1 fp1 fo o x) (dj : disj o.al D2 = true) (q : ExL K H1 (plus F fo) σ fr1 fp1 D2 H2 fr2 fp2 f2 os xs) :
    ExL K H F σ fr fp (D ++ D2) H2 fr2 fp2 (fo ++ f2) (o :: os) (x :: xs) where
  hf := q.hf.congrF fun a => plus_app
  keep := fun i hi => by
    have h1 := h.keep i fun z => hi (List.mem_append_left _ z)
    have h2 := q.keep i fun z => hi (List.mem_append_right _ z)
    exact ⟨h2.1.trans h1.1, h2.2.trans h1.2⟩
  st := (h.st.mono fun i z => List.mem_append_left _ z).trans (q.st.mono fun i z => List.mem_append_right _ z)
  nw := fun b hb => (List.mem_append.mp hb).elim (h.nw b) fun z => h.st.old (q.nw b z)
  od := ⟨x, xs, fo, f2, rfl, rfl, h.od.later h.hf (fun i hi => (q.keep i hi).2) q.st dj, q.od.monoF fun a z => .inl z, fun b hb z => q.od.ap b z (.inl (.inr hb))⟩
theorem Ex.one {D : List Nat} {fo : List Addr} {o : Od} {x : V} (h : Ex K H F σ fr fp D H1 fr1 fp1 fo o x) : ExL K H F σ fr fp D H1 fr1 fp1 fo [o] [x] where
  hf := h.hf
  keep := h.keep
  st := h.st
  nw := h.nw
  od := ⟨x, [], fo, [], rfl, by simp, h.od, ⟨rfl, rfl⟩, fun _ _ z => nomatch z⟩
theorem ExL.nil (h : FR K H F fr σ fp) : ExL K H F σ fr fp [] H fr fp [] [] [] where
  hf := h.monoF fun a z => z.elim id fun z => nomatch z
  keep := fun _ _ => ⟨rfl, rfl⟩
  st := .refl _ _ _
  nw := fun _ z => nomatch z
  od := ⟨rfl, rfl⟩

/-- two operands -/
def ev2 (a b : Ev) (Db : List Nat) : EvL := fun fr => (a fr).bind fun (fr1, o) => if disj o.al Db = true then (b fr1).bind fun (fr2, o2) => some (fr2, [o, o2]) else none
theorem two {eva evb : Ev} {Da Db : List Nat} {ta tb : TE} (ha : Sat K eva Da ta) (hb : Sat K evb Db tb) {os : List Od} (g : FR K H F fr σ fp) (e : ev2 eva evb Db fr = some (fr', os)) {R : V → V → Hp → Prop}
    (h : ∀ x y H' fp' fo, ExL K H F σ fr fp (Da ++ Db) H' fr' fp' fo os [x, y] → R x y H') : ta σ H fun x H1 => tb σ H1 fun y H2 => R x y H2 := by
  unfold ev2 at e
  cases ea : eva fr with
  | none => rw [ea] at e; cases e
  | some p =>
    obtain ⟨fr1, o⟩ := p
    rw [ea] at e
    simp only [Option.bind_some] at e
    split at e
    · rename_i dj
      cases eb : evb fr1 with
      | none => rw [eb] at e; cases e
      | some p =>
        obtain ⟨fr2, o2⟩ := p
        rw [eb] at e
        simp only [Option.bind_some, Option.some.injEq, Prod.mk.injEq] at e
        obtain ⟨e1, e2⟩ := e
        subst e1 e2
        refine ha fr σ H F fp fr1 o g ea _ fun x H1 fp1 fo ex => ?_
        refine hb fr1 σ H1 (plus F fo) fp1 fr2 o2 ex.hf eb _ fun y H2 fp2 f2 ey => ?_
        exact h x y H2 fp2 _ (ex.cons dj ey.one)
    · cases e

/-! ### primitives, by values -/
/-- what a primitive's result may be: v at some x; the heap may have grown -/
def PPost (K : PySem.W.Frag) (H : Hp) (O : Addr → Prop) (m : Nat) (v : PV) (Q : VK) : Prop := match m with
  | 0 => ∀ x H', Ext H H' → R K H' O v x → Q x H'
  | _ => ∀ vs ys p H', v = .lst vs → Ext H H' → H p = none → H' p = some (.lst ys) → Rs K H' (plus O [p]) vs ys → Q (.ref p) H'
def RTs (K : PySem.W.Frag) (H : Hp) (O : Addr → Prop) : List PV → List V → Prop
  | [], xs => xs = []
  | v :: vs, xs => ∃ x xs', xs = x :: xs' ∧ RT K H O v x ∧ RTs K H O vs xs'
/-- r tells what the call or operator asks of its operands' values -/
def PSat (K : PySem.W.Frag) (p : Prim) (r : List V → Hp → VK → Prop) : Prop :=
  ∀ H O O' ws xs v, (match primK p with | .keep => Rs K H O ws xs | _ => RTs K H O ws xs) → (match primK p with | .flat => True | _ => O' = O) → primF p ws = some v → (∀ a, O' a → ∃ o, H a = some o) → ∀ Q, PPost K H O' (primM p v) v Q → r xs H Q
theorem ORs.rts {f : Od → List Nat} (hf : ∀ {o x fo}, OR K H F fp o x fo → RT K H (OwA F fp (f o)) o.v x) : ∀ {os : List Od} {xs : List V} {fo : List Addr}, ORs K H F fp os xs fo → RTs K H (OwA F fp (alsOf f os)) (os.map (·.v)) xs
  | [], _, _, h => h.1
  | o :: os, xs, fo, h => by
    obtain ⟨x, xs', f1, f2, e, ef, r, q, d⟩ := h
    refine ⟨x, xs', e, (hf r).mono fun a z => OwA.mono (fun i hi => List.mem_append_left _ hi) z, ?_⟩
    have := ORs.rts hf q
    have mono : ∀ {ws : List PV} {xs : List V}, RTs K H (OwA F fp (alsOf f os)) ws xs → RTs K H (OwA F fp (alsOf f (o :: os))) ws xs := by
      intro ws
      induction ws with
      | nil => exact fun h => h
      | cons w ws ih =>
        intro xs ⟨x, xs', e, r, q⟩
        exact ⟨x, xs', e, r.mono fun a z => OwA.mono (fun i hi => List.mem_append_right _ hi) z, ih q⟩
    exact mono this
theorem ORs.rs {f : Od → List Nat} (hf : ∀ {o x fo}, OR K H F fp o x fo → R K H (OwA F fp (f o)) o.v x) : ∀ {os : List Od} {xs : List V} {fo : List Addr}, ORs K H F fp os xs fo → Rs K H (OwA F fp (alsOf f os)) (os.map (·.v)) xs
  | [], _, _, h => h.1
  | o :: os, xs, fo, h => by
    obtain ⟨x, xs', f1, f2, e, ef, r, q, d⟩ := h
    refine ⟨x, xs', e, (hf r).mono fun a z => OwA.mono (fun i hi => List.mem_append_left _ hi) z, ?_⟩
    exact (ORs.rs hf q).mono fun a z => OwA.mono (fun i hi => List.mem_append_right _ hi) z
theorem primM_le (p : Prim) (v : PV) : primM p v = 0 ∨ (primM p v = 1 ∧ ∃ vs, v = .lst vs) := by
  unfold primM
  split
  · rename_i h
    refine .inr ⟨rfl, ?_⟩
    cases v <;> simp [isL] at h
    exact ⟨_, rfl⟩
  · exact .inl rfl
/-- the end of a primitive -/
theorem ExL.prim {D : List Nat} {fo : List Addr} {os : List Od} {xs : List V} {p : Prim} {v : PV} {r : List V → Hp → VK → Prop} (h : ExL K H F σ fr fp D H1 fr1 fp1 fo os xs) (hp : PSat K p r) (e : primF p (os.map (·.v)) = some v) {Q : VK}
    (q : ∀ x H' fp' fo, Ex K H F σ fr fp D H' fr1 fp' fo ⟨v, primM p v, primAl p os, false⟩ x → Q x H') : r xs H1 Q := by
  have key : ∀ O, (match primK p with | .flat => True | _ => O = OwA F fp1 (primAl p os)) → ∀ Q, PPost K H1 (match primK p with | .flat => Ow F fp1 | _ => O) (primM p v) v Q → r xs H1 Q := by
    intro O hO Q hQ
    have hf0 : FR K H1 F fr1 σ fp1 := h.hf.monoF fun a z => .inl z
    refine hp H1 (match primK p with | .flat => OwA F fp1 (alsOf elal os) | _ => O) _ _ xs v ?_ ?_ e (fun a z => ?_) Q hQ
    · cases hk : primK p with
      | flat => exact h.od.rts fun r => r.rt
      | elem =>
        rw [hk] at hO
        simp only [primAl, hk] at hO
        subst hO
        exact h.od.rts fun r => r.rt
      | keep =>
        rw [hk] at hO
        simp only [primAl, hk] at hO
        subst hO
        exact h.od.rs fun r => r.r
    · cases hk : primK p with
      | flat => trivial
      | elem => rfl
      | keep => rfl
    · cases hk : primK p with
      | flat => rw [hk] at z; exact hf0.owTracked z
      | elem =>
        rw [hk] at hO z
        have hO : O = _ := hO
        subst hO
        exact hf0.owTracked z.ow
      | keep =>
        rw [hk] at hO z
        have hO : O = _ := hO
        subst hO
        exact hf0.owTracked z.ow
  have hf0 : FR K H1 F fr1 σ fp1 := h.hf.monoF fun a z => .inl z
  have al0 : ∀ a, OwA F fp1 (primAl p os) a → (match primK p with | .flat => Ow F fp1 | _ => OwA F fp1 (primAl p os)) a := fun a z => by
    cases hk : primK p with
    | flat => exact z.ow
    | elem => exact z
    | keep => exact z
  refine key (OwA F fp1 (primAl p os)) (by cases primK p <;> trivial) Q ?_
  rcases primM_le p v with m0 | ⟨m1, vs0, ev⟩
  · rw [m0]
    intro x H' ext hr
    refine q x H' fp1 [] ⟨?_, h.keep, ?_, (fun _ z => nomatch z), ⟨?_, .nil, fun _ z => (nomatch z), fun z => nomatch z⟩⟩
    · exact (hf0.same ext).monoF fun a z => z.elim id fun z => nomatch z
    · exact h.st.trans ⟨fun b o eb _ => ext b o eb, fun _ _ z => .inl z, fun b o eb => ⟨o, ext b o eb⟩⟩
    · rw [m0, RM.zero]
      refine ⟨rfl, hr.mono fun a z => al0 a ?_⟩
      rcases z with (z | z) | z
      · exact .inl z
      · cases z
      · exact .inr z
  · rw [m1]
    intro vs ys pa H' ev' ext hn hl hs
    refine q (.ref pa) H' fp1 [pa] ⟨?_, h.keep, ?_, (fun b hb => by rw [List.mem_singleton.mp hb]; exact h.st.old hn), ⟨?_, by simp, fun b hb z => ?_, fun z => nomatch z⟩⟩
    · refine hf0.go ext (fun a z => ?_) fun a z => ?_
      · rcases z with z | z
        · exact .inl z
        · rw [List.mem_singleton.mp z]; exact .inr hn
      · rcases z with z | z
        · obtain ⟨o, eo⟩ := (hf0.amb a z).1
          exact ⟨o, ext _ _ eo⟩
        · rw [List.mem_singleton.mp z]; exact ⟨_, hl⟩
    · exact h.st.trans ⟨fun b o eb _ => ext b o eb, fun _ _ z => .inl z, fun b o eb => ⟨o, ext b o eb⟩⟩
    · subst ev'
      show RM K H' _ (primM p (.lst vs)) (.lst vs) (.ref pa) [pa]
      rw [m1]
      refine ⟨pa, ys, [], rfl, hl, rfl, RMs.of0 (hs.mono fun a z => ?_)⟩
      rcases z with (z | z) | z
      · exact .inl (al0 a (.inl z))
      · exact .inr z
      · exact .inl (al0 a (.inr z))
    · have : b = pa := by simpa using hb
      subst this
      obtain ⟨o, eo⟩ := hf0.owTracked z
      rw [eo] at hn; cases hn

/-- an operator's reading -/
theorem Sat.op2 {eva evb : Ev} {Da Db : List Nat} {ta tb : TE} {p : Prim} {r : R2} (ha : Sat K eva Da ta) (hb : Sat K evb Db tb) (hp : PSat K p fun xs H Q => ∃ x y, xs = [x, y] ∧ r x y H Q) :
    Sat K (fun fr => (ev2 eva evb Db fr).bind fun (fr1, os) => (primF p (os.map (·.v))).bind fun v => some (fr1, ⟨v, primM p v, primAl p os, false⟩)) (Da ++ Db) (tOp r ta tb) := by
  intro fr σ H F fp fr' o g e Q q
  dsimp only at e
  cases e2 : ev2 eva evb Db fr with
  | none => rw [e2] at e; cases e
  | some pr =>
    obtain ⟨fr1, os⟩ := pr
    rw [e2] at e
    simp only [Option.bind_some] at e
    cases ep : primF p (os.map (·.v)) with
    | none => rw [ep] at e; cases e
    | some v =>
      rw [ep] at e
      simp only [Option.bind_some, Option.some.injEq, Prod.mk.injEq] at e
      obtain ⟨e1, e3⟩ := e
      subst e1 e3
      refine two ha hb g e2 fun x y H' fp' fo ex => ?_
      obtain ⟨x', y', e', h⟩ := ex.prim hp ep q
      cases e'
      exact h
theorem Sat.op1 {eva : Ev} {Da : List Nat} {ta : TE} {p : Prim} {r : V → Hp → VK → Prop} (ha : Sat K eva Da ta) (hp : PSat K p fun xs H Q => ∃ x, xs = [x] ∧ r x H Q) :
    Sat K (fun fr => ((eva fr).bind fun (fr1, o) => some (fr1, [o])).bind fun (fr1, os) => (primF p (os.map (·.v))).bind fun v => some (fr1, ⟨v, primM p v, primAl p os, false⟩)) Da (tUn r ta) := by
  intro fr σ H F fp fr' o g e Q q
  dsimp only at e
  cases e2 : eva fr with
  | none => rw [e2] at e; cases e
  | some pr =>
    obtain ⟨fr1, o1⟩ := pr
    rw [e2] at e
    simp only [Option.bind_some] at e
    cases ep : primF p ([o1].map (·.v)) with
    | none => rw [ep] at e; cases e
    | some v =>
      rw [ep] at e
      simp only [Option.bind_some, Option.some.injEq, Prod.mk.injEq] at e
      obtain ⟨e1, e3⟩ := e
      subst e1 e3
      refine ha fr σ H F fp _ _ g e2 _ fun x H1 fp1 fo ex => ?_
      obtain ⟨x', e', h⟩ := ex.one.prim hp ep q
      cases e'
      exact h
theorem Sat.callB {evl : EvL} {D : List Nat} {t : TA} {p : Prim} {r : List V → Hp → VK → Prop} (ha : SatL K evl D t) (hp : PSat K p r) :
    Sat K (fun fr => (evl fr).bind fun (fr1, os) => (primF p (os.map (·.v))).bind fun v => some (fr1, ⟨v, primM p v, primAl p os, false⟩)) D (tCB r t) := by
  intro fr σ H F fp fr' o g e Q q
  dsimp only at e
  cases e2 : evl fr with
  | none => rw [e2] at e; cases e
  | some pr =>
    obtain ⟨fr1, os⟩ := pr
    rw [e2] at e
    simp only [Option.bind_some] at e
    cases ep : primF p (os.map (·.v)) with
    | none => rw [ep] at e; cases e
    | some v =>
      rw [ep] at e
      simp only [Option.bind_some, Option.some.injEq, Prod.mk.injEq] at e
      obtain ⟨e1, e3⟩ := e
      subst e1 e3
      exact ha fr σ H F fp _ _ g e2 _ fun xs H1 fp1 fo ex => ex.prim hp ep q
end
end VI
namespace VI
open PySem PySem.Spec PyProof.Rows L2

section
variable {K : PySem.W.Frag} {X : Cx} {H H' : Hp} {O O' : Addr → Prop} {r : R2}

theorem Ext.refl (H : Hp) : Ext H H := fun _ _ e => e
theorem Ext.upd {H : Hp} {p : Addr} {o : HO} (h : H p = none) : Ext H (upd H p o) := upd_eff h
theorem R.ext (h : R K H O v x) (e : Ext H H') : R K H' O v x := R.step (fun b o q _ => e b o q) (fun a z => .inl z) v x h
theorem Rs.ext (h : Rs K H O v x) (e : Ext H H') : Rs K H' O v x := Rs.step (fun b o q _ => e b o q) (fun a z => .inl z) v x h
theorem Rs.extP {vs : List PV} {ys : List V} {p : Addr} (h : Rs K H O vs ys) (e : Ext H H') (hp : H p = none) : Rs K H' (plus O [p]) vs ys := Rs.step (fun b o q _ => e b o q) (fun a z => z.elim .inl fun z => .inr (by rw [List.mem_singleton.mp z]; exact hp)) vs ys h

theorem rts2 {v w : PV} {xs : List V} (h : RTs K H O [v, w] xs) : ∃ x y, xs = [x, y] ∧ RT K H O v x ∧ RT K H O w y := by
  obtain ⟨x, xs', e, r, y, xs'', e', r', e''⟩ := h
  rw [show xs'' = [] from e''] at e'
  subst e'
  exact ⟨x, y, e, r, r'⟩
theorem rts1 {v : PV} {xs : List V} (h : RTs K H O [v] xs) : ∃ x, xs = [x] ∧ RT K H O v x := by
  obtain ⟨x, xs', e, r, e'⟩ := h
  rw [show xs' = [] from e'] at e
  exact ⟨x, e, r⟩
theorem rts3 {u v w : PV} {xs : List V} (h : RTs K H O [u, v, w] xs) : ∃ x y z, xs = [x, y, z] ∧ RT K H O u x ∧ RT K H O v y ∧ RT K H O w z := by
  obtain ⟨x, xs', e, r, q⟩ := h
  obtain ⟨y, z, e', r', r''⟩ := rts2 q
  subst e'
  exact ⟨x, y, z, e, r, r', r''⟩

/-- what an operator of two operands is to show -/
theorem PSat.of2 {p : Prim} {f : PV → PV → Option PV} (hf : ∀ ws v, primF p ws = some v → ∃ a b, ws = [a, b] ∧ f a b = some v) (hk : primK p = .flat ∨ primK p = .elem)
    (h : ∀ H O O' a b x y v, RT K H O a x → RT K H O b y → (match primK p with | .flat => True | _ => O' = O) → f a b = some v → (∀ a, O' a → ∃ o, H a = some o) → ∀ Q, PPost K H O' (primM p v) v Q → r x y H Q) :
    PSat K p fun xs H Q => ∃ x y, xs = [x, y] ∧ r x y H Q := by
  intro H O O' ws xs v hr hO e hT Q hQ
  obtain ⟨a, b, rfl, e'⟩ := hf ws v e
  have hr' : RTs K H O [a, b] xs := by
    rcases hk with hk | hk <;> (rw [hk] at hr; exact hr)
  obtain ⟨x, y, rfl, r1, r2⟩ := rts2 hr'
  exact ⟨x, y, rfl, h H O O' a b x y v r1 r2 hO e' hT Q hQ⟩
theorem PSat.of1 {p : Prim} {f : PV → Option PV} {r : V → Hp → VK → Prop} (hf : ∀ ws v, primF p ws = some v → ∃ a, ws = [a] ∧ f a = some v) (hk : primK p = .flat ∨ primK p = .elem)
    (h : ∀ H O O' a x v, RT K H O a x → (match primK p with | .flat => True | _ => O' = O) → f a = some v → (∀ a, O' a → ∃ o, H a = some o) → ∀ Q, PPost K H O' (primM p v) v Q → r x H Q) :
    PSat K p fun xs H Q => ∃ x, xs = [x] ∧ r x H Q := by
  intro H O O' ws xs v hr hO e hT Q hQ
  obtain ⟨a, rfl, e'⟩ := hf ws v e
  have hr' : RTs K H O [a] xs := by
    rcases hk with hk | hk <;> (rw [hk] at hr; exact hr)
  obtain ⟨x, rfl, r1⟩ := rts1 hr'
  exact ⟨x, rfl, h H O O' a x v r1 hO e' hT Q hQ⟩
/-- a plain result -/
theorem PPost.plain {v : PV} {x : V} {Q : VK} {p : Prim} (h : PPost K H O (primM p v) v Q) (hm : primM p v = 0) (hr : R K H O v x) : Q x H := by
  rw [hm] at h
  exact h x H (.refl _) hr
theorem PPost.int {i : Int} {Q : VK} {p : Prim} (h : PPost K H O (primM p (.int i)) (.int i) Q) : Q (.int i) H := by
  have : primM p (.int i) = 0 := by unfold primM isL; rw [Bool.and_false]; rfl
  rw [this] at h
  exact h (.int i) H (.refl _) (show V.int i = .int i from rfl)
theorem PPost.bl {i : Bool} {Q : VK} {p : Prim} (h : PPost K H O (primM p (.bl i)) (.bl i) Q) : Q (.bl i) H := by
  have : primM p (.bl i) = 0 := by unfold primM isL; rw [Bool.and_false]; rfl
  rw [this] at h
  exact h (.bl i) H (.refl _) (show V.bl i = .bl i from rfl)
theorem PPost.str {i : Str} {Q : VK} {p : Prim} (h : PPost K H O (primM p (.str i)) (.str i) Q) : Q (.str i) H := by
  have : primM p (.str i) = 0 := by unfold primM isL; rw [Bool.and_false]; rfl
  rw [this] at h
  exact h (.str i) H (.refl _) (show V.str i = .str i from rfl)
/-- a tuple: one that stands, or a new one -/
theorem PPost.tup {vs : List PV} {Q : VK} {p : Prim} (h : PPost K H O (primM p (.tup vs)) (.tup vs) Q) : (∀ a ys, TupAt K H O a ys → Rs K H O vs ys → Q (.ref a) H) ∧ (∀ ys q, Rs K H O vs ys → H q = none → ¬ O q → Q (.ref q) (upd H q (.tup ys))) := by
  have : primM p (.tup vs) = 0 := by unfold primM isL; rw [Bool.and_false]; rfl
  rw [this] at h
  refine ⟨fun a ys t r => h (.ref a) H (.refl _) ⟨a, ys, rfl, t, r⟩, fun ys q r hq hO => ?_⟩
  exact h (.ref q) _ (.upd hq) ⟨q, ys, rfl, .inl ⟨.inl upd_same, hO⟩, r.ext (.upd hq)⟩
theorem PPost.fresh {vs : List PV} {ys : List V} {q : Addr} {Q : VK} {p : Prim} (h : PPost K H O (primM p (.lst vs)) (.lst vs) Q) (hm : primM p (.lst vs) = 1) (hr : Rs K H O vs ys) (hq : H q = none) : Q (.ref q) (upd H q (.lst ys)) := by
  rw [hm] at h
  exact h vs ys q _ rfl (.upd hq) hq upd_same (hr.extP (.upd hq) hq)

theorem noO (hT : ∀ a, O a → ∃ o, H a = some o) {q : Addr} (hq : H q = none) : ¬ O q := fun z => by
  obtain ⟨o, e⟩ := hT q z
  rw [hq] at e; cases e

/-! ### operators -/
def rAddA (K : PySem.W.Frag) : R2 := fun x y H Q => (∃ i j, x = .int i ∧ y = .int j ∧ Q (.int (i + j)) H) ∨ (∃ i j, x = .str i ∧ y = .str j ∧ i.length + j.length ≤ sizeLine ∧ Q (.str (i ++ j)) H) ∨ rCat x y H Q ∨ rCatA K x y H Q
theorem op_addA : OpR X (binaryOp .Add) (rAddA X.K) := op_add.or (op_add_str.or (op_cat.or op_catA))
theorem Rs.nil_iff {vs : List PV} {ys : List V} (h : Rs K H O vs ys) : ys = [] ↔ vs = [] := by
  have := h.length
  constructor
  · intro e; subst e; exact List.eq_nil_of_length_eq_zero (by simpa using this.symm)
  · intro e; subst e; exact List.eq_nil_of_length_eq_zero (by simpa using this)
theorem sat_add : PSat K .add fun xs H Q => ∃ x y, xs = [x, y] ∧ rAddA K x y H Q := by
  refine PSat.of2 (r := rAddA K) (f := pvAdd) (fun ws v e => ?_) (.inr rfl) fun H O O' a b x y v ra rb hO e hT Q hQ => ?_
  · match ws, e with
    | [a, b], e => exact ⟨a, b, rfl, e⟩
  · have hO : O' = O := hO
    subst hO
    cases a <;> cases b <;> simp only [pvAdd] at e <;> try (cases e; done)
    · rename_i i j
      cases e
      exact .inl ⟨i, j, ra, rb, hQ.int⟩
    · rename_i i j
      split at e <;> cases e
      rename_i hl
      exact .inr (.inl ⟨i, j, ra, rb, hl, hQ.str⟩)
    · rename_i vs ws
      split at e <;> cases e
      rename_i hl
      obtain ⟨p, xs, rfl, tp, rx⟩ := ra
      obtain ⟨q, ys, rfl, tq, ry⟩ := rb
      obtain ⟨h1, h2⟩ := hQ.tup
      refine .inr (.inr (.inr ⟨p, q, xs, ys, rfl, rfl, tp.sq, tq.sq, by rw [rx.length, ry.length]; exact hl, fun e => ?_, fun n e => ?_, fun n1 n2 l hl => ?_⟩))
      · have : vs = [] := rx.nil_iff.mp e
        subst this
        exact h1 q ys tq ry
      · have : ws = [] := ry.nil_iff.mp e
        subst this
        rw [List.append_nil] at h1
        exact h1 p xs tp rx
      · exact h2 _ l (rx.append ry) hl (noO hT hl)
    · rename_i vs ws
      split at e <;> cases e
      rename_i hl
      obtain ⟨p, xs, rfl, tp, rx⟩ := ra
      obtain ⟨q, ys, rfl, tq, ry⟩ := rb
      refine .inr (.inr (.inl ⟨p, q, xs, ys, rfl, rfl, tp, tq, by rw [rx.length, ry.length]; exact hl, fun l hl => ?_⟩))
      exact hQ.fresh rfl (rx.append ry) hl
/-- operators of two ints -/
theorem sat_int2 {p : Prim} {f : PV → PV → Option PV} (hf : ∀ ws v, primF p ws = some v → ∃ a b, ws = [a, b] ∧ f a b = some v) (hk : primK p = .flat)
    (h : ∀ a b v, f a b = some v → ∃ i j k, a = .int i ∧ b = .int j ∧ v = .int k ∧ ∀ (H : Hp) (Q : VK), Q (.int k) H → r (.int i) (.int j) H Q) : PSat K p fun xs H Q => ∃ x y, xs = [x, y] ∧ r x y H Q := by
  refine PSat.of2 hf (.inl hk) fun H O O' a b x y v ra rb _ e hT Q hQ => ?_
  obtain ⟨i, j, k, rfl, rfl, rfl, q⟩ := h a b v e
  rw [show x = .int i from ra, show y = .int j from rb]
  exact q H Q hQ.int
theorem arg2 {p : Prim} {f : PV → PV → Option PV} (h : ∀ ws, primF p ws = match ws with | [a, b] => f a b | _ => none) : ∀ ws v, primF p ws = some v → ∃ a b, ws = [a, b] ∧ f a b = some v := fun ws v e => by
  rw [h] at e
  split at e
  · exact ⟨_, _, rfl, e⟩
  · cases e
theorem arg1 {p : Prim} {f : PV → Option PV} (h : ∀ ws, primF p ws = match ws with | [a] => f a | _ => none) : ∀ ws v, primF p ws = some v → ∃ a, ws = [a] ∧ f a = some v := fun ws v e => by
  rw [h] at e
  split at e
  · exact ⟨_, rfl, e⟩
  · cases e
theorem sat_sub : PSat K .sub fun xs H Q => ∃ x y, xs = [x, y] ∧ (rI0 fun i j => .int (i - j)) x y H Q := by
  refine sat_int2 (f := pvSub) (arg2 fun ws => by rcases ws with _ | ⟨a, _ | ⟨b, _ | ⟨c, d⟩⟩⟩ <;> rfl) rfl fun a b v e => ?_
  cases a <;> cases b <;> simp only [pvSub] at e <;> cases e
  exact ⟨_, _, _, rfl, rfl, rfl, fun H Q q => ⟨_, _, rfl, rfl, q⟩⟩
def rMulA : R2 := fun x y H Q => (rI CMulW fun i j => .int (i * j)) x y H Q ∨ rRep x y H Q
theorem op_mulA : OpR X (binaryOp .Mult) rMulA := op_mulW.or op_rep
theorem sat_mul : PSat K .mul fun xs H Q => ∃ x y, xs = [x, y] ∧ rMulA x y H Q := by
  refine PSat.of2 (f := pvMul) (arg2 fun ws => by rcases ws with _ | ⟨a, _ | ⟨b, _ | ⟨c, d⟩⟩⟩ <;> rfl) (.inr rfl) fun H O O' a b x y v ra rb hO e hT Q hQ => ?_
  have hO : O' = O := hO
  subst hO
  cases a <;> cases b <;> simp only [pvMul] at e <;> try (cases e; done)
  · rename_i i j
    split at e <;> cases e
    rename_i hl
    exact .inl ⟨i, j, ra, rb, (show i.natAbs.log2 + j.natAbs.log2 < 1000000 from of_decide_eq_true hl), hQ.int⟩
  · rename_i vs k
    split at e <;> cases e
    rename_i hl
    obtain ⟨p, xs, rfl, tp, rx⟩ := ra
    refine .inr ⟨p, k, xs, rfl, rb, tp, hl.1, hl.2.1, by rw [rx.length]; exact hl.2.2, fun l hl => ?_⟩
    exact hQ.fresh rfl (rx.flatRep _) hl
def rDivA : R2 := fun x y H Q => (rI CDivN fun i j => .int (i.fdiv j)) x y H Q ∨ (rI CDivW fun i j => .int (i / j)) x y H Q
theorem op_divA : OpR X (binaryOp .FloorDiv) rDivA := op_fdivN.or op_fdivW
theorem sat_fdiv : PSat K .fdiv fun xs H Q => ∃ x y, xs = [x, y] ∧ rDivA x y H Q := by
  refine sat_int2 (f := pvDiv) (arg2 fun ws => by rcases ws with _ | ⟨a, _ | ⟨b, _ | ⟨c, d⟩⟩⟩ <;> rfl) rfl fun a b v e => ?_
  cases a <;> cases b <;> simp only [pvDiv] at e <;> try (cases e; done)
  rename_i i j
  split at e
  · cases e
    rename_i hc
    exact ⟨_, _, _, rfl, rfl, rfl, fun H Q q => .inl ⟨_, _, rfl, rfl, hc, q⟩⟩
  · split at e <;> cases e
    rename_i hc
    exact ⟨_, _, _, rfl, rfl, rfl, fun H Q q => .inr ⟨_, _, rfl, rfl, hc, by show Q (V.int (i / j)) H; rw [← Int.fdiv_eq_ediv_of_nonneg i (by have := hc.1; omega)]; exact q⟩⟩
theorem sat_mod : PSat K .mod fun xs H Q => ∃ x y, xs = [x, y] ∧ (rI (fun _ j => j ≠ 0) fun i j => .int (i.fmod j)) x y H Q := by
  refine sat_int2 (f := pvMod) (arg2 fun ws => by rcases ws with _ | ⟨a, _ | ⟨b, _ | ⟨c, d⟩⟩⟩ <;> rfl) rfl fun a b v e => ?_
  cases a <;> cases b <;> simp only [pvMod] at e <;> try (cases e; done)
  split at e <;> cases e
  rename_i hc
  exact ⟨_, _, _, rfl, rfl, rfl, fun H Q q => ⟨_, _, rfl, rfl, hc, q⟩⟩
theorem sat_pow : PSat K .pow fun xs H Q => ∃ x y, xs = [x, y] ∧ (rI CPow fun i j => .int (i ^ j.toNat)) x y H Q := by
  refine sat_int2 (f := pvPow) (arg2 fun ws => by rcases ws with _ | ⟨a, _ | ⟨b, _ | ⟨c, d⟩⟩⟩ <;> rfl) rfl fun a b v e => ?_
  cases a <;> cases b <;> simp only [pvPow] at e <;> try (cases e; done)
  split at e <;> cases e
  rename_i hc
  exact ⟨_, _, _, rfl, rfl, rfl, fun H Q q => ⟨_, _, rfl, rfl, hc, q⟩⟩
theorem sat_shl : PSat K .shl fun xs H Q => ∃ x y, xs = [x, y] ∧ (rI CPow fun i j => .int (i * 2 ^ j.toNat)) x y H Q := by
  refine sat_int2 (f := pvShl) (arg2 fun ws => by rcases ws with _ | ⟨a, _ | ⟨b, _ | ⟨c, d⟩⟩⟩ <;> rfl) rfl fun a b v e => ?_
  cases a <;> cases b <;> simp only [pvShl] at e <;> try (cases e; done)
  split at e <;> cases e
  rename_i hc
  exact ⟨_, _, _, rfl, rfl, rfl, fun H Q q => ⟨_, _, rfl, rfl, hc, q⟩⟩
theorem sat_shr : PSat K .shr fun xs H Q => ∃ x y, xs = [x, y] ∧ (rI (fun _ j => 0 ≤ j) fun i j => .int (i / 2 ^ j.toNat)) x y H Q := by
  refine sat_int2 (f := pvShr) (arg2 fun ws => by rcases ws with _ | ⟨a, _ | ⟨b, _ | ⟨c, d⟩⟩⟩ <;> rfl) rfl fun a b v e => ?_
  cases a <;> cases b <;> simp only [pvShr] at e <;> try (cases e; done)
  split at e <;> cases e
  rename_i hc
  exact ⟨_, _, _, rfl, rfl, rfl, fun H Q q => ⟨_, _, rfl, rfl, hc, q⟩⟩
theorem sat_band : PSat K .band fun xs H Q => ∃ x y, xs = [x, y] ∧ (rI0 fun i j => .int (Builtin.bitAnd i j)) x y H Q := by
  refine sat_int2 (f := pvBand) (arg2 fun ws => by rcases ws with _ | ⟨a, _ | ⟨b, _ | ⟨c, d⟩⟩⟩ <;> rfl) rfl fun a b v e => ?_
  cases a <;> cases b <;> simp only [pvBand] at e <;> cases e
  exact ⟨_, _, _, rfl, rfl, rfl, fun H Q q => ⟨_, _, rfl, rfl, q⟩⟩
theorem sat_neg : PSat K .neg fun xs H Q => ∃ x, xs = [x] ∧ (rU fun i => .int (-i)) x H Q := by
  refine PSat.of1 (f := pvNeg) (arg1 fun ws => by rcases ws with _ | ⟨a, _ | ⟨b, d⟩⟩ <;> rfl) (.inl rfl) fun H O O' a x v ra _ e hT Q hQ => ?_
  cases a <;> simp only [pvNeg] at e <;> cases e
  exact ⟨_, ra, hQ.int⟩

/-! ### data as PyData -/
mutual
def toD : PV → PyData
  | .non => .none | .bl b => .bool b | .int i => .int i | .str s => .str s
  | .lst vs => .list (toDs vs)
  | .tup vs => .tuple (toDs vs)
  | _ => .none
def toDs : List PV → List PyData
  | [] => []
  | v :: vs => toD v :: toDs vs
end
theorem toDs_map : ∀ vs : List PV, toDs vs = vs.map toD
  | [] => rfl
  | v :: vs => by rw [toDs, toDs_map vs]; rfl
mutual
theorem eqv_toD : ∀ (n m : Nat) (a b : PV), okD n a = true → okD m b = true → PyData.eqv (toD a) (toD b) = pvEq a b
  | n, m, a, b, ha, hb => by
    cases a with
    | non => cases b <;> first | rfl | (simp [okD] at hb)
    | bl x => cases b <;> first | rfl | (simp [okD] at hb)
    | int x => cases b <;> first | rfl | (simp [okD] at hb)
    | str x => cases b <;> first | rfl | (simp [okD] at hb)
    | tup vs =>
      cases n with
      | zero => simp [okD] at ha
      | succ n =>
        have ha : okDs n vs = true := ha
        cases b with
        | tup ws =>
          cases m with
          | zero => simp [okD] at hb
          | succ m => exact eqvs_toD n m vs ws ha hb
        | _ => first | rfl | (simp [okD] at hb)
    | lst vs =>
      cases n with
      | zero => simp [okD] at ha
      | succ n =>
        have ha : okDs n vs = true := ha
        cases b with
        | lst ws =>
          cases m with
          | zero => simp [okD] at hb
          | succ m => exact eqvs_toD n m vs ws ha hb
        | _ => first | rfl | (simp [okD] at hb)
    | _ => simp [okD] at ha
theorem eqvs_toD : ∀ (n m : Nat) (a b : List PV), okDs n a = true → okDs m b = true → PyData.eqvAll (toDs a) (toDs b) = pvEqs a b
  | n, m, [], [], _, _ => rfl
  | n, m, [], _ :: _, _, _ => rfl
  | n, m, _ :: _, [], _, _ => rfl
  | n, m, a :: as, b :: bs, ha, hb => by
    rw [okDs, Bool.and_eq_true] at ha hb
    rw [toDs, toDs, PyData.eqvAll, pvEqs, eqv_toD n m a b ha.1 hb.1, eqvs_toD n m as bs ha.2 hb.2]
end
mutual
theorem lay_toD : ∀ (n : Nat) (a : PV), okD n a = true → (toD a).canLay0 = true ∧ (toD a).depth ≤ n
  | n, a, h => by
    cases a with
    | non => exact ⟨rfl, by simp [toD, PyData.depth]⟩
    | bl _ => exact ⟨rfl, by simp [toD, PyData.depth]⟩
    | int _ => exact ⟨rfl, by simp [toD, PyData.depth]⟩
    | str s => exact ⟨by simpa [toD, PyData.canLay0, okD] using h, by simp [toD, PyData.depth]⟩
    | tup vs =>
      cases n with
      | zero => simp [okD] at h
      | succ n =>
        obtain ⟨h1, h2⟩ := lays_toD n vs h
        refine ⟨by simpa [toD, PyData.canLay0] using h1, ?_⟩
        simp only [toD, PyData.depth]
        omega
    | lst vs =>
      cases n with
      | zero => simp [okD] at h
      | succ n =>
        obtain ⟨h1, h2⟩ := lays_toD n vs h
        refine ⟨by simpa [toD, PyData.canLay0] using h1, ?_⟩
        simp only [toD, PyData.depth]
        omega
    | _ => simp [okD] at h
theorem lays_toD : ∀ (n : Nat) (a : List PV), okDs n a = true → PyData.canLayAll0 (toDs a) = true ∧ PyData.depthAll (toDs a) ≤ n
  | n, [], _ => ⟨rfl, by simp [toDs, PyData.depthAll]⟩
  | n, a :: as, h => by
    rw [okDs, Bool.and_eq_true] at h
    obtain ⟨h1, h2⟩ := lay_toD n a h.1
    obtain ⟨h3, h4⟩ := lays_toD n as h.2
    refine ⟨by simp [toDs, PyData.canLayAll0, h1, h3], ?_⟩
    simp only [toDs, PyData.depthAll]
    omega
end
theorem shaped_toD {n : Nat} {a : PV} (h : okD n a = true) (hn : n ≤ 64) : SeqAt.shaped (toD a) = true := by
  obtain ⟨h1, h2⟩ := lay_toD n a h
  unfold SeqAt.shaped
  rw [h1, Bool.true_and]
  exact decide_eq_true (by omega)
theorem dp_scr : True := trivial
mutual
theorem dp_toD : ∀ (n : Nat) (a : PV) (x : V), okD n a = true → R K H O a x → Dp K H x (toD a)
  | n, a, x, h, r => by
    cases a with
    | non => rw [show x = .non from r]; constructor
    | bl _ => rw [show x = .bl _ from r]; constructor
    | int _ => rw [show x = .int _ from r]; constructor
    | str _ => rw [show x = .str _ from r]; constructor
    | tup vs =>
      cases n with
      | zero => simp [okD] at h
      | succ n =>
        obtain ⟨p, xs, rfl, t, rx⟩ := r
        exact .tup t.sq (dps_toD n vs xs h rx)
    | lst vs =>
      cases n with
      | zero => simp [okD] at h
      | succ n =>
        obtain ⟨p, xs, rfl, t, rx⟩ := r
        exact .lst (SqL.of t.1) (dps_toD n vs xs h rx)
    | _ => simp [okD] at h
theorem dps_toD : ∀ (n : Nat) (a : List PV) (x : List V), okDs n a = true → Rs K H O a x → DpAll K H x (toDs a)
  | n, [], x, h, r => by rw [show x = [] from r]; constructor
  | n, a :: as, x, h, r => by
    rw [okDs, Bool.and_eq_true] at h
    obtain ⟨y, ys, rfl, r1, r2⟩ := r
    exact .cons (dp_toD n a y h.1 r1) (dps_toD n as ys h.2 r2)
end
theorem dp_RT {n : Nat} {a : PV} {x : V} (h : okD n a = true) (r : RT K H O a x) : Dp K H x (toD a) := by
  cases a with
  | lst vs =>
    cases n with
    | zero => simp [okD] at h
    | succ n =>
      obtain ⟨p, xs, rfl, t, rx⟩ := r
      exact .lst (SqL.of t) (dps_toD n vs xs h rx)
  | dk ks vs => cases n <;> simp [okD] at h
  | dt ks vs => cases n <;> simp [okD] at h
  | _ => exact dp_toD (O := O) n _ x h r
theorem sat_eq : PSat K .eq fun xs H Q => ∃ x y, xs = [x, y] ∧ rEqD K x y H Q := by
  refine PSat.of2 (f := pvEqO) (arg2 fun ws => by rcases ws with _ | ⟨a, _ | ⟨b, _ | ⟨c, d⟩⟩⟩ <;> rfl) (.inl rfl) fun H O O' a b x y v ra rb _ e hT Q hQ => ?_
  unfold pvEqO at e
  split at e <;> cases e
  rename_i hc
  rw [Bool.and_eq_true] at hc
  refine ⟨_, _, dp_RT hc.1 ra, dp_RT hc.2 rb, shaped_toD hc.1 (by decide), shaped_toD hc.2 (by decide), ?_⟩
  rw [eqv_toD _ _ _ _ hc.1 hc.2]
  exact hQ.bl
theorem sat_ne : PSat K .ne fun xs H Q => ∃ x y, xs = [x, y] ∧ rNeD K x y H Q := by
  refine PSat.of2 (f := pvNeO) (arg2 fun ws => by rcases ws with _ | ⟨a, _ | ⟨b, _ | ⟨c, d⟩⟩⟩ <;> rfl) (.inl rfl) fun H O O' a b x y v ra rb _ e hT Q hQ => ?_
  unfold pvNeO at e
  split at e <;> cases e
  rename_i hc
  rw [Bool.and_eq_true] at hc
  refine ⟨_, _, dp_RT hc.1 ra, dp_RT hc.2 rb, shaped_toD hc.1 (by decide), shaped_toD hc.2 (by decide), ?_⟩
  rw [eqv_toD _ _ _ _ hc.1 hc.2]
  exact hQ.bl
end
end VI
namespace VI
open PySem PySem.Spec PyProof.Rows L2

section
variable {K : PySem.W.Frag} {X : Cx} {H H' : Hp} {O O' : Addr → Prop} {r : R2}

theorem asInts_rs : ∀ {vs : List PV} {ns : List Int} {xs : List V}, asInts vs = some ns → Rs K H O vs xs → xs = ns.map V.int
  | [], ns, xs, e, h => by cases e; exact h
  | v :: vs, ns, xs, e, h => by
    obtain ⟨y, ys, rfl, r, q⟩ := h
    cases v <;> simp only [asInts] at e <;> try (cases e; done)
    rename_i i
    cases e2 : asInts vs with
    | none => rw [e2] at e; cases e
    | some ms =>
      rw [e2] at e
      cases e
      rw [asInts_rs e2 q, show y = .int i from r]
      rfl
theorem asStrs_rs : ∀ {vs : List PV} {ns : List Str} {xs : List V}, asStrs vs = some ns → Rs K H O vs xs → xs = ns.map V.str
  | [], ns, xs, e, h => by cases e; exact h
  | v :: vs, ns, xs, e, h => by
    obtain ⟨y, ys, rfl, r, q⟩ := h
    cases v <;> simp only [asStrs] at e <;> try (cases e; done)
    rename_i i
    cases e2 : asStrs vs with
    | none => rw [e2] at e; cases e
    | some ms =>
      rw [e2] at e
      cases e
      rw [asStrs_rs e2 q, show y = .str i from r]
      rfl
theorem asBls_rs : ∀ {vs : List PV} {ns : List Bool} {xs : List V}, asBls vs = some ns → Rs K H O vs xs → xs = ns.map V.bl
  | [], ns, xs, e, h => by cases e; exact h
  | v :: vs, ns, xs, e, h => by
    obtain ⟨y, ys, rfl, r, q⟩ := h
    cases v <;> simp only [asBls] at e <;> try (cases e; done)
    rename_i i
    cases e2 : asBls vs with
    | none => rw [e2] at e; cases e
    | some ms =>
      rw [e2] at e
      cases e
      rw [asBls_rs e2 q, show y = .bl i from r]
      rfl
/-- order -/
def rLtA (K : PySem.W.Frag) : R2 := fun x y H Q => (∃ i j, x = .int i ∧ y = .int j ∧ Q (.bl (decide (i < j))) H) ∨ (∃ i j, x = .str i ∧ y = .str j ∧ Q (.bl (decide (i.cps.toList < j.cps.toList))) H) ∨ rLtT K x y H Q
theorem op_ltA (hu : X.A.units < cLine) : OpR X (compareOp .Lt) (rLtA X.K) := op_lt.or (op_lt_str.or (op_ltT hu))
theorem sat_lt : PSat K .lt fun xs H Q => ∃ x y, xs = [x, y] ∧ rLtA K x y H Q := by
  refine PSat.of2 (f := pvLt) (arg2 fun ws => by rcases ws with _ | ⟨a, _ | ⟨b, _ | ⟨c, d⟩⟩⟩ <;> rfl) (.inl rfl) fun H O O' a b x y v ra rb _ e hT Q hQ => ?_
  cases a <;> cases b <;> simp only [pvLt] at e <;> try (cases e; done)
  · cases e
    exact .inl ⟨_, _, ra, rb, hQ.bl⟩
  · cases e
    exact .inr (.inl ⟨_, _, ra, rb, hQ.bl⟩)
  · split at e <;> cases e
    rename_i e1 e2
    obtain ⟨p, xs, rfl, tp, rx⟩ := ra
    obtain ⟨q, ys, rfl, tq, ry⟩ := rb
    have h1 := asInts_rs e1 rx
    have h2 := asInts_rs e2 ry
    subst h1 h2
    exact .inr (.inr ⟨p, q, _, _, rfl, rfl, tp.sq, tq.sq, hQ.bl⟩)
theorem sat_le : PSat K .le fun xs H Q => ∃ x y, xs = [x, y] ∧ ((rI0 fun i j => .bl (decide (i ≤ j))) x y H Q ∨ ∃ i j, x = .str i ∧ y = .str j ∧ Q (.bl (!decide (j.cps.toList < i.cps.toList))) H) := by
  refine PSat.of2 (f := pvLe) (r := fun x y H Q => (rI0 fun i j => .bl (decide (i ≤ j))) x y H Q ∨ ∃ i j, x = .str i ∧ y = .str j ∧ Q (.bl (!decide (j.cps.toList < i.cps.toList))) H) (arg2 fun ws => by rcases ws with _ | ⟨a, _ | ⟨b, _ | ⟨c, d⟩⟩⟩ <;> rfl) (.inl rfl) fun H O O' a b x y v ra rb _ e hT Q hQ => ?_
  cases a <;> cases b <;> simp only [pvLe] at e <;> cases e
  · exact .inl ⟨_, _, ra, rb, hQ.bl⟩
  · exact .inr ⟨_, _, ra, rb, hQ.bl⟩
theorem sat_gt : PSat K .gt fun xs H Q => ∃ x y, xs = [x, y] ∧ ((rI0 fun i j => .bl (decide (j < i))) x y H Q ∨ ∃ i j, x = .str i ∧ y = .str j ∧ Q (.bl (decide (j.cps.toList < i.cps.toList))) H) := by
  refine PSat.of2 (f := pvGt) (r := fun x y H Q => (rI0 fun i j => .bl (decide (j < i))) x y H Q ∨ ∃ i j, x = .str i ∧ y = .str j ∧ Q (.bl (decide (j.cps.toList < i.cps.toList))) H) (arg2 fun ws => by rcases ws with _ | ⟨a, _ | ⟨b, _ | ⟨c, d⟩⟩⟩ <;> rfl) (.inl rfl) fun H O O' a b x y v ra rb _ e hT Q hQ => ?_
  cases a <;> cases b <;> simp only [pvGt] at e <;> cases e
  · exact .inl ⟨_, _, ra, rb, hQ.bl⟩
  · exact .inr ⟨_, _, ra, rb, hQ.bl⟩
theorem sat_ge : PSat K .ge fun xs H Q => ∃ x y, xs = [x, y] ∧ ((rI0 fun i j => .bl (decide (j ≤ i))) x y H Q ∨ ∃ i j, x = .str i ∧ y = .str j ∧ Q (.bl (!decide (i.cps.toList < j.cps.toList))) H) := by
  refine PSat.of2 (f := pvGe) (r := fun x y H Q => (rI0 fun i j => .bl (decide (j ≤ i))) x y H Q ∨ ∃ i j, x = .str i ∧ y = .str j ∧ Q (.bl (!decide (i.cps.toList < j.cps.toList))) H) (arg2 fun ws => by rcases ws with _ | ⟨a, _ | ⟨b, _ | ⟨c, d⟩⟩⟩ <;> rfl) (.inl rfl) fun H O O' a b x y v ra rb _ e hT Q hQ => ?_
  cases a <;> cases b <;> simp only [pvGe] at e <;> cases e
  · exact .inl ⟨_, _, ra, rb, hQ.bl⟩
  · exact .inr ⟨_, _, ra, rb, hQ.bl⟩
theorem any_toD {n m : Nat} {a : PV} (ha : okD n a = true) : ∀ {vs : List PV}, okDs m vs = true → ((toDs vs).any fun z => PyData.eqv z (toD a)) = vs.any fun z => pvEq z a
  | [], _ => rfl
  | v :: vs, h => by
    rw [okDs, Bool.and_eq_true] at h
    rw [toDs, List.any_cons, List.any_cons, eqv_toD m n v a h.1 ha, any_toD ha h.2]
theorem flatV_of {a : PV} {x : V} (r : R K H O a x) (h : (match a with | .non | .bl _ | .int _ | .str _ => true | _ => false) = true) : flatV x = true := by
  cases a <;> simp only [R] at r <;> first | (subst r; rfl) | (exact absurd h Bool.false_ne_true)
def rInC (neg : Bool) : R2 := fun x y H Q => if neg then rNotInS x y H Q else rInS x y H Q
def rInA (K : PySem.W.Frag) (neg : Bool) : R2 := fun x y H Q => rIn K neg x y H Q ∨ (if neg then rNotInD K x y H Q else rInD K x y H Q) ∨ rInC neg x y H Q
theorem op_inA (hu : X.A.units + 65 < cLine) : OpR X (compareOp .In) (rInA X.K false) := op_in_seq.or ((op_inD hu).or op_inS)
theorem op_notInA (hu : X.A.units + 65 < cLine) : OpR X (compareOp .NotIn) (rInA X.K true) := op_notIn_seq.or ((op_notInD hu).or op_notInS)
theorem eqV_of {a b : PV} {x y : V} (ra : R K H O a x) (rb : R K H O b y) (ha : plainB a = true) (hb : plainB b = true) : eqV x y = pvEq a b := by
  cases a <;> cases b <;> simp only [R] at ra rb <;> first | (subst ra rb; rfl) | (exact absurd ha Bool.false_ne_true) | (exact absurd hb Bool.false_ne_true)
theorem any_eqV {a : PV} {x : V} (ra : R K H O a x) (ha : plainB a = true) : ∀ {vs : List PV} {xs : List V}, Rs K H O vs xs → vs.all plainB = true → inV x xs = vs.any fun z => pvEq z a
  | [], _, h, _ => by rw [show _ = [] from h]; rfl
  | v :: vs, xs, h, hp => by
    obtain ⟨y, ys, rfl, r, q⟩ := h
    rw [List.all_cons, Bool.and_eq_true] at hp
    have ih := any_eqV ra ha q hp.2
    unfold inV at ih ⊢
    rw [List.any_cons, List.any_cons, eqV_of r ra hp.1 ha, ih]
theorem allFlatV : ∀ {vs : List PV} {xs : List V}, Rs K H O vs xs → vs.all plainB = true → xs.all flatV = true
  | [], _, h, _ => by rw [show _ = [] from h]; rfl
  | v :: vs, xs, h, hp => by
    obtain ⟨y, ys, rfl, r, q⟩ := h
    rw [List.all_cons, Bool.and_eq_true] at hp ⊢
    refine ⟨?_, allFlatV q hp.2⟩
    have h1 := hp.1
    cases v <;> simp only [R] at r <;> first | (subst r; rfl) | (exact absurd h1 Bool.false_ne_true)
theorem pvIn_inA {a b : PV} {x y : V} {k : Bool} (ra : RT K H O a x) (rb : RT K H O b y) (e : pvIn a b = some k) {neg : Bool} {Q : VK} (q : Q (.bl (if neg then !k else k)) H) : rInA K neg x y H Q := by
  cases b with
  | non => cases a <;> cases e
  | bl _ => cases a <;> cases e
  | int _ => cases a <;> cases e
  | ty _ => cases a <;> cases e
  | dk _ _ => cases a <;> cases e
  | dt _ _ => cases a <;> cases e
  | scr _ => cases a <;> cases e
  | exn _ _ _ => cases a <;> cases e
  | exr _ _ _ _ _ => cases a <;> cases e
  | str z =>
    cases a <;> try (cases e; done)
    rename_i c
    have e : (match c.cps.toList with
      | [k] => some (decide (k ∈ z.cps.toList))
      | _ => none) = some k := e
    split at e <;> cases e
    rename_i k ek
    have hc : c = ⟨#[k]⟩ := by
      cases c
      have ek : _ = _ := ek
      simp only at ek
      rw [show (#[k] : Array Nat) = (([k] : List Nat)).toArray from rfl, ← ek]
    subst hc
    refine .inr (.inr ?_)
    cases neg with
    | true => exact ⟨k, z, ra, rb, q⟩
    | false => exact ⟨k, z, ra, rb, q⟩
  | tup vs =>
    simp only [pvIn] at e
    split at e <;> cases e
    rename_i hc
    rw [Bool.and_eq_true] at hc
    obtain ⟨p, ys, rfl, t, ry⟩ := rb
    have hx : plainB a = true := hc.1
    have ra' : R K H O a x := by cases a <;> first | exact ra | (exact absurd hx Bool.false_ne_true)
    refine .inl ⟨p, ys, rfl, .inr t.sq, ?_, allFlatV ry hc.2, ?_⟩
    · cases a <;> simp only [R] at ra' <;> first | (subst ra'; rfl) | (exact absurd hx Bool.false_ne_true)
    · rw [any_eqV ra' hx ry hc.2]; exact q
  | lst vs =>
    simp only [pvIn] at e
    split at e <;> cases e
    rename_i hc
    rw [Bool.and_eq_true] at hc
    obtain ⟨p, ys, rfl, t, ry⟩ := rb
    have hl : okD (dMax + 1) (.lst vs) = true := hc.2
    have e2 := any_toD (n := dMax) (m := dMax) (a := a) hc.1 (vs := vs) hc.2
    refine .inr (.inl ?_)
    cases neg with
    | true =>
      rw [if_pos rfl] at q ⊢
      exact ⟨_, _, dp_RT hc.1 ra, .lst (SqL.of t) (dps_toD dMax vs ys hc.2 ry), shaped_toD hc.1 (by decide), shaped_toD (a := .lst vs) hl (by decide), by rw [e2]; exact q⟩
    | false =>
      rw [if_neg Bool.false_ne_true] at q ⊢
      exact ⟨_, _, dp_RT hc.1 ra, .lst (SqL.of t) (dps_toD dMax vs ys hc.2 ry), shaped_toD hc.1 (by decide), shaped_toD (a := .lst vs) hl (by decide), by rw [e2]; exact q⟩
theorem sat_in : PSat K .isIn fun xs H Q => ∃ x y, xs = [x, y] ∧ rInA K false x y H Q := by
  refine PSat.of2 (f := fun a b => (pvIn a b).map PV.bl) (arg2 fun ws => by rcases ws with _ | ⟨a, _ | ⟨b, _ | ⟨c, d⟩⟩⟩ <;> rfl) (.inl rfl) fun H O O' a b x y v ra rb _ e hT Q hQ => ?_
  cases e2 : pvIn a b with
  | none => simp only [e2] at e; cases e
  | some k =>
    simp only [e2] at e
    cases e
    exact pvIn_inA ra rb e2 hQ.bl
theorem sat_notIn : PSat K .notIn fun xs H Q => ∃ x y, xs = [x, y] ∧ rInA K true x y H Q := by
  refine PSat.of2 (f := fun a b => (pvIn a b).map fun k => PV.bl (!k)) (arg2 fun ws => by rcases ws with _ | ⟨a, _ | ⟨b, _ | ⟨c, d⟩⟩⟩ <;> rfl) (.inl rfl) fun H O O' a b x y v ra rb _ e hT Q hQ => ?_
  cases e2 : pvIn a b with
  | none => simp only [e2] at e; cases e
  | some k =>
    simp only [e2] at e
    cases e
    exact pvIn_inA ra rb e2 hQ.bl
/-- is None -/
theorem R.non_iff {a : PV} {x : V} (r : RT K H O a x) : decide (x = .non) = isNon a := by
  cases a with
  | non => rw [show x = .non from r]; rfl
  | bl _ => rw [show x = .bl _ from r]; rfl
  | int _ => rw [show x = .int _ from r]; rfl
  | str _ => rw [show x = .str _ from r]; rfl
  | ty _ => rw [show x = .ty _ from r]; rfl
  | tup vs => obtain ⟨p, ys, rfl, _⟩ := r; rfl
  | lst vs => obtain ⟨p, ys, rfl, _⟩ := r; rfl
  | dk _ vs => obtain ⟨p, ys, rfl, _⟩ := r; rfl
  | dt _ vs => obtain ⟨p, ys, rfl, _⟩ := r; rfl
  | scr vs => obtain ⟨p, ys, rfl, _⟩ := r; rfl
  | exn _ _ _ => exact False.elim r
  | exr _ _ _ _ _ => obtain ⟨rfl, _⟩ := r; rfl
/-- subscripts -/
theorem ixN_atI {α : Type} {xs : List α} {i : Int} {v : α} (h : atI xs i = some v) : ∃ n, ixN xs.length i = some n ∧ xs[n]? = some v := by
  unfold atI at h
  cases e : ixN xs.length i with
  | none => rw [e] at h; cases h
  | some n => rw [e] at h; exact ⟨n, rfl, h⟩
theorem Rs.atI {vs : List PV} {xs : List V} {i : Int} {v : PV} (h : Rs K H O vs xs) (e : L2.atI vs i = some v) : ∃ y, L2.atI xs i = some y ∧ R K H O v y := by
  obtain ⟨n, e1, e2⟩ := ixN_atI e
  obtain ⟨y, e3, r⟩ := h.get e2
  refine ⟨y, ?_, r⟩
  unfold L2.atI
  rw [h.length, e1]
  exact e3
theorem sat_idx : PSat K .idx fun xs H Q => ∃ x y, xs = [x, y] ∧ rIx K x y H Q := by
  refine PSat.of2 (f := pvIdx) (arg2 fun ws => by rcases ws with _ | ⟨a, _ | ⟨b, _ | ⟨c, d⟩⟩⟩ <;> rfl) (.inr rfl) fun H O O' a b x y v ra rb hO e hT Q hQ => ?_
  have hO : O' = O := hO
  subst hO
  have m0 : primM .idx v = 0 := rfl
  cases a <;> cases b <;> simp only [pvIdx] at e <;> try (cases e; done)
  · rename_i s i
    split at e
    · rename_i hz
      cases e3 : L2.atI s.cps.toList i with
      | none => rw [e3] at e; cases e
      | some c =>
        rw [e3] at e
        cases e
        exact .inr (.inr ⟨s, i, c, ra, rb, hz, e3, hQ.plain m0 rfl⟩)
    · cases e
  · rename_i vs i
    obtain ⟨p, xs, rfl, t, rx⟩ := ra
    obtain ⟨y', e2, r⟩ := rx.atI e
    exact .inr (.inl ⟨p, xs, i, y', rfl, rb, t.sq, e2, hQ.plain m0 r⟩)
  · rename_i vs i
    obtain ⟨p, xs, rfl, t, rx⟩ := ra
    obtain ⟨y', e2, r⟩ := rx.atI e
    exact .inl ⟨p, xs, i, y', rfl, rb, SqL.of t, e2, hQ.plain m0 r⟩
/-- slices -/
theorem Rs.cut {vs : List PV} {xs : List V} {lo hi : Option Int} (h : Rs K H O vs xs) : Rs K H O (cutP vs lo hi) (cutV xs lo hi) := by
  unfold cutP cutV
  rw [h.length]
  exact (h.drop _).take _
theorem cut_all {α : Type} {xs : List α} {lo hi : Option Int} (h : HT.sIx xs.length 0 lo = 0 ∧ HT.sIx xs.length xs.length hi = xs.length) : (xs.drop (HT.sIx xs.length 0 lo)).take (HT.sIx xs.length xs.length hi - HT.sIx xs.length 0 lo) = xs := by
  rw [h.1, h.2, List.drop_zero, Nat.sub_zero, List.take_length]
def rSlB (K : PySem.W.Frag) : V → Option Int → Option Int → Hp → VK → Prop := fun x lo hi H Q => rSlL K x lo hi H Q ∨ rSlA K x lo hi H Q ∨ rSlS x lo hi H Q
theorem sl_B : SlR X (rSlB X.K) := sl_list.or (sl_tupA.or sl_str)
theorem sl_any {p : Prim} {a v : PV} {x : V} {lo hi : Option Int} (hp : primNew p = true) (ra : RT K H O a x) (e : pvSl a lo hi = some v) (hT : ∀ a, O a → ∃ o, H a = some o) {Q : VK} (hQ : PPost K H O (primM p v) v Q) : rSlB K x lo hi H Q := by
  cases a <;> simp only [pvSl] at e <;> try (cases e; done)
  · rename_i z
    split at e
    case isFalse => cases e
    rename_i hl
    cases e
    exact .inr (.inr ⟨z, ra, hl, hQ.str⟩)
  all_goals cases e
  · rename_i vs
    obtain ⟨h1, h2⟩ := hQ.tup
    obtain ⟨q, xs, rfl, t, rx⟩ := ra
    refine .inr (.inl ⟨q, xs, rfl, t.sq, fun hw => ?_, fun _ l hl => h2 _ l rx.cut hl (noO hT hl)⟩)
    have e1 : cutV xs lo hi = xs := cut_all hw
    have := rx.cut (lo := lo) (hi := hi)
    rw [e1] at this
    exact h1 q xs t this
  · rename_i vs
    obtain ⟨q, xs, rfl, t, rx⟩ := ra
    exact .inl ⟨q, xs, rfl, SqL.of t, fun l hl => hQ.fresh (by unfold primM; rw [hp]; rfl) rx.cut hl⟩

/-! ### built-in calls -/
theorem PSat.call1 {p : Prim} {f : PV → Option PV} {r : List V → Hp → VK → Prop} (hf : ∀ ws v, primF p ws = some v → ∃ a, ws = [a] ∧ f a = some v) (hk : primK p = .flat ∨ primK p = .elem)
    (h : ∀ H O O' a x v, RT K H O a x → (match primK p with | .flat => True | _ => O' = O) → f a = some v → (∀ a, O' a → ∃ o, H a = some o) → ∀ Q, PPost K H O' (primM p v) v Q → r [x] H Q) : PSat K p r := by
  intro H O O' ws xs v hr hO e hT Q hQ
  obtain ⟨x, rfl, q⟩ := PSat.of1 (r := fun x H Q => r [x] H Q) hf hk h H O O' ws xs v hr hO e hT Q hQ
  exact q
theorem PSat.call2 {p : Prim} {f : PV → PV → Option PV} {r : List V → Hp → VK → Prop} (hf : ∀ ws v, primF p ws = some v → ∃ a b, ws = [a, b] ∧ f a b = some v) (hk : primK p = .flat ∨ primK p = .elem)
    (h : ∀ H O O' a b x y v, RT K H O a x → RT K H O b y → (match primK p with | .flat => True | _ => O' = O) → f a b = some v → (∀ a, O' a → ∃ o, H a = some o) → ∀ Q, PPost K H O' (primM p v) v Q → r [x, y] H Q) : PSat K p r := by
  intro H O O' ws xs v hr hO e hT Q hQ
  obtain ⟨x, y, rfl, q⟩ := PSat.of2 (r := fun x y H Q => r [x, y] H Q) hf hk h H O O' ws xs v hr hO e hT Q hQ
  exact q
theorem sat_abs : PSat K .abs (fun xs H Q => ∃ i, xs = [.int i] ∧ Q (.int (if i < 0 then -i else i)) H) := by
  refine PSat.call1 (f := pvAbs) (arg1 fun ws => by rcases ws with _ | ⟨a, _ | ⟨b, d⟩⟩ <;> rfl) (.inl rfl) fun H O O' a x v ra _ e hT Q hQ => ?_
  cases a <;> simp only [pvAbs] at e <;> cases e
  rw [show x = _ from ra]
  exact ⟨_, rfl, hQ.int⟩
theorem sat_int : PSat K .int (fun xs H Q => (∃ i, xs = [.int i] ∧ Q (.int i) H) ∨ ∃ k, xs = [.bl k] ∧ Q (.int (if k then 1 else 0)) H) := by
  refine PSat.call1 (f := pvInt) (arg1 fun ws => by rcases ws with _ | ⟨a, _ | ⟨b, d⟩⟩ <;> rfl) (.inl rfl) fun H O O' a x v ra _ e hT Q hQ => ?_
  cases a <;> simp only [pvInt] at e <;> cases e
  · rw [show x = _ from ra]
    exact .inr ⟨_, rfl, hQ.int⟩
  · rw [show x = _ from ra]
    exact .inl ⟨_, rfl, hQ.int⟩
def rLenA (K : PySem.W.Frag) : List V → Hp → VK → Prop := fun xs H Q => (∃ p ys, xs = [.ref p] ∧ (SqL K H p ys ∨ SqT K H p ys) ∧ Q (.int ys.length) H) ∨ ∃ z, xs = [.str z] ∧ z.length ≤ sizeLine ∧ Q (.int z.length) H
theorem call_lenA : CallR X (.builtin "len") (rLenA X.K) := call_len_seq.or call_len_str
theorem sat_len : PSat K .len (rLenA K) := by
  refine PSat.call1 (f := pvLen) (arg1 fun ws => by rcases ws with _ | ⟨a, _ | ⟨b, d⟩⟩ <;> rfl) (.inl rfl) fun H O O' a x v ra _ e hT Q hQ => ?_
  cases a <;> simp only [pvLen] at e <;> try (cases e; done)
  · split at e <;> cases e
    rename_i hz
    rw [show x = _ from ra]
    exact .inr ⟨_, rfl, hz, hQ.int⟩
  · cases e
    obtain ⟨p, ys, rfl, t, r⟩ := ra
    exact .inl ⟨p, ys, rfl, .inr t.sq, by rw [r.length]; exact hQ.int⟩
  · cases e
    obtain ⟨p, ys, rfl, t, r⟩ := ra
    exact .inl ⟨p, ys, rfl, .inl (SqL.of t), by rw [r.length]; exact hQ.int⟩
  · cases e
    obtain ⟨p, ys, rfl, t, r⟩ := ra
    exact .inl ⟨p, ys, rfl, .inl t.sq, by rw [r.length]; exact hQ.int⟩
theorem sat_sum : PSat K .sum (rSum K) := by
  refine PSat.call1 (f := pvSum) (arg1 fun ws => by rcases ws with _ | ⟨a, _ | ⟨b, d⟩⟩ <;> rfl) (.inl rfl) fun H O O' a x v ra _ e hT Q hQ => ?_
  cases a <;> simp only [pvSum] at e <;> try (cases e; done)
  rename_i vs
  cases e2 : asInts vs with
  | none => rw [e2] at e; cases e
  | some ns =>
    rw [e2] at e
    cases e
    obtain ⟨p, ys, rfl, t, r⟩ := ra
    have := asInts_rs e2 r
    subst this
    exact ⟨p, ns, rfl, SqL.of t, hQ.int⟩
theorem sat_any : PSat K .any (rAny K) := by
  refine PSat.call1 (f := pvAny) (arg1 fun ws => by rcases ws with _ | ⟨a, _ | ⟨b, d⟩⟩ <;> rfl) (.inl rfl) fun H O O' a x v ra _ e hT Q hQ => ?_
  cases a <;> simp only [pvAny] at e <;> try (cases e; done)
  rename_i vs
  cases e2 : asBls vs with
  | none => rw [e2] at e; cases e
  | some ns =>
    rw [e2] at e
    cases e
    obtain ⟨p, ys, rfl, t, r⟩ := ra
    have := asBls_rs e2 r
    subst this
    exact ⟨p, ns, rfl, SqL.of t, hQ.bl⟩
theorem sat_all : PSat K .all (rAll K) := by
  refine PSat.call1 (f := pvAll) (arg1 fun ws => by rcases ws with _ | ⟨a, _ | ⟨b, d⟩⟩ <;> rfl) (.inl rfl) fun H O O' a x v ra _ e hT Q hQ => ?_
  cases a <;> simp only [pvAll] at e <;> try (cases e; done)
  rename_i vs
  cases e2 : asBls vs with
  | none => rw [e2] at e; cases e
  | some ns =>
    rw [e2] at e
    cases e
    obtain ⟨p, ys, rfl, t, r⟩ := ra
    have := asBls_rs e2 r
    subst this
    exact ⟨p, ns, rfl, SqL.of t, hQ.bl⟩
theorem sat_max2 : PSat K .max2 (fun xs H Q => ∃ i j, xs = [.int i, .int j] ∧ Q (.int (if j > i then j else i)) H) := by
  refine PSat.call2 (f := pvMax2) (arg2 fun ws => by rcases ws with _ | ⟨a, _ | ⟨b, _ | ⟨c, d⟩⟩⟩ <;> rfl) (.inl rfl) fun H O O' a b x y v ra rb _ e hT Q hQ => ?_
  cases a <;> cases b <;> simp only [pvMax2] at e <;> cases e
  rw [show x = _ from ra, show y = _ from rb]
  exact ⟨_, _, rfl, hQ.int⟩
theorem sat_min2 : PSat K .min2 (fun xs H Q => ∃ i j, xs = [.int i, .int j] ∧ Q (.int (if j < i then j else i)) H) := by
  refine PSat.call2 (f := pvMin2) (arg2 fun ws => by rcases ws with _ | ⟨a, _ | ⟨b, _ | ⟨c, d⟩⟩⟩ <;> rfl) (.inl rfl) fun H O O' a b x y v ra rb _ e hT Q hQ => ?_
  cases a <;> cases b <;> simp only [pvMin2] at e <;> cases e
  rw [show x = _ from ra, show y = _ from rb]
  exact ⟨_, _, rfl, hQ.int⟩
theorem sat_list : PSat K .list (fun xs H Q => ∃ p ys, xs = [.ref p] ∧ (SqL K H p ys ∨ SqT K H p ys) ∧ ∀ l, H l = none → Q (.ref l) (upd H l (.lst ys))) := by
  refine PSat.call1 (f := pvList) (arg1 fun ws => by rcases ws with _ | ⟨a, _ | ⟨b, d⟩⟩ <;> rfl) (.inr rfl) fun H O O' a x v ra hO e hT Q hQ => ?_
  have hO : O' = O := hO
  subst hO
  cases a <;> simp only [pvList] at e <;> cases e
  · obtain ⟨p, ys, rfl, t, r⟩ := ra
    exact ⟨p, ys, rfl, .inr t.sq, fun l hl => hQ.fresh rfl r hl⟩
  · obtain ⟨p, ys, rfl, t, r⟩ := ra
    exact ⟨p, ys, rfl, .inl (SqL.of t), fun l hl => hQ.fresh rfl r hl⟩
  · obtain ⟨p, ys, rfl, t, r⟩ := ra
    exact ⟨p, ys, rfl, .inl t.sq, fun l hl => hQ.fresh rfl r hl⟩
theorem sat_slrev : PSat K .slrev (fun xs H Q => ∃ x, xs = [x] ∧ ∃ a ys, x = .ref a ∧ SqL K H a ys ∧ ∀ p, H p = none → Q (.ref p) (upd H p (.lst ys.reverse))) := by
  refine PSat.of1 (f := pvRev) (r := fun x H Q => ∃ a ys, x = .ref a ∧ SqL K H a ys ∧ ∀ p, H p = none → Q (.ref p) (upd H p (.lst ys.reverse))) (arg1 fun ws => by rcases ws with _ | ⟨a, _ | ⟨b, d⟩⟩ <;> rfl) (.inr rfl) fun H O O' a x v ra hO e hT Q hQ => ?_
  have hO : O' = O := hO
  subst hO
  cases a <;> simp only [pvRev] at e <;> cases e
  obtain ⟨p, ys, rfl, t, r⟩ := ra
  exact ⟨p, ys, rfl, SqL.of t, fun l hl => hQ.fresh rfl r.reverse hl⟩
theorem sat_isB : PSat K .isB fun xs H Q => ∃ x y, xs = [x, y] ∧ rIsB x y H Q := by
  refine PSat.of2 (f := pvIsB) (arg2 fun ws => by rcases ws with _ | ⟨a, _ | ⟨b, _ | ⟨c, d⟩⟩⟩ <;> rfl) (.inl rfl) fun H O O' a b x y v ra rb _ e hT Q hQ => ?_
  cases a <;> cases b <;> simp only [pvIsB] at e <;> cases e
  rw [show x = _ from ra, show y = _ from rb]
  exact ⟨_, _, rfl, rfl, hQ.bl⟩
theorem sat_isNotB : PSat K .isNotB fun xs H Q => ∃ x y, xs = [x, y] ∧ rNotB x y H Q := by
  refine PSat.of2 (f := pvIsNotB) (arg2 fun ws => by rcases ws with _ | ⟨a, _ | ⟨b, _ | ⟨c, d⟩⟩⟩ <;> rfl) (.inl rfl) fun H O O' a b x y v ra rb _ e hT Q hQ => ?_
  cases a <;> cases b <;> simp only [pvIsNotB] at e <;> cases e
  rw [show x = _ from ra, show y = _ from rb]
  exact ⟨_, _, rfl, rfl, hQ.bl⟩
theorem sat_tru : PSat K .tru (fun xs H Q => ∃ x, xs = [x] ∧ ∃ k, TruV K x H k ∧ Q (.bl k) H) := by
  refine PSat.of1 (f := pvTru) (r := fun x H Q => ∃ k, TruV K x H k ∧ Q (.bl k) H) (arg1 fun ws => by rcases ws with _ | ⟨a, _ | ⟨b, d⟩⟩ <;> rfl) (.inl rfl) fun H O O' a x v ra _ e hT Q hQ => ?_
  have em : ∀ {vs : List PV} {ys : List V}, Rs K H O vs ys → (!vs.isEmpty) = !ys.isEmpty := fun {vs ys} r => by
    cases vs with
    | nil => rw [show ys = [] from r]; rfl
    | cons v vs => obtain ⟨y, ys', rfl, _⟩ := r; rfl
  unfold pvTru at e
  cases a <;> simp only [truP] at e
  · cases e; rw [show x = _ from ra]; exact ⟨false, rfl, hQ.bl⟩
  · cases e; rw [show x = _ from ra]; exact ⟨_, rfl, hQ.bl⟩
  · cases e; rw [show x = _ from ra]; exact ⟨_, rfl, hQ.bl⟩
  · split at e <;> cases e
    rename_i hz
    rw [show x = _ from ra]; exact ⟨_, ⟨hz, rfl⟩, hQ.bl⟩
  · cases e
    obtain ⟨p, ys, rfl, t, r⟩ := ra
    exact ⟨_, .inr (.inl ⟨ys, t.sq, em r⟩), hQ.bl⟩
  · cases e
    obtain ⟨p, ys, rfl, t, r⟩ := ra
    exact ⟨_, .inl ⟨ys, SqL.of t, em r⟩, hQ.bl⟩
  · cases e
  · cases e
  · cases e
  · cases e
    obtain ⟨p, ys, rfl, t, r⟩ := ra
    exact ⟨_, .inl ⟨ys, t.sq, em r⟩, hQ.bl⟩
  · cases e
  · cases e
theorem sat_tuple : PSat K .tuple (fun xs H Q => ∃ p ys, xs = [.ref p] ∧ ((SqL K H p ys ∧ ∀ l, H l = none → Q (.ref l) (upd H l (.tup ys))) ∨ (SqT K H p ys ∧ Q (.ref p) H))) := by
  refine PSat.call1 (f := pvTuple) (arg1 fun ws => by rcases ws with _ | ⟨a, _ | ⟨b, d⟩⟩ <;> rfl) (.inr rfl) fun H O O' a x v ra hO e hT Q hQ => ?_
  have hO : O' = O := hO
  subst hO
  cases a <;> simp only [pvTuple] at e <;> cases e
  · obtain ⟨h1, h2⟩ := hQ.tup
    obtain ⟨p, ys, rfl, t, r⟩ := ra
    exact ⟨p, ys, rfl, .inr ⟨t.sq, h1 p ys t r⟩⟩
  · obtain ⟨h1, h2⟩ := hQ.tup
    obtain ⟨p, ys, rfl, t, r⟩ := ra
    exact ⟨p, ys, rfl, .inl ⟨SqL.of t, fun l hl => h2 ys l r hl (noO hT hl)⟩⟩
/-- isinstance -/
theorem tyX_of {a : PV} {x : V} (r : RT K H O a x) (h : isIst a = true) : TyX K H x (.type (tyOf a)) := by
  cases a with
  | non => rw [show x = _ from r]; exact .base .non
  | bl _ => rw [show x = _ from r]; exact .base (.bl _)
  | int _ => rw [show x = _ from r]; exact .base (.int _)
  | str _ => rw [show x = _ from r]; exact .base (.str _)
  | ty n => cases h
  | exn _ _ _ => cases h
  | exr _ _ _ _ _ => cases h
  | tup vs =>
    obtain ⟨p, ys, rfl, t, _⟩ := r
    rcases t with ⟨t | ⟨o, t⟩, _⟩ | ⟨o, its, n, t, c, _⟩
    · exact .base (.tup t)
    · exact .fTuple t
    · exact .kTuple t c
  | lst vs => obtain ⟨p, ys, rfl, t, _⟩ := r; exact .base (.lst t)
  | dk _ vs => obtain ⟨p, ys, rfl, t, _⟩ := r; exact .base (.dK t)
  | dt _ vs => obtain ⟨p, ys, rfl, t, _⟩ := r; exact .base (.dT t)
  | scr vs =>
    obtain ⟨p, ys, rfl, t, _⟩ := r
    rcases t with ⟨t | ⟨o, t⟩, _⟩ | ⟨o, its, n, t, c, _⟩
    · exact .base (.lst t)
    · exact .base (.frz t)
    · exact .kList t c
theorem kit_isTy : ∀ a ∈ ["NoneType", "bool", "int", "str", "tuple", "list", "dict"], ∀ b ∈ ["int", "bool", "str", "tuple", "list"], kitB a b = some (a == b || (a == "bool" && b == "int")) := by decide +kernel
theorem tyOf_mem (a : PV) (h : isIst a = true) : tyOf a ∈ ["NoneType", "bool", "int", "str", "tuple", "list", "dict"] := by
  cases a <;> first | cases h; done | (simp [tyOf]; done)
theorem okTy_mem {n : String} (h : okTy n = true) : n ∈ ["int", "bool", "str", "tuple", "list"] := by
  unfold okTy at h
  simp only [Bool.or_eq_true, beq_iff_eq] at h
  simp only [List.mem_cons, List.not_mem_nil, or_false]
  rcases h with (((h | h) | h) | h) | h <;> simp [h]
theorem sat_isinst : PSat K .isinst (rIsi K) := by
  refine PSat.call2 (f := pvIsinst) (arg2 fun ws => by rcases ws with _ | ⟨a, _ | ⟨b, _ | ⟨c, d⟩⟩⟩ <;> rfl) (.inl rfl) fun H O O' a b x y v ra rb _ e hT Q hQ => ?_
  have na : isIst a = true := by cases a <;> first | rfl | cases e
  cases b with
  | ty n =>
    have e' : (if okTy n = true then some (PV.bl (isTy a n)) else none) = some v := by
      cases a <;> first | exact e | cases na
    split at e' <;> cases e'
    rename_i hn
    rw [show y = _ from rb]
    exact ⟨x, .ty n, _, _, _, rfl, .ty n, tyX_of ra na, kit_ty (kit_isTy _ (tyOf_mem a na) _ (okTy_mem hn)), hQ.bl⟩
  | _ => cases a <;> cases e
/-- displays -/
theorem sat_tupD : PSat K .tupD (fun xs H Q => xs.length ≤ sizeLine ∧ ∀ p, H p = none → Q (.ref p) (upd H p (.tup xs))) := by
  intro H O O' ws xs v hr hO e hT Q hQ
  have hr : Rs K H O ws xs := hr
  have hO : O' = O := hO
  subst hO
  have e' : (if ws.length ≤ sizeLine then some (PV.tup ws) else none) = some v := by
    rcases ws with _ | ⟨a, _ | ⟨b, _ | ⟨c, d⟩⟩⟩ <;> exact e
  split at e' <;> cases e'
  rename_i hl
  exact ⟨by rw [hr.length]; exact hl, fun p hp => hQ.tup.2 xs p hr hp (noO hT hp)⟩
theorem sat_lstD : PSat K .lstD (fun xs H Q => xs.length ≤ sizeLine ∧ ∀ p, H p = none → Q (.ref p) (upd H p (.lst xs))) := by
  intro H O O' ws xs v hr hO e hT Q hQ
  have hr : Rs K H O ws xs := hr
  have hO : O' = O := hO
  subst hO
  have e' : (if ws.length ≤ sizeLine then some (PV.lst ws) else none) = some v := by
    rcases ws with _ | ⟨a, _ | ⟨b, _ | ⟨c, d⟩⟩⟩ <;> exact e
  split at e' <;> cases e'
  rename_i hl
  exact ⟨by rw [hr.length]; exact hl, fun p hp => hQ.fresh rfl hr hp⟩
end
end VI
namespace VI
open PySem PySem.Spec PyProof.Rows L2
section
variable {K : PySem.W.Frag} {H H' : Hp} {O O' : Addr → Prop}
theorem maxL_ok : ∀ (a : Int) (l : List Int), maxL (a :: l) ∈ a :: l ∧ ∀ y ∈ a :: l, y ≤ maxL (a :: l)
  | a, [] => ⟨List.mem_cons_self, fun y hy => by rw [List.mem_singleton.mp hy]; exact Int.le_refl _⟩
  | a, b :: l => by
    obtain ⟨h1, h2⟩ := maxL_ok b l
    have e : maxL (a :: b :: l) = max a (maxL (b :: l)) := rfl
    refine ⟨?_, fun y hy => ?_⟩
    · rw [e]
      by_cases c : a ≤ maxL (b :: l)
      · rw [Int.max_eq_right c]; exact List.mem_cons_of_mem _ h1
      · rw [Int.max_eq_left (by omega)]; exact List.mem_cons_self
    · rw [e]
      rcases List.mem_cons.mp hy with rfl | hy
      · omega
      · have := h2 y hy; omega
theorem minL_ok : ∀ (a : Int) (l : List Int), minL (a :: l) ∈ a :: l ∧ ∀ y ∈ a :: l, minL (a :: l) ≤ y
  | a, [] => ⟨List.mem_cons_self, fun y hy => by rw [List.mem_singleton.mp hy]; exact Int.le_refl _⟩
  | a, b :: l => by
    obtain ⟨h1, h2⟩ := minL_ok b l
    have e : minL (a :: b :: l) = min a (minL (b :: l)) := rfl
    refine ⟨?_, fun y hy => ?_⟩
    · rw [e]
      by_cases c : a ≤ minL (b :: l)
      · rw [Int.min_eq_left c]; exact List.mem_cons_self
      · rw [Int.min_eq_right (by omega)]; exact List.mem_cons_of_mem _ h1
    · rw [e]
      rcases List.mem_cons.mp hy with rfl | hy
      · omega
      · have := h2 y hy; omega
theorem insI_perm (x : Int) : ∀ l : List Int, (insI x l).Perm (x :: l)
  | [] => .refl _
  | y :: l => by
    unfold insI
    split
    · exact .refl _
    · exact ((insI_perm x l).cons y).trans (.swap x y l)
theorem insI_mem {x y : Int} {l : List Int} : y ∈ insI x l ↔ y = x ∨ y ∈ l := by
  rw [(insI_perm x l).mem_iff, List.mem_cons]
theorem insI_asc {x : Int} : ∀ {l : List Int}, l.Pairwise (· ≤ ·) → (insI x l).Pairwise (· ≤ ·)
  | [], _ => List.pairwise_singleton _ _
  | y :: l, h => by
    rw [List.pairwise_cons] at h
    unfold insI
    split
    · rename_i c
      rw [List.pairwise_cons]
      refine ⟨fun z hz => ?_, List.pairwise_cons.mpr h⟩
      rcases List.mem_cons.mp hz with rfl | hz
      · exact c
      · have := h.1 z hz; omega
    · rename_i c
      rw [List.pairwise_cons]
      refine ⟨fun z hz => ?_, insI_asc h.2⟩
      rcases insI_mem.mp hz with rfl | hz
      · omega
      · exact h.1 z hz
theorem srtI_perm : ∀ l : List Int, (srtI l).Perm l
  | [] => .refl _
  | x :: l => (insI_perm x (srtI l)).trans ((srtI_perm l).cons x)
theorem srtI_asc : ∀ l : List Int, (srtI l).Pairwise (· ≤ ·)
  | [] => .nil
  | x :: l => insI_asc (srtI_asc l)
theorem srtI_uniq {l ns : List Int} (h : ns.Perm l) (a : ns.Pairwise (· ≤ ·)) : ns = srtI l := PySem.W.ksm_same (h.trans (srtI_perm l).symm) a (srtI_asc l)
theorem rs_ints (ns : List Int) : Rs K H O (ns.map PV.int) (ns.map V.int) := by
  induction ns with
  | nil => rfl
  | cons n ns ih => exact ⟨_, _, rfl, rfl, ih⟩
theorem sat_gcd : PSat K .gcd rGcd := by
  refine PSat.call2 (f := pvGcd) (arg2 fun ws => by rcases ws with _ | ⟨a, _ | ⟨b, _ | ⟨c, d⟩⟩⟩ <;> rfl) (.inl rfl) fun H O O' a b x y v ra rb _ e hT Q hQ => ?_
  cases a <;> cases b <;> simp only [pvGcd] at e <;> cases e
  rw [show x = _ from ra, show y = _ from rb]
  exact ⟨_, _, rfl, hQ.int⟩
theorem sat_str1 : PSat K .str1 (fun xs H Q => ∃ i, xs = [.int i] ∧ i.natAbs.log2 < 1920 ∧ Q (.str (toString i)) H) := by
  refine PSat.call1 (f := pvStr) (arg1 fun ws => by rcases ws with _ | ⟨a, _ | ⟨b, d⟩⟩ <;> rfl) (.inl rfl) fun H O O' a x v ra _ e hT Q hQ => ?_
  cases a <;> simp only [pvStr] at e <;> try cases e
  split at e
  · rename_i h
    cases e
    rw [show x = _ from ra]
    exact ⟨_, rfl, h, hQ.str⟩
  · cases e
theorem sat_max1 : PSat K .max1 (rMax K) := by
  refine PSat.call1 (f := pvMax1) (arg1 fun ws => by rcases ws with _ | ⟨a, _ | ⟨b, d⟩⟩ <;> rfl) (.inl rfl) fun H O O' a x v ra _ e hT Q hQ => ?_
  cases a <;> simp only [pvMax1] at e <;> try cases e
  rename_i vs
  cases e2 : asInts vs with
  | none => rw [e2] at e; cases e
  | some ns =>
    rw [e2] at e
    cases ns with
    | nil => cases e
    | cons a l =>
      cases e
      obtain ⟨p, ys, rfl, t, r⟩ := ra
      have := asInts_rs e2 r
      subst this
      refine ⟨p, a :: l, rfl, SqL.of t, by simp, fun m hm hle => ?_⟩
      obtain ⟨h1, h2⟩ := maxL_ok a l
      have : m = maxL (a :: l) := Int.le_antisymm (h2 m hm) (hle _ h1)
      rw [this]
      exact hQ.int
theorem sat_min1 : PSat K .min1 (rMin K) := by
  refine PSat.call1 (f := pvMin1) (arg1 fun ws => by rcases ws with _ | ⟨a, _ | ⟨b, d⟩⟩ <;> rfl) (.inl rfl) fun H O O' a x v ra _ e hT Q hQ => ?_
  cases a <;> simp only [pvMin1] at e <;> try cases e
  rename_i vs
  cases e2 : asInts vs with
  | none => rw [e2] at e; cases e
  | some ns =>
    rw [e2] at e
    cases ns with
    | nil => cases e
    | cons a l =>
      cases e
      obtain ⟨p, ys, rfl, t, r⟩ := ra
      have := asInts_rs e2 r
      subst this
      refine ⟨p, a :: l, rfl, SqL.of t, by simp, fun m hm hle => ?_⟩
      obtain ⟨h1, h2⟩ := minL_ok a l
      have : m = minL (a :: l) := Int.le_antisymm (hle _ h1) (h2 m hm)
      rw [this]
      exact hQ.int
theorem lt_cps : ∀ a b : List Nat, ltCps a b = decide (a < b)
  | [], [] => by decide
  | [], _ :: _ => by simp [ltCps]
  | _ :: _, [] => by simp [ltCps]
  | x :: xs, y :: ys => by
    rw [ltCps, lt_cps xs ys]
    by_cases c : x < y
    · simp [c, List.cons_lt_cons_iff]
    · by_cases d : x = y
      · subst d; simp
      · simp [c, d, List.cons_lt_cons_iff]
def leS (x y : Str) : Prop := ¬ y.cps.toList < x.cps.toList
theorem leS_trans {x y z : Str} (h : leS x y) (h2 : leS y z) : leS x z := by
  have h1 : x.cps.toList ≤ y.cps.toList := List.not_lt.mp h
  have h3 : y.cps.toList ≤ z.cps.toList := List.not_lt.mp h2
  exact List.not_lt.mpr (List.le_trans h1 h3)
theorem leS_anti {x y : Str} (h : leS x y) (h2 : leS y x) : x = y := by
  have e : x.cps.toList = y.cps.toList := List.le_antisymm (List.not_lt.mp h) (List.not_lt.mp h2)
  cases x; cases y
  have e : _ = _ := e
  simp only at e
  rw [Array.toList_inj.mp e]
theorem leS_of_lt {x y : Str} (h : x.cps.toList < y.cps.toList) : leS x y := List.lt_asymm h
theorem insS_perm (x : Str) : ∀ l : List Str, (insS x l).Perm (x :: l)
  | [] => .refl _
  | y :: l => by
    unfold insS
    split
    · exact ((insS_perm x l).cons y).trans (.swap x y l)
    · exact .refl _
theorem srtS_perm : ∀ l : List Str, (srtS l).Perm l
  | [] => .refl _
  | x :: l => (insS_perm x _).trans ((srtS_perm l).cons x)
theorem insS_asc {x : Str} : ∀ {l : List Str}, l.Pairwise leS → (insS x l).Pairwise leS
  | [], _ => List.pairwise_singleton _ _
  | y :: l, h => by
    obtain ⟨h1, h2⟩ := List.pairwise_cons.mp h
    unfold insS
    split
    · rename_i c
      refine List.pairwise_cons.mpr ⟨fun z hz => ?_, insS_asc h2⟩
      rcases List.mem_cons.mp ((insS_perm x l).mem_iff.mp hz) with rfl | hz
      · exact leS_of_lt c
      · exact h1 z hz
    · rename_i c
      refine List.pairwise_cons.mpr ⟨fun z hz => ?_, h⟩
      rcases List.mem_cons.mp hz with rfl | hz
      · exact c
      · exact leS_trans c (h1 z hz)
theorem srtS_asc : ∀ l : List Str, (srtS l).Pairwise leS
  | [] => List.Pairwise.nil
  | _ :: l => insS_asc (srtS_asc l)
theorem risingS_pw : ∀ {l : List Str} {x : Str}, risingS x l = true → (x :: l).Pairwise leS
  | [], x, _ => List.pairwise_singleton _ _
  | y :: l, x, h => by
    rw [risingS, Bool.and_eq_true] at h
    have ih := risingS_pw h.2
    have h1 : leS x y := by
      have := h.1
      rw [lt_cps] at this
      simpa [leS] using this
    refine List.pairwise_cons.mpr ⟨fun z hz => ?_, ih⟩
    rcases List.mem_cons.mp hz with rfl | hz
    · exact h1
    · exact leS_trans h1 ((List.pairwise_cons.mp ih).1 z hz)
theorem sortedS_pw {l : List Str} (h : sortedS l = true) : l.Pairwise leS := by
  cases l with
  | nil => exact List.Pairwise.nil
  | cons x l => exact risingS_pw h
theorem srtS_uniq {l ns : List Str} (h : ns.Perm l) (a : ns.Pairwise leS) : ns = srtS l := List.Perm.eq_of_pairwise (fun _ _ _ _ h1 h2 => leS_anti h1 h2) a (srtS_asc l) (h.trans (srtS_perm l).symm)
theorem rs_strs {H : Hp} {O : Addr → Prop} : ∀ l : List Str, Rs K H O (l.map PV.str) (l.map V.str)
  | [] => rfl
  | x :: l => ⟨_, _, rfl, rfl, rs_strs l⟩
def rSortedA (K : PySem.W.Frag) : List V → Hp → VK → Prop := fun xs H Q => rSortedI K xs H Q ∨ rSortedS K xs H Q
theorem sat_sorted : PSat K .sorted (rSortedA K) := by
  refine PSat.call1 (f := pvSorted) (arg1 fun ws => by rcases ws with _ | ⟨a, _ | ⟨b, d⟩⟩ <;> rfl) (.inl rfl) fun H O O' a x v ra _ e hT Q hQ => ?_
  cases a <;> simp only [pvSorted] at e <;> try cases e
  rename_i vs
  cases e2 : asInts vs with
  | none =>
    rw [e2] at e
    simp only at e
    cases e3 : asStrs vs with
    | none => rw [e3] at e; cases e
    | some ss =>
      rw [e3] at e
      simp only [Option.bind_some] at e
      split at e
      case isFalse => cases e
      rename_i hl
      cases e
      obtain ⟨p, ys, rfl, t, r⟩ := ra
      have := asStrs_rs e3 r
      subst this
      refine .inr ⟨p, ss, rfl, SqL.of t, hl, fun ns' l h1 h2 hl => ?_⟩
      rw [srtS_uniq h1 (sortedS_pw h2)]
      exact hQ.fresh rfl (rs_strs _) hl
  | some ns =>
    rw [e2] at e
    cases e
    obtain ⟨p, ys, rfl, t, r⟩ := ra
    have := asInts_rs e2 r
    subst this
    refine .inl ⟨p, ns, rfl, SqL.of t, fun ns' l h1 h2 hl => ?_⟩
    rw [srtI_uniq h1 h2]
    exact hQ.fresh rfl (rs_ints _) hl
end
end VI
namespace VI
open PySem PySem.Spec PyProof.Rows L2
section
variable {K : PySem.W.Frag} {X : Cx} {H H' : Hp} {O O' : Addr → Prop}
theorem readsAll_ints {h : Heap} : ∀ {vs : List Value} {ns : List Int}, IntsAre vs ns → PySem.W.HoldAll h vs ns
  | _, _, .nil => ⟨[], .nil⟩
  | _, _, .cons n t r => by
    obtain ⟨as, q⟩ := readsAll_ints (h := h) r
    exact ⟨_, .cons (.int _ _) q⟩
theorem holds_int {h : Heap} {v : Value} {n : Int} (e : PySem.W.Holds h v n) : ∃ t, v = .int n t := by
  obtain ⟨as, r⟩ := e
  cases r
  exact ⟨_, rfl⟩
theorem maxOf_ok : ∀ (ys : List Int) (y : Int), PySem.W.maxOf y ys ∈ y :: ys ∧ ∀ z ∈ y :: ys, z ≤ PySem.W.maxOf y ys
  | [], y => ⟨List.mem_cons_self, fun z hz => by
    have : z = y := by simpa using hz
    subst this; exact Int.le_refl _⟩
  | a :: ys, y => by
    have e : PySem.W.maxOf y (a :: ys) = PySem.W.maxOf (if y < a then a else y) ys := by
      unfold PySem.W.maxOf
      show List.foldl _ (if decide (y < a) = true then a else y) ys = _
      simp only [decide_eq_true_eq]
    obtain ⟨h1, h2⟩ := maxOf_ok ys (if y < a then a else y)
    rw [e]
    have h3 := h2 _ List.mem_cons_self
    generalize PySem.W.maxOf (if y < a then a else y) ys = M at *
    refine ⟨?_, fun z hz => ?_⟩
    · rcases List.mem_cons.mp h1 with h1 | h1
      · rw [h1]; split <;> simp
      · simp [h1]
    · rcases List.mem_cons.mp hz with rfl | hz
      · split at h3 <;> omega
      · rcases List.mem_cons.mp hz with rfl | hz
        · split at h3 <;> omega
        · exact h2 z (List.mem_cons_of_mem _ hz)
theorem minOf_ok : ∀ (ys : List Int) (y : Int), PySem.W.minOf y ys ∈ y :: ys ∧ ∀ z ∈ y :: ys, PySem.W.minOf y ys ≤ z
  | [], y => ⟨List.mem_cons_self, fun z hz => by
    have : z = y := by simpa using hz
    subst this; exact Int.le_refl _⟩
  | a :: ys, y => by
    have e : PySem.W.minOf y (a :: ys) = PySem.W.minOf (if a < y then a else y) ys := by
      unfold PySem.W.minOf
      show List.foldl _ (if decide (a < y) = true then a else y) ys = _
      simp only [decide_eq_true_eq]
    obtain ⟨h1, h2⟩ := minOf_ok ys (if a < y then a else y)
    rw [e]
    have h3 := h2 _ List.mem_cons_self
    generalize PySem.W.minOf (if a < y then a else y) ys = M at *
    refine ⟨?_, fun z hz => ?_⟩
    · rcases List.mem_cons.mp h1 with h1 | h1
      · rw [h1]; split <;> simp
      · simp [h1]
    · rcases List.mem_cons.mp hz with rfl | hz
      · split at h3 <;> omega
      · rcases List.mem_cons.mp hz with rfl | hz
        · split at h3 <;> omega
        · exact h2 z (List.mem_cons_of_mem _ hz)
/-- max(xs, default=d), min(xs, default=d) of ints -/
def rMxd (K : PySem.W.Frag) (x y : V) (H : Hp) (Q : VK) : Prop := ∃ (a : Addr) (ns : List Int) (d : Int), x = V.ref a ∧ y = .int d ∧ SqL K H a (ns.map V.int) ∧ (ns = [] → Q (.int d) H) ∧ ∀ m, m ∈ ns → (∀ z, z ∈ ns → z ≤ m) → Q (.int m) H
def rMnd (K : PySem.W.Frag) (x y : V) (H : Hp) (Q : VK) : Prop := ∃ (a : Addr) (ns : List Int) (d : Int), x = V.ref a ∧ y = .int d ∧ SqL K H a (ns.map V.int) ∧ (ns = [] → Q (.int d) H) ∧ ∀ m, m ∈ ns → (∀ z, z ∈ ns → m ≤ z) → Q (.int m) H
def rK2 (r : V → V → Hp → VK → Prop) : List V → List V → Hp → VK → Prop
  | [x], [y], H, Q => r x y H Q
  | _, _, _, _ => False
theorem rK2_inv {r : V → V → Hp → VK → Prop} {vs zs : List V} {H : Hp} {Q : VK} (h : rK2 r vs zs H Q) : ∃ x y, vs = [x] ∧ zs = [y] ∧ r x y H Q := by
  rcases vs with _ | ⟨x, _ | ⟨x2, vs⟩⟩ <;> rcases zs with _ | ⟨y, _ | ⟨y2, zs⟩⟩ <;> first | exact h.elim | exact ⟨_, _, rfl, rfl, h⟩
theorem cr_maxDef (hc : X.calm = true) (hu : X.A.units + 1 < cLine) : CallRK X (.builtin "max") [Str.ofString "default"] (rK2 (rMxd X.K)) := by
  intro pins s σ H vs zs us ws Q I r rz h
  obtain ⟨x, y, rfl, rfl, a, ns, d, rfl, rfl, hs, q0, q1⟩ := rK2_inv h
  obtain rfl := Vals.ref1 r
  obtain ⟨w1, rfl, e1⟩ := vals1 rz
  obtain ⟨t, rfl⟩ : ∃ t, w1 = Value.int d t := e1
  obtain ⟨its, rv, hl, _⟩ := I.list hs
  refine PySem.W.max_list_datum_default (α := Int) (I.ok.hd hc) hl.isList (readsAll_ints rv.ints) hu (fun e h' tk hk => ⟨.int d, H, I.kept hk, ⟨_, rfl⟩, q0 e⟩) fun y ys i v h' tk e hi hv hk => ?_
  obtain ⟨t', rfl⟩ := holds_int hv
  obtain ⟨h1, h2⟩ := maxOf_ok ys y
  exact ⟨.int _, H, I.kept hk, ⟨_, rfl⟩, q1 _ (e ▸ h1) (e ▸ h2)⟩
theorem cr_minDef (hc : X.calm = true) (hu : X.A.units + 1 < cLine) : CallRK X (.builtin "min") [Str.ofString "default"] (rK2 (rMnd X.K)) := by
  intro pins s σ H vs zs us ws Q I r rz h
  obtain ⟨x, y, rfl, rfl, a, ns, d, rfl, rfl, hs, q0, q1⟩ := rK2_inv h
  obtain rfl := Vals.ref1 r
  obtain ⟨w1, rfl, e1⟩ := vals1 rz
  obtain ⟨t, rfl⟩ : ∃ t, w1 = Value.int d t := e1
  obtain ⟨its, rv, hl, _⟩ := I.list hs
  refine PySem.W.min_list_datum_default (α := Int) (I.ok.hd hc) hl.isList (readsAll_ints rv.ints) hu (fun e h' tk hk => ⟨.int d, H, I.kept hk, ⟨_, rfl⟩, q0 e⟩) fun y ys i v h' tk e hi hv hk => ?_
  obtain ⟨t', rfl⟩ := holds_int hv
  obtain ⟨h1, h2⟩ := minOf_ok ys y
  exact ⟨.int _, H, I.kept hk, ⟨_, rfl⟩, q1 _ (e ▸ h1) (e ▸ h2)⟩
theorem sat_max1d : PSat K .max1d fun xs H Q => ∃ x y, xs = [x, y] ∧ rMxd K x y H Q := by
  refine PSat.of2 (f := pvMax1d) (arg2 fun ws => by rcases ws with _ | ⟨a, _ | ⟨b, _ | ⟨c, d⟩⟩⟩ <;> rfl) (.inl rfl) fun H O O' a b x y v ra rb _ e hT Q hQ => ?_
  cases a <;> cases b <;> simp only [pvMax1d] at e <;> try cases e
  rename_i vs d
  cases e2 : asInts vs with
  | none => rw [e2] at e; cases e
  | some ns =>
    rw [e2] at e
    obtain ⟨p, ys, rfl, t, r⟩ := ra
    have := asInts_rs e2 r
    subst this
    rw [show y = _ from rb]
    cases ns with
    | nil =>
      cases e
      exact ⟨p, [], d, rfl, rfl, SqL.of t, fun _ => hQ.int, fun m hm => nomatch hm⟩
    | cons a l =>
      cases e
      refine ⟨p, a :: l, d, rfl, rfl, SqL.of t, (fun z => nomatch z), fun m hm hle => ?_⟩
      obtain ⟨h1, h2⟩ := maxL_ok a l
      have : m = maxL (a :: l) := Int.le_antisymm (h2 m hm) (hle _ h1)
      rw [this]
      exact hQ.int
theorem sat_min1d : PSat K .min1d fun xs H Q => ∃ x y, xs = [x, y] ∧ rMnd K x y H Q := by
  refine PSat.of2 (f := pvMin1d) (arg2 fun ws => by rcases ws with _ | ⟨a, _ | ⟨b, _ | ⟨c, d⟩⟩⟩ <;> rfl) (.inl rfl) fun H O O' a b x y v ra rb _ e hT Q hQ => ?_
  cases a <;> cases b <;> simp only [pvMin1d] at e <;> try cases e
  rename_i vs d
  cases e2 : asInts vs with
  | none => rw [e2] at e; cases e
  | some ns =>
    rw [e2] at e
    obtain ⟨p, ys, rfl, t, r⟩ := ra
    have := asInts_rs e2 r
    subst this
    rw [show y = _ from rb]
    cases ns with
    | nil =>
      cases e
      exact ⟨p, [], d, rfl, rfl, SqL.of t, fun _ => hQ.int, fun m hm => nomatch hm⟩
    | cons a l =>
      cases e
      refine ⟨p, a :: l, d, rfl, rfl, SqL.of t, (fun z => nomatch z), fun m hm hle => ?_⟩
      obtain ⟨h1, h2⟩ := minL_ok a l
      have : m = minL (a :: l) := Int.le_antisymm (hle _ h1) (h2 m hm)
      rw [this]
      exact hQ.int
end
end VI
namespace VI
open PySem PySem.Spec PyProof.Rows L2

/-! ### rules for all contexts of a family at once -/
/-- the classes' places, and what is wished of an exception that is let out -/
structure XW where
  ca : Nat → Addr
  W : WX
structure Fam (K : PySem.W.Frag) where
  C : Cx → Prop
  k : ∀ X, C X → X.K = K
  xw : XW
abbrev PEu {K} (M : Fam K) (e : Expr) (t : TE) : Prop := ∀ X, M.C X → PE X e t
abbrev PTu {K} (M : Fam K) (e : Expr) (t : TT) : Prop := ∀ X, M.C X → PT X e t
abbrev PWu {K} (M : Fam K) (e : Expr) (t : TT) : Prop := ∀ X, M.C X → PW X e t
abbrev PAu {K} (M : Fam K) (es : List Expr) (t : TA) : Prop := ∀ X, M.C X → PA X es t
abbrev PIu {K} (M : Fam K) (tg it : Expr) (t : TI) : Prop := ∀ X, M.C X → PI X tg it t
abbrev PGu {K} (M : Fam K) (tg : Expr) (t : TG) : Prop := ∀ X, M.C X → PG X tg t
abbrev PGsu {K} (M : Fam K) (tg : List Expr) (t : TGs) : Prop := ∀ X, M.C X → PGs X tg t
abbrev POu {K} (M : Fam K) (e : Option Expr) (t : TO) : Prop := ∀ X, M.C X → PO X e t
abbrev PTsu {K} (M : Fam K) (es : List Expr) (t : TT) : Prop := ∀ X, M.C X → PTs X es t
abbrev OpRu {K} (M : Fam K) (f : Value → Value → Sem Value) (r : R2) : Prop := ∀ X, M.C X → OpR X f r
abbrev UnRu {K} (M : Fam K) (f : Value → Sem Value) (r : V → Hp → VK → Prop) : Prop := ∀ X, M.C X → UnR X f r
abbrev CallRu {K} (M : Fam K) (f : Value) (r : List V → Hp → VK → Prop) : Prop := ∀ X, M.C X → CallR X f r
abbrev Glu {K} (M : Fam K) (x : Str) : Prop := ∀ X, M.C X → Gl X x
abbrev Mgu {K} (M : Fam K) (x : Str) : Prop := ∀ X, M.C X → X.mg x = none
/-- an expression that is no star -/
abbrev NoStaru {K} (M : Fam K) (e : Expr) : Prop := ∀ X, M.C X → ∀ es, starEach (e :: es) X.env = (false, eval e X.env) :: starEach es X.env
abbrev Staru {K} (M : Fam K) (es : List Expr) : Prop := ∀ X, M.C X → ∀ pos, (backTo pos (starEach es X.env)).any (·.1) = false

section
variable {K : PySem.W.Frag} {M : Fam K} {a b c e : Expr} {es : List Expr} {ta tb tc te : TE} {tA tB' : TT} {t : TA} {pos p px p2 : Pos} {tg : Expr}
theorem pe_opU {op : Operator} {r : R2} (ho : OpRu M (binaryOp op) r) (ha : PEu M a ta) (hb : PEu M b tb) : PEu M (.BinOp a op b pos) (tOp r ta tb) := fun X h => pe_op (ho X h) (ha X h) (hb X h)
theorem pe_unU {op : UnaryOp} {r : V → Hp → VK → Prop} (ho : UnRu M (unaryOp op) r) (ha : PEu M a ta) : PEu M (.UnaryOp op a pos) (tUn r ta) := fun X h => pe_un (ho X h) (ha X h)
theorem pe_cmpU {op : CmpOp} {r : R2} (ho : OpRu M (compareOp op) r) (ha : PEu M a ta) (hb : PEu M b tb) (hm : behindInMarks op b = false) : PEu M (.Compare a [op] [b] pos) (tOp r ta tb) := fun X h => pe_cmpR (ho X h) (ha X h) (hb X h) hm
theorem pt_cmpU {op : CmpOp} {r : R2} (ho : OpRu M (compareOp op) r) (ha : PEu M a ta) (hb : PEu M b tb) (hm : behindInMarks op b = false) : PTu M (.Compare a [op] [b] pos) (tTest (tOp r ta tb)) := fun X h => pt_cmpR (ho X h) (ha X h) (hb X h) hm
theorem pe_isNU {j : Nat} (ha : PEu M a ta) : PEu M (.Compare a [.Is] [.Constant .none j p] pos) (tIsN ta) := fun X h => pe_cmp (pc_isN (ha X h)) rfl
theorem pt_isNU {j : Nat} (ha : PEu M a ta) : PTu M (.Compare a [.Is] [.Constant .none j p] pos) (tB (tIsN ta)) := fun X h => pt_cmp (pc_isN (ha X h)) rfl
theorem pe_notNU {j : Nat} (ha : PEu M a ta) : PEu M (.Compare a [.IsNot] [.Constant .none j p] pos) (tNotN ta) := fun X h => pe_cmp (pc_notN (ha X h)) rfl
theorem pt_notNU {j : Nat} (ha : PEu M a ta) : PTu M (.Compare a [.IsNot] [.Constant .none j p] pos) (tB (tNotN ta)) := fun X h => pt_cmp (pc_notN (ha X h)) rfl
theorem pe_notU (ha : PEu M a ta) : PEu M (.UnaryOp .Not a pos) (tNotV ta) := fun X h => pe_not (ha X h)
theorem pt_notU (ha : PTu M a tA) : PTu M (.UnaryOp .Not a pos) (tNot tA) := fun X h => pt_not (ha X h)
theorem pe_oneU {op} {t : TE} (h : PEu M a t) : PEu M (.BoolOp op [a] pos) t := fun X hX => pe_one (h X hX)
theorem pw_and1U (ha : PTu M a tA) : PWu M (.BoolOp .And [a] pos) tA := fun X h => pw_and1 (ha X h)
theorem pw_or1U (ha : PTu M a tA) : PWu M (.BoolOp .Or [a] pos) tA := fun X h => pw_or1 (ha X h)
theorem pe_andU (ha : PEu M a ta) (hb : PEu M (.BoolOp .And (b :: es) pos) tb) : PEu M (.BoolOp .And (a :: b :: es) pos) (tAndV ta tb) := fun X h => pe_and (ha X h) (hb X h)
theorem pe_orU (ha : PEu M a ta) (hb : PEu M (.BoolOp .Or (b :: es) pos) tb) : PEu M (.BoolOp .Or (a :: b :: es) pos) (tOrV ta tb) := fun X h => pe_or (ha X h) (hb X h)
theorem pw_andU (ha : PTu M a tA) (hb : PWu M (.BoolOp .And (b :: es) pos) tB') : PWu M (.BoolOp .And (a :: b :: es) pos) (tAnd tA tB') := fun X h => pw_and (ha X h) (hb X h)
theorem pw_orU (ha : PTu M a tA) (hb : PWu M (.BoolOp .Or (b :: es) pos) tB') : PWu M (.BoolOp .Or (a :: b :: es) pos) (tOr tA tB') := fun X h => pw_or (ha X h) (hb X h)
theorem pw_ptU (h : PWu M e tA) : PTu M e tA := fun X hX => (h X hX).pt
theorem pe_ifExpU (hc : PTu M c tA) (ha : PEu M a ta) (hb : PEu M b tb) : PEu M (.IfExp c a b pos) (tIf tA ta tb) := fun X h => pe_ifExp (hc X h) (ha X h) (hb X h)
theorem pe_chainU {op op' : CmpOp} {r r' : R2} (ho : OpRu M (compareOp op) r) (ho' : OpRu M (compareOp op') r') (ha : PEu M a ta) (hb : PEu M b tb) (hc : PEu M c tc) (hm : lastMarks [op, op'] [b, c] = false) :
    PEu M (.Compare a [op, op'] [b, c] pos) (tChain r r' ta tb tc) := fun X h => pe_chain (ho X h) (ho' X h) (ha X h) (hb X h) (hc X h) hm
theorem pt_chainU {op op' : CmpOp} {r r' : R2} (ho : OpRu M (compareOp op) r) (ho' : OpRu M (compareOp op') r') (ha : PEu M a ta) (hb : PEu M b tb) (hc : PEu M c tc) (hm : lastMarks [op, op'] [b, c] = false) :
    PTu M (.Compare a [op, op'] [b, c] pos) (tTest (tChain r r' ta tb tc)) := fun X h => pt_chain (ho X h) (ho' X h) (ha X h) (hb X h) (hc X h) hm
/-- a op1 b op2 c op3 d -/
def tChain3 (r r' r'' : R2) (ta tb tc td : TE) : TE := fun σ H Q => ta σ H fun x H1 => tb σ H1 fun y H2 => r x y H2 fun z H3 => ∃ k, z = .bl k ∧
  (if k = true then tc σ H3 fun w' H4 => r' y w' H4 fun z2 H5 => ∃ k2, z2 = .bl k2 ∧ (if k2 = true then td σ H5 fun u' H6 => r'' w' u' H6 Q else Q (.bl false) H5) else Q (.bl false) H3)
theorem pe_chain3 {X : Cx} {pos : Pos} {a b c d : Expr} {ta tb tc td : TE} {op op' op'' : CmpOp} {r r' r'' : R2} (ho : OpR X (compareOp op) r) (ho' : OpR X (compareOp op') r') (ho'' : OpR X (compareOp op'') r'') (ha : PE X a ta) (hb : PE X b tb) (hc : PE X c tc) (hd : PE X d td)
    (hm : lastMarks [op, op', op''] [b, c, d] = false) : PE X (.Compare a [op, op', op''] [b, c, d] pos) (tChain3 r r' r'' ta tb tc td) := by
  refine ⟨fun pins s σ H Q I h => ?_⟩
  refine Compare_chain (thn (ha.run pins s σ H _ I h) fun v s1 ⟨x, H1, I1, r1, q1⟩ => chain_link (thn (hb.run pins s1 σ H1 _ I1 q1) fun u s2 ⟨y, H2, I2, r2, q2⟩ =>
    thn (ho pins s2 σ H2 x y v u _ I2 r1 r2 q2) fun d' s3 ⟨z, H3, I3, r3, k, e, q3⟩ => ?_)) hm
  subst e
  cases r3
  refine wpAny_truthy_bool ?_
  cases k with
  | false => exact ite_ff ⟨.bl false, H3, I3, rfl, q3⟩
  | true =>
    refine ite_tt (chain_link (thn (hc.run pins s3 σ H3 _ I3 q3) fun w' s4 ⟨z', H4, I4, r4, q4⟩ => thn (ho' pins s4 σ H4 y z' u w' _ I4 r2 r4 q4) fun d2 s5 ⟨z5, H5, I5, r5, k2, e2, q5⟩ => ?_))
    subst e2
    cases r5
    refine wpAny_truthy_bool ?_
    cases k2 with
    | false => exact ite_ff ⟨.bl false, H5, I5, rfl, q5⟩
    | true => exact ite_tt (chain_last (thn (hd.run pins s5 σ H5 _ I5 q5) fun w6 s6 ⟨z6, H6, I6, r6, q6⟩ => ho'' pins s6 σ H6 z' z6 w' w6 Q I6 r4 r6 q6))
theorem pt_chain3 {X : Cx} {pos : Pos} {a b c d : Expr} {ta tb tc td : TE} {op op' op'' : CmpOp} {r r' r'' : R2} (ho : OpR X (compareOp op) r) (ho' : OpR X (compareOp op') r') (ho'' : OpR X (compareOp op'') r'') (ha : PE X a ta) (hb : PE X b tb) (hc : PE X c tc) (hd : PE X d td)
    (hm : lastMarks [op, op', op''] [b, c, d] = false) : PT X (.Compare a [op, op', op''] [b, c, d] pos) (tTest (tChain3 r r' r'' ta tb tc td)) := by
  refine ⟨fun pins s σ H Q I h => ?_⟩
  refine isTrue_chain (thn (ha.run pins s σ H _ I h) fun v s1 ⟨x, H1, I1, r1, q1⟩ => test_link (thn (hb.run pins s1 σ H1 _ I1 q1) fun u s2 ⟨y, H2, I2, r2, q2⟩ =>
    thn (ho pins s2 σ H2 x y v u _ I2 r1 r2 q2) fun d' s3 ⟨z, H3, I3, r3, k, e, q3⟩ => ?_)) hm
  subst e
  cases r3
  refine wpAny_truthy_bool ?_
  cases k with
  | false =>
    obtain ⟨k', e', q'⟩ := q3
    cases e'
    exact ite_ff ⟨H3, I3, q'⟩
  | true =>
    refine ite_tt (test_link (thn (hc.run pins s3 σ H3 _ I3 q3) fun w' s4 ⟨z', H4, I4, r4, q4⟩ => thn (ho' pins s4 σ H4 y z' u w' _ I4 r2 r4 q4) fun d2 s5 ⟨z5, H5, I5, r5, k2, e2, q5⟩ => ?_))
    subst e2
    cases r5
    refine wpAny_truthy_bool ?_
    cases k2 with
    | false =>
      obtain ⟨k', e', q'⟩ := q5
      cases e'
      exact ite_ff ⟨H5, I5, q'⟩
    | true =>
      refine ite_tt (test_last (thn (hd.run pins s5 σ H5 _ I5 q5) fun w6 s6 ⟨z6, H6, I6, r6, q6⟩ => thn (ho'' pins s6 σ H6 z' z6 w' w6 _ I6 r4 r6 q6) fun d7 s7 ⟨z7, H7, I7, r7, k7, e7, q7⟩ => ?_))
      subst e7
      cases r7
      exact wpAny_truthy_bool ⟨H7, I7, q7⟩
theorem pe_chain3U {op op' op'' : CmpOp} {r r' r'' : R2} {d : Expr} {td : TE} (ho : OpRu M (compareOp op) r) (ho' : OpRu M (compareOp op') r') (ho'' : OpRu M (compareOp op'') r'') (ha : PEu M a ta) (hb : PEu M b tb) (hc : PEu M c tc) (hd : PEu M d td) (hm : lastMarks [op, op', op''] [b, c, d] = false) :
    PEu M (.Compare a [op, op', op''] [b, c, d] pos) (tChain3 r r' r'' ta tb tc td) := fun X h => pe_chain3 (ho X h) (ho' X h) (ho'' X h) (ha X h) (hb X h) (hc X h) (hd X h) hm
theorem pt_chain3U {op op' op'' : CmpOp} {r r' r'' : R2} {d : Expr} {td : TE} (ho : OpRu M (compareOp op) r) (ho' : OpRu M (compareOp op') r') (ho'' : OpRu M (compareOp op'') r'') (ha : PEu M a ta) (hb : PEu M b tb) (hc : PEu M c tc) (hd : PEu M d td) (hm : lastMarks [op, op', op''] [b, c, d] = false) :
    PTu M (.Compare a [op, op', op''] [b, c, d] pos) (tTest (tChain3 r r' r'' ta tb tc td)) := fun X h => pt_chain3 (ho X h) (ho' X h) (ho'' X h) (ha X h) (hb X h) (hc X h) (hd X h) hm
theorem pa_nilU : PAu M [] tNil := fun X h => pa_nil
theorem pa_consU (ha : PEu M e te) (hr : PAu M es t) (hs : NoStaru M e) : PAu M (e :: es) (tCons te t) := fun X h => pa_cons (ha X h) (hr X h) (hs X h es)
theorem pe_tupU {x1} (h : PAu M es t) : PEu M (.Tuple es x1 pos) (tTup t) := fun X hX => pe_tup (h X hX)
theorem pe_lstU (h : PAu M es t) : PEu M (.List es pos) (tLst t) := fun X hX => pe_lst (h X hX)
theorem pe_callBU {x : Str} {id : String} {r : List V → Hp → VK → Prop} (hc : CallRu M (.builtin id) r) (hg : Glu M x) (hm : Mgu M x) (hv : bootBuiltins x = some (.builtin id)) (ha : PAu M (e :: es) t) (hn : x ≠ "__name__") (hdb : (x == ("__debug__" : Str)) = false)
    (he : NoStaru M e) (hpl : Staru M es) : PEu M (.Call (.Name x p) (e :: es) [] pos) (tCB r t) := fun X h => pe_callB (hc X h) (hg X h) (hm X h) hv (ha X h) hn hdb (he X h es) (hpl X h pos)
theorem pe_callTyU {x : Str} {T : String} {r : List V → Hp → VK → Prop} (hc : CallRu M (.type T) r) (hg : Glu M x) (hm : Mgu M x) (hv : bootBuiltins x = some (.type T)) (ha : PAu M (e :: es) t) (hn : x ≠ "__name__") (hdb : (x == ("__debug__" : Str)) = false)
    (he : NoStaru M e) (hpl : Staru M es) : PEu M (.Call (.Name x p) (e :: es) [] pos) (tCB r t) := fun X h => pe_callTy (hc X h) (hg X h) (hm X h) hv (ha X h) hn hdb (he X h es) (hpl X h pos)
theorem ix_K {X : Cx} (h : X.K = K) : IxR X (rIx K) := by subst h; exact ix_seq
theorem pe_ixU (ha : PEu M a ta) (hb : PEu M b tb) (hs : PlainIx b) : PEu M (.Subscript a b pos) (tOp (rIx K) ta tb) := fun X h => pe_ix (ix_K (M.k X h)) (ha X h) (hb X h) hs
theorem po_noneU : POu M none tNoPart := fun X h => po_none
theorem po_someU (h : PEu M e te) : POu M (some e) (tPart te) := fun X hX => po_some (h X hX)
theorem sl_K {X : Cx} (h : X.K = K) : SlR X (rSlB K) := by subst h; exact sl_B
theorem pe_sliceU {lo hi : Option Expr} {tl th : TO} (he : PEu M e te) (hl : POu M lo tl) (hu : POu M hi th) : PEu M (.Subscript e (.Slice lo hi none p2) pos) (tSl (rSlB K) te tl th) := fun X h => pe_slice (sl_K (M.k X h)) (he X h) (hl X h) (hu X h)
theorem pi_listK {X : Cx} (h : X.K = K) (hl : PE X e te) : PI X tg e (iList K te) := by subst h; exact pi_list hl
theorem pi_tupK {X : Cx} (h : X.K = K) (hl : PE X e te) : PI X tg e (iTup K te) := by subst h; exact pi_tup hl
theorem pi_listU (hl : PEu M e te) : PIu M tg e (iList K te) := fun X h => pi_listK (M.k X h) (hl X h)
theorem pi_tupU (hl : PEu M e te) : PIu M tg e (iTup K te) := fun X h => pi_tupK (M.k X h) (hl X h)
theorem pi_strU (hl : PEu M e te) : PIu M tg e (iStr te) := fun X h => pi_str (hl X h)
theorem pi_range1U (hg : Glu M "range") (hm : Mgu M "range") (ha : PAu M [a] t) (hs : NoStaru M a) : PIu M tg (.Call (.Name "range" p) [a] [] pos) (iRng1 t) := fun X h => pi_range1 (hg X h) (hm X h) (ha X h) (hs X h [])
theorem pi_range2U (hg : Glu M "range") (hm : Mgu M "range") (ha : PAu M [a, b] t) (hs : NoStaru M a) (hs2 : NoStaru M b) : PIu M tg (.Call (.Name "range" p) [a, b] [] pos) (iRng2 t) := fun X h =>
  pi_range2 (hg X h) (hm X h) (ha X h) (by rw [hs X h [b], hs2 X h []]; rfl) (hs2 X h [])
theorem pi_enumK {X : Cx} {elts : List Expr} {kk : Nat} {tpos : Pos} (h : X.K = K) (hg : Gl X "enumerate") (hm : X.mg "enumerate" = none) (ha : PA X [e] t) (hs : starEach [e] X.env = [(false, eval e X.env)]) :
    PI X (.Tuple elts kk tpos) (.Call (.Name "enumerate" p) [e] [] pos) (iEnum K t) := by subst h; exact pi_enum hg hm ha hs
theorem pi_enumU {elts : List Expr} {kk : Nat} {tpos : Pos} (hg : Glu M "enumerate") (hm : Mgu M "enumerate") (ha : PAu M [e] t) (hs : NoStaru M e) :
    PIu M (.Tuple elts kk tpos) (.Call (.Name "enumerate" p) [e] [] pos) (iEnum K t) := fun X h => pi_enumK (M.k X h) (hg X h) (hm X h) (ha X h) (hs X h [])
theorem pi_revK {X : Cx} (h : X.K = K) (hg : Gl X "reversed") (hm : X.mg "reversed" = none) (ha : PA X [e] t) (hs : starEach [e] X.env = [(false, eval e X.env)]) : PI X tg (.Call (.Name "reversed" p) [e] [] pos) (iRev K t) := by subst h; exact pi_reversed hg hm ha hs
theorem pi_revU (hg : Glu M "reversed") (hm : Mgu M "reversed") (ha : PAu M [e] t) (hs : NoStaru M e) : PIu M tg (.Call (.Name "reversed" p) [e] [] pos) (iRev K t) := fun X h => pi_revK (M.k X h) (hg X h) (hm X h) (ha X h) (hs X h [])
theorem pi_zipK {X : Cx} {elts : List Expr} {kk : Nat} {tpos : Pos} (h : X.K = K) (hg : Gl X "zip") (hm : X.mg "zip" = none) (ha : PA X [a, b] t) (hs : starEach [a, b] X.env = (false, eval a X.env) :: starEach [b] X.env) (hpl : (backTo pos (starEach [b] X.env)).any (·.1) = false) :
    PI X (.Tuple elts kk tpos) (.Call (.Name "zip" p) [a, b] [] pos) (iZip K t) := by subst h; exact pi_zip hg hm ha hs hpl
theorem pi_zipU {elts : List Expr} {kk : Nat} {tpos : Pos} (hg : Glu M "zip") (hm : Mgu M "zip") (ha : PAu M [a, b] t) (hs : NoStaru M a) (hs2 : NoStaru M b) :
    PIu M (.Tuple elts kk tpos) (.Call (.Name "zip" p) [a, b] [] pos) (iZip K t) := fun X h => pi_zipK (M.k X h) (hg X h) (hm X h) (ha X h) (hs X h [b]) (by rw [hs2 X h []]; rfl)
theorem pi_orU {it : Expr} {w1 w2 : TI} (h1 : PIu M tg it w1) (h2 : PIu M tg it w2) : PIu M tg it (fun σ H R => w1 σ H R ∨ w2 σ H R) := fun X h => by
  refine ⟨fun pins s σ H R I q => ?_⟩
  rcases q with q | q
  · exact (h1 X h).run pins s σ H R I q
  · exact (h2 X h).run pins s σ H R I q
theorem pgs_nilU : PGsu M [] gNil := fun X h => pgs_nil
theorem pg_orU {t u : TG} (h1 : PGu M tg t) (h2 : PGu M tg u) : PGu M tg (fun v σ H Q => t v σ H Q ∨ u v σ H Q) := fun X h => by
  refine ⟨fun pins s σ H v u' Q I r q => ?_⟩
  rcases q with q | q
  · exact (h1 X h).run pins s σ H v u' Q I r q
  · exact (h2 X h).run pins s σ H v u' Q I r q
theorem pg_tupK {X : Cx} {k n : Nat} {t : TGs} (h : X.K = K) (hc : X.calm = true) (hp : PGs X es t) (hn : (assignEach es X.env).length = n) (hst : (assignEach es X.env).findIdx? (·.1) = none) : PG X (.Tuple es k pos) (gTup K n t) := by subst h; exact pg_tup hc hp hn hst
theorem pg_lstK {X : Cx} {k n : Nat} {t : TGs} (h : X.K = K) (hc : X.calm = true) (hp : PGs X es t) (hn : (assignEach es X.env).length = n) (hst : (assignEach es X.env).findIdx? (·.1) = none) : PG X (.Tuple es k pos) (gLst K n t) := by subst h; exact pg_lst hc hp hn hst
end
end VI
namespace VI
open PySem PySem.Spec PyProof.Rows L2

/-! ### an expression and its small form -/
structure Snd {K : PySem.W.Frag} (M : Fam K) (G : GE) (e : Expr) (ie : IE) : Prop where
  pe : ∃ t, PEu M e t ∧ Sat K (evE G ie) (mutd ie) t
  vr : ∀ i, ie = .var i → PEu M e (tVar i)
def SndT {K : PySem.W.Frag} (M : Fam K) (G : GE) (e : Expr) (ie : IE) : Prop := ∃ t, PTu M e t ∧ SatT K (evE G ie) (mutd ie) t

section
variable {K : PySem.W.Frag} {M : Fam K} {G : GE} {H H' H1 H2 : Hp} {F O O' : Addr → Prop} {fr fr1 fr2 : Fr} {σ : L2.St} {fp fp1 fp2 : FP}
theorem Sat.congr {ev ev' : Ev} {D D' : List Nat} {t : TE} (h : Sat K ev D t) (e : ev' = ev) (d : D' = D) : Sat K ev' D' t := by subst e d; exact h
theorem SatT.congr {ev ev' : Ev} {D D' : List Nat} {t : TT} (h : SatT K ev D t) (e : ev' = ev) (d : D' = D) : SatT K ev' D' t := by subst e d; exact h
theorem evL_two (a b : IE) : evL G (.cons a (.cons b .nil)) = ev2 (evE G a) (evE G b) (mutdL (.cons b .nil)) := by
  funext fr
  unfold ev2
  rw [evL]
  cases evE G a fr with
  | none => rfl
  | some p =>
    obtain ⟨fr1, o⟩ := p
    simp only [Option.bind_some]
    split
    · rw [evL]
      cases evE G b fr1 with
      | none => rfl
      | some p =>
        obtain ⟨fr2, o2⟩ := p
        simp only [Option.bind_some]
        have : disj o2.al (mutdL .nil) = true := by
          rw [mutdL]
          unfold disj
          exact List.all_eq_true.mpr fun x _ => by simp
        rw [if_pos this, evL]
        rfl
    · rfl
theorem evL_one (a : IE) : evL G (.cons a .nil) = fun fr => (evE G a fr).bind fun (fr1, o) => some (fr1, [o]) := by
  funext fr
  rw [evL]
  cases evE G a fr with
  | none => rfl
  | some p =>
    obtain ⟨fr1, o⟩ := p
    simp only [Option.bind_some]
    have : disj o.al (mutdL .nil) = true := by
      rw [mutdL]
      unfold disj
      exact List.all_eq_true.mpr fun x _ => by simp
    rw [if_pos this, evL]
    rfl
theorem mutdL_one (a : IE) : mutdL (.cons a .nil) = mutd a := by rw [mutdL, mutdL, List.append_nil]
theorem mutdL_two (a b : IE) : mutdL (.cons a (.cons b .nil)) = mutd a ++ mutd b := by rw [mutdL, mutdL_one]

/-! ### constants, names -/
theorem FR.plusNil (h : FR K H F fr σ fp) : FR K H (plus F []) fr σ fp := h.monoF fun a z => z.elim id fun z => nomatch z
theorem sat_cst {v : PV} {x : V} (h : ∀ H O, R K H O v x) : Sat K (fun fr => some (fr, ⟨v, 0, [], false⟩)) [] (tC x) := by
  intro fr σ H F fp fr' o g e Q q
  cases e
  refine q x H fp [] ⟨g.plusNil, fun _ _ => ⟨rfl, rfl⟩, .refl _ _ _, (fun _ z => nomatch z), ?_, .nil, (fun _ z => nomatch z), (fun z => nomatch z)⟩
  rw [RM.zero]
  exact ⟨rfl, h _ _⟩
theorem snd_cst {v : PV} {x : V} {e : Expr} (h : ∀ H O, R K H O v x) (pe : PEu M e (tC x)) : Snd M G e (.cst v) :=
  ⟨⟨_, pe, (sat_cst h).congr (by funext fr; rw [evE]) (by rw [mutd])⟩, fun _ z => nomatch z⟩
theorem isL_lst {v : PV} (h : isL v = true) : ∃ vs, v = .lst vs := by cases v <;> simp [isL] at h; exact ⟨_, rfl⟩
theorem FR.owDisj (h : FR K H F fr σ fp) {i : Nat} {a : Addr} (ha : a ∈ fp i) : ¬ OwA F fp [i] a := fun z => by
  rcases z with z | ⟨j, hj, n⟩
  · exact (h.amb a z).2 i ha
  · exact n (by rw [h.disj j i a hj ha]; exact List.mem_singleton.mpr rfl)
/-- a slot as an operand -/
theorem FR.varOd (g : FR K H F fr σ fp) {i : Nat} {s : Sl} (e : fr[i]? = some (some s)) : ∃ x, σ[i]? = some (some x) ∧ OR K H F fp (varOd i s) x [] := by
  obtain ⟨x, ex, r⟩ := g.slot i s e
  refine ⟨x, ex, ?_⟩
  have pn : ∀ a, OwA (fun a => F a ∨ a ∈ ([] : List Addr)) fp [i] a → Ow F fp a := fun a z => by
    rcases z with (z | z) | ⟨j, z, _⟩
    · exact .inl z
    · cases z
    · exact .inr ⟨j, z⟩
  unfold VI.varOd
  by_cases m0 : s.m = 0
  · rw [if_pos m0]
    rw [m0, RM.zero] at r
    refine ⟨?_, .nil, fun _ z => (nomatch z), fun z => nomatch z⟩
    rw [RM.zero]
    refine ⟨rfl, r.2.mono fun a z => ?_⟩
    rcases z with (z | z) | ⟨j, z, _⟩
    · exact .inl z
    · cases z
    · exact .inr ⟨j, z⟩
  · rw [if_neg m0]
    refine ⟨?_, .nil, fun _ z => (nomatch z), fun t => ?_⟩
    · rw [RM.zero]
      refine ⟨rfl, RM.drop pn _ _ _ _ (fun b hb z => g.owDisj hb ?_) r⟩
      rcases z with (z | z) | z
      · exact .inl z
      · cases z
      · exact .inr z
    · have t : (decide (s.m = 1) && isL s.v) = true := t
      rw [Bool.and_eq_true, decide_eq_true_eq] at t
      obtain ⟨m1, hl⟩ := t
      obtain ⟨vs, ev⟩ := isL_lst hl
      rw [m1, ev] at r
      show RT K H (Ow F fp) s.v x
      rw [ev]
      obtain ⟨a, ys, fs, e1, e2, e3, r⟩ := r
      exact ⟨a, ys, e1, e2, (RMs.to0 r).2⟩
theorem sat_var {i : Nat} : Sat K (evE G (.var i)) [] (tVar i) := by
  intro fr σ H F fp fr' o g e Q q
  rw [evE] at e
  split at e <;> cases e
  rename_i s es
  obtain ⟨x, ex, r⟩ := g.varOd es
  exact ⟨x, ex, q x H fp [] ⟨g.plusNil, fun _ _ => ⟨rfl, rfl⟩, .refl _ _ _, (fun _ z => nomatch z), r⟩⟩
theorem snd_var {e : Expr} {i : Nat} (pe : PEu M e (tVar i)) : Snd M G e (.var i) :=
  ⟨⟨_, pe, sat_var.congr rfl (by rw [mutd])⟩, fun j z => by cases z; exact pe⟩

/-! ### operators -/
theorem snd_op2 {p : Prim} {r : R2} {a b e : Expr} {ia ib : IE} (ha : Snd M G a ia) (hb : Snd M G b ib) (hp : PSat K p fun xs H Q => ∃ x y, xs = [x, y] ∧ r x y H Q)
    (pe : ∀ ta tb, PEu M a ta → PEu M b tb → PEu M e (tOp r ta tb)) : Snd M G e (.prim p (.cons ia (.cons ib .nil))) := by
  obtain ⟨ta, pa, sa⟩ := ha.pe
  obtain ⟨tb, pb, sb⟩ := hb.pe
  refine ⟨⟨_, pe _ _ pa pb, (sa.op2 sb hp).congr ?_ (by rw [mutd, mutdL_two])⟩, fun _ z => nomatch z⟩
  funext fr
  rw [evE, evL_two, mutdL_one]
theorem snd_op1 {p : Prim} {r : V → Hp → VK → Prop} {a e : Expr} {ia : IE} (ha : Snd M G a ia) (hp : PSat K p fun xs H Q => ∃ x, xs = [x] ∧ r x H Q)
    (pe : ∀ ta, PEu M a ta → PEu M e (tUn r ta)) : Snd M G e (.prim p (.cons ia .nil)) := by
  obtain ⟨ta, pa, sa⟩ := ha.pe
  refine ⟨⟨_, pe _ pa, (sa.op1 hp).congr ?_ (by rw [mutd, mutdL_one])⟩, fun _ z => nomatch z⟩
  funext fr
  rw [evE, evL_one]
/-- a test, from the expression's value -/
theorem Sat.test {ev : Ev} {D : List Nat} {t : TE} (h : Sat K ev D t) : SatT K ev D (tB t) := by
  intro fr σ H F fp fr' o k g e ek Q q
  refine h fr σ H F fp fr' o g e _ fun x H' fp' fo ex => ?_
  have r := ex.od.r
  rw [ek] at r
  have : x = .bl k := r
  subst this
  exact ⟨k, rfl, q H' fp' fo ex⟩
theorem Sat.testC {ev : Ev} {D : List Nat} {t : TE} (h : Sat K ev D t) : SatT K ev D (tTest t) := h.test
theorem sndT_val {e : Expr} {ie : IE} (h : Snd M G e ie) (he : ∀ X, M.C X → ∀ whole, isTrue e X.env whole = (do let v ← whole; standAt e.pos; holding [v] (truthy v))) : SndT M G e ie := by
  obtain ⟨t, pe, s⟩ := h.pe
  exact ⟨_, fun X h => pt_val (pe X h) (he X h), s.test⟩
/-- a comparison -/
theorem snd_cmp {p : Prim} {r : R2} {op : CmpOp} {a b : Expr} {ia ib : IE} {pos : Pos} (ha : Snd M G a ia) (hb : Snd M G b ib) (hp : PSat K p fun xs H Q => ∃ x y, xs = [x, y] ∧ r x y H Q)
    (ho : OpRu M (compareOp op) r) (hm : behindInMarks op b = false) : Snd M G (.Compare a [op] [b] pos) (.prim p (.cons ia (.cons ib .nil))) ∧ SndT M G (.Compare a [op] [b] pos) (.prim p (.cons ia (.cons ib .nil))) := by
  refine ⟨snd_op2 ha hb hp fun ta tb pa pb => pe_cmpU ho pa pb hm, ?_⟩
  obtain ⟨ta, pa, sa⟩ := ha.pe
  obtain ⟨tb, pb, sb⟩ := hb.pe
  refine ⟨_, pt_cmpU ho pa pb hm, ((sa.op2 sb hp).congr ?_ (by rw [mutd, mutdL_two])).testC⟩
  funext fr
  rw [evE, evL_two, mutdL_one]
theorem sat_isNone : PSat K .isNone fun xs H Q => ∃ x, xs = [x] ∧ Q (.bl (decide (x = .non))) H := by
  refine PSat.of1 (r := fun x H Q => Q (.bl (decide (x = .non))) H) (f := fun a => some (.bl (isNon a))) (arg1 fun ws => by rcases ws with _ | ⟨a, _ | ⟨b, d⟩⟩ <;> rfl) (.inl rfl) fun H O O' a x v ra _ e hT Q hQ => ?_
  cases e
  rw [R.non_iff ra]
  exact hQ.bl
theorem sat_notNone : PSat K .notNone fun xs H Q => ∃ x, xs = [x] ∧ Q (.bl (!decide (x = .non))) H := by
  refine PSat.of1 (r := fun x H Q => Q (.bl (!decide (x = .non))) H) (f := fun a => some (.bl (!isNon a))) (arg1 fun ws => by rcases ws with _ | ⟨a, _ | ⟨b, d⟩⟩ <;> rfl) (.inl rfl) fun H O O' a x v ra _ e hT Q hQ => ?_
  cases e
  rw [R.non_iff ra]
  exact hQ.bl
theorem snd_isN {a : Expr} {ia : IE} {pos pos' : Pos} {j : Nat} (ha : Snd M G a ia) : Snd M G (.Compare a [.Is] [.Constant .none j pos'] pos) (.prim .isNone (.cons ia .nil)) ∧ SndT M G (.Compare a [.Is] [.Constant .none j pos'] pos) (.prim .isNone (.cons ia .nil)) := by
  have hs : Snd M G (.Compare a [.Is] [.Constant .none j pos'] pos) (.prim .isNone (.cons ia .nil)) := snd_op1 (r := fun x H Q => Q (.bl (decide (x = .non))) H) ha sat_isNone fun ta pa => pe_isNU pa
  refine ⟨hs, ?_⟩
  obtain ⟨ta, pa, sa⟩ := ha.pe
  refine ⟨tB (tIsN ta), pt_isNU pa, ((sa.op1 (r := fun x H Q => Q (.bl (decide (x = .non))) H) sat_isNone).congr ?_ (by rw [mutd, mutdL_one])).test⟩
  funext fr
  rw [evE, evL_one]
theorem snd_notN {a : Expr} {ia : IE} {pos pos' : Pos} {j : Nat} (ha : Snd M G a ia) : Snd M G (.Compare a [.IsNot] [.Constant .none j pos'] pos) (.prim .notNone (.cons ia .nil)) ∧ SndT M G (.Compare a [.IsNot] [.Constant .none j pos'] pos) (.prim .notNone (.cons ia .nil)) := by
  have hs : Snd M G (.Compare a [.IsNot] [.Constant .none j pos'] pos) (.prim .notNone (.cons ia .nil)) := snd_op1 (r := fun x H Q => Q (.bl (!decide (x = .non))) H) ha sat_notNone fun ta pa => pe_notNU pa
  refine ⟨hs, ?_⟩
  obtain ⟨ta, pa, sa⟩ := ha.pe
  refine ⟨tB (tNotN ta), pt_notNU pa, ((sa.op1 (r := fun x H Q => Q (.bl (!decide (x = .non))) H) sat_notNone).congr ?_ (by rw [mutd, mutdL_one])).test⟩
  funext fr
  rw [evE, evL_one]

/-! ### and, or, not, if -/
theorem Ex.weak {D D' : List Nat} {fo : List Addr} {o : Od} {x : V} (h : Ex K H F σ fr fp D H1 fr1 fp1 fo o x) (hD : ∀ i ∈ D, i ∈ D') : Ex K H F σ fr fp D' H1 fr1 fp1 fo o x :=
  ⟨h.hf, fun i hi => h.keep i fun z => hi (hD i z), h.st.mono hD, h.nw, h.od⟩
/-- one evaluation, then another from where it leaves; the first value is dropped -/
theorem Ex.then {D D' : List Nat} {fo f2 : List Addr} {o o2 : Od} {x y : V} (h : Ex K H F σ fr fp D H1 fr1 fp1 fo o x) (q : Ex K H1 F σ fr1 fp1 D' H2 fr2 fp2 f2 o2 y) : Ex K H F σ fr fp (D ++ D') H2 fr2 fp2 f2 o2 y where
  hf := q.hf
  keep := fun i hi => by
    have h1 := h.keep i fun z => hi (List.mem_append_left _ z)
    have h2 := q.keep i fun z => hi (List.mem_append_right _ z)
    exact ⟨h2.1.trans h1.1, h2.2.trans h1.2⟩
  st := (h.st.mono fun i z => List.mem_append_left _ z).trans (q.st.mono fun i z => List.mem_append_right _ z)
  nw := fun b hb => h.st.old (q.nw b hb)
  od := q.od
theorem Ex.hf0 {D : List Nat} {fo : List Addr} {o : Od} {x : V} (h : Ex K H F σ fr fp D H1 fr1 fp1 fo o x) : FR K H1 F fr1 σ fp1 := h.hf.monoF fun a z => .inl z
/-- a truth value alone -/
theorem Ex.bool {D : List Nat} {fo : List Addr} {o : Od} {x : V} (h : Ex K H F σ fr fp D H1 fr1 fp1 fo o x) (k : Bool) : Ex K H F σ fr fp D H1 fr1 fp1 [] ⟨.bl k, 0, [], false⟩ (.bl k) where
  hf := h.hf0.plusNil
  keep := h.keep
  st := h.st
  nw := fun _ z => nomatch z
  od := ⟨by rw [RM.zero]; exact ⟨rfl, rfl⟩, .nil, (fun _ z => nomatch z), (fun z => nomatch z)⟩
theorem boolOf {o : Od} {x : V} {fo : List Addr} {k : Bool} (h : OR K H F fp o x fo) (e : o.v = .bl k) : x = .bl k := by
  have r := h.r
  rw [e] at r
  exact r

theorem snd_not {a : Expr} {ia : IE} {pos : Pos} (ha : Snd M G a ia) (hb : SndT M G a ia) : Snd M G (.UnaryOp .Not a pos) (.not ia) ∧ SndT M G (.UnaryOp .Not a pos) (.not ia) := by
  obtain ⟨ta, pa, sa⟩ := ha.pe
  obtain ⟨tt, pt, st⟩ := hb
  refine ⟨⟨⟨_, pe_notU pa, fun fr σ H F fp fr' o g e Q q => ?_⟩, fun _ z => nomatch z⟩, ⟨_, pt_notU pt, fun fr σ H F fp fr' o k g e ek Q q => ?_⟩⟩
  · rw [evE] at e
    cases e2 : evE G ia fr with
    | none => rw [e2] at e; cases e
    | some p =>
      obtain ⟨fr1, o1⟩ := p
      rw [e2] at e
      simp only [Option.bind_some] at e
      split at e <;> cases e
      rename_i k ek
      refine sa fr σ H F fp _ _ g e2 _ fun x H1 fp1 fo ex => ?_
      exact ⟨k, boolOf ex.od ek, q _ H1 fp1 [] ((ex.bool _).weak (by rw [mutd]; exact fun i z => z))⟩
  · rw [evE] at e
    cases e2 : evE G ia fr with
    | none => rw [e2] at e; cases e
    | some p =>
      obtain ⟨fr1, o1⟩ := p
      rw [e2] at e
      simp only [Option.bind_some] at e
      split at e <;> cases e
      rename_i k' ek'
      cases ek
      refine st fr σ H F fp _ _ k' g e2 ek' _ fun H1 fp1 fo ex => ?_
      exact q H1 fp1 [] ((ex.bool _).weak (by rw [mutd]; exact fun i z => z))
/-- and, or: of the rest b, its value's form is asked -/
structure SndB {K : PySem.W.Frag} (M : Fam K) (G : GE) (op : BoolOp) (es : List Expr) (ie : IE) : Prop where
  pe : ∀ pos, ∃ t, PEu M (.BoolOp op es pos) t ∧ Sat K (evE G ie) (mutd ie) t
  pw : ∀ pos, ∃ t, PWu M (.BoolOp op es pos) t ∧ SatT K (evE G ie) (mutd ie) t
theorem sndB_one {op : BoolOp} {a : Expr} {ia : IE} (ha : Snd M G a ia) (hb : SndT M G a ia) : SndB M G op [a] ia := by
  obtain ⟨ta, pa, sa⟩ := ha.pe
  obtain ⟨tt, pt, st⟩ := hb
  refine ⟨fun pos => ⟨_, pe_oneU pa, sa⟩, fun pos => ⟨tt, ?_, st⟩⟩
  cases op
  · exact pw_and1U pt
  · exact pw_or1U pt
theorem sndB_and {a b : Expr} {es : List Expr} {ia ib : IE} (ha : Snd M G a ia) (hat : SndT M G a ia) (hb : SndB M G .And (b :: es) ib) : SndB M G .And (a :: b :: es) (.and ia ib) := by
  obtain ⟨ta, pa, sa⟩ := ha.pe
  obtain ⟨tt, pt, st⟩ := hat
  refine ⟨fun pos => ?_, fun pos => ?_⟩
  · obtain ⟨tb, pb, sb⟩ := hb.pe pos
    refine ⟨_, pe_andU pa pb, fun fr σ H F fp fr' o g e Q q => ?_⟩
    rw [evE] at e
    cases e2 : evE G ia fr with
    | none => rw [e2] at e; cases e
    | some p =>
      obtain ⟨fr1, o1⟩ := p
      rw [e2] at e
      simp only [Option.bind_some] at e
      refine sa fr σ H F fp _ _ g e2 _ fun x H1 fp1 fo ex => ?_
      split at e
      · rename_i ek
        refine ⟨true, boolOf ex.od ek, ?_⟩
        rw [if_pos rfl]
        refine sb fr1 σ H1 F fp1 _ _ ex.hf0 e _ fun y H2 fp2 f2 ey => ?_
        exact q y H2 fp2 f2 ((ex.then ey).weak (by rw [mutd]; exact fun i z => z))
      · rename_i ek
        cases e
        refine ⟨false, boolOf ex.od ek, ?_⟩
        rw [if_neg Bool.false_ne_true]
        exact q _ H1 fp1 [] ((ex.bool false).weak (by rw [mutd]; exact fun i z => List.mem_append_left _ z))
      · cases e
  · obtain ⟨tb, pb, sb⟩ := hb.pw pos
    refine ⟨_, pw_andU pt pb, fun fr σ H F fp fr' o k g e ek Q q => ?_⟩
    rw [evE] at e
    cases e2 : evE G ia fr with
    | none => rw [e2] at e; cases e
    | some p =>
      obtain ⟨fr1, o1⟩ := p
      rw [e2] at e
      simp only [Option.bind_some] at e
      split at e
      · rename_i ek1
        refine st fr σ H F fp _ _ true g e2 ek1 _ fun H1 fp1 fo ex => ?_
        rw [if_pos rfl]
        refine sb fr1 σ H1 F fp1 _ _ k ex.hf0 e ek _ fun H2 fp2 f2 ey => ?_
        exact q H2 fp2 f2 ((ex.then ey).weak (by rw [mutd]; exact fun i z => z))
      · rename_i ek1
        cases e
        cases ek
        refine st fr σ H F fp _ _ false g e2 ek1 _ fun H1 fp1 fo ex => ?_
        rw [if_neg Bool.false_ne_true]
        exact q H1 fp1 [] ((ex.bool false).weak (by rw [mutd]; exact fun i z => List.mem_append_left _ z))
      · cases e
theorem sndB_or {a b : Expr} {es : List Expr} {ia ib : IE} (ha : Snd M G a ia) (hat : SndT M G a ia) (hb : SndB M G .Or (b :: es) ib) : SndB M G .Or (a :: b :: es) (.or ia ib) := by
  obtain ⟨ta, pa, sa⟩ := ha.pe
  obtain ⟨tt, pt, st⟩ := hat
  refine ⟨fun pos => ?_, fun pos => ?_⟩
  · obtain ⟨tb, pb, sb⟩ := hb.pe pos
    refine ⟨_, pe_orU pa pb, fun fr σ H F fp fr' o g e Q q => ?_⟩
    rw [evE] at e
    cases e2 : evE G ia fr with
    | none => rw [e2] at e; cases e
    | some p =>
      obtain ⟨fr1, o1⟩ := p
      rw [e2] at e
      simp only [Option.bind_some] at e
      refine sa fr σ H F fp _ _ g e2 _ fun x H1 fp1 fo ex => ?_
      split at e
      · rename_i ek
        refine ⟨false, boolOf ex.od ek, ?_⟩
        rw [if_neg Bool.false_ne_true]
        refine sb fr1 σ H1 F fp1 _ _ ex.hf0 e _ fun y H2 fp2 f2 ey => ?_
        exact q y H2 fp2 f2 ((ex.then ey).weak (by rw [mutd]; exact fun i z => z))
      · rename_i ek
        cases e
        refine ⟨true, boolOf ex.od ek, ?_⟩
        rw [if_pos rfl]
        exact q _ H1 fp1 [] ((ex.bool true).weak (by rw [mutd]; exact fun i z => List.mem_append_left _ z))
      · cases e
  · obtain ⟨tb, pb, sb⟩ := hb.pw pos
    refine ⟨_, pw_orU pt pb, fun fr σ H F fp fr' o k g e ek Q q => ?_⟩
    rw [evE] at e
    cases e2 : evE G ia fr with
    | none => rw [e2] at e; cases e
    | some p =>
      obtain ⟨fr1, o1⟩ := p
      rw [e2] at e
      simp only [Option.bind_some] at e
      split at e
      · rename_i ek1
        refine st fr σ H F fp _ _ false g e2 ek1 _ fun H1 fp1 fo ex => ?_
        rw [if_neg Bool.false_ne_true]
        refine sb fr1 σ H1 F fp1 _ _ k ex.hf0 e ek _ fun H2 fp2 f2 ey => ?_
        exact q H2 fp2 f2 ((ex.then ey).weak (by rw [mutd]; exact fun i z => z))
      · rename_i ek1
        cases e
        cases ek
        refine st fr σ H F fp _ _ true g e2 ek1 _ fun H1 fp1 fo ex => ?_
        rw [if_pos rfl]
        exact q H1 fp1 [] ((ex.bool true).weak (by rw [mutd]; exact fun i z => List.mem_append_left _ z))
      · cases e
theorem SndB.snd {op : BoolOp} {es : List Expr} {ie : IE} {pos : Pos} (h : SndB M G op es ie) (nv : ∀ i, ie ≠ .var i) : Snd M G (.BoolOp op es pos) ie := ⟨h.pe pos, fun i z => absurd z (nv i)⟩
theorem SndB.sndT {op : BoolOp} {es : List Expr} {ie : IE} {pos : Pos} (h : SndB M G op es ie) : SndT M G (.BoolOp op es pos) ie := by
  obtain ⟨t, pw, s⟩ := h.pw pos
  exact ⟨t, pw_ptU pw, s⟩
theorem snd_ife {c a b : Expr} {ic ia ib : IE} {pos : Pos} (hc : SndT M G c ic) (ha : Snd M G a ia) (hb : Snd M G b ib) : Snd M G (.IfExp c a b pos) (.ife ic ia ib) := by
  obtain ⟨tt, pt, st⟩ := hc
  obtain ⟨ta, pa, sa⟩ := ha.pe
  obtain ⟨tb, pb, sb⟩ := hb.pe
  refine ⟨⟨_, pe_ifExpU pt pa pb, fun fr σ H F fp fr' o g e Q q => ?_⟩, fun _ z => nomatch z⟩
  rw [evE] at e
  cases e2 : evE G ic fr with
  | none => rw [e2] at e; cases e
  | some p =>
    obtain ⟨fr1, o1⟩ := p
    rw [e2] at e
    simp only [Option.bind_some] at e
    split at e
    · rename_i ek1
      refine st fr σ H F fp _ _ true g e2 ek1 _ fun H1 fp1 fo ex => ?_
      rw [if_pos rfl]
      refine sa fr1 σ H1 F fp1 _ _ ex.hf0 e _ fun y H2 fp2 f2 ey => ?_
      exact q y H2 fp2 f2 ((ex.then ey).weak (by rw [mutd]; exact fun i z => (List.mem_append.mp z).elim (fun z => List.mem_append_left _ z) fun z => List.mem_append_right _ (List.mem_append_left _ z)))
    · rename_i ek1
      refine st fr σ H F fp _ _ false g e2 ek1 _ fun H1 fp1 fo ex => ?_
      rw [if_neg Bool.false_ne_true]
      refine sb fr1 σ H1 F fp1 _ _ ex.hf0 e _ fun y H2 fp2 f2 ey => ?_
      exact q y H2 fp2 f2 ((ex.then ey).weak (by rw [mutd]; exact fun i z => (List.mem_append.mp z).elim (fun z => List.mem_append_left _ z) fun z => List.mem_append_right _ (List.mem_append_right _ z)))
    · cases e
/-- a value's truth, as a test -/
theorem pt_tru {X : Cx} (hk : X.K = K) {e : Expr} {te : TE} (ha : PE X e te) (he : ∀ whole, isTrue e X.env whole = (do let v ← whole; standAt e.pos; holding [v] (truthy v))) :
    PT X e (tB (tUn (fun x H Q => ∃ k, TruV K x H k ∧ Q (.bl k) H) te)) := by
  subst hk
  refine ⟨fun pins s σ H Q I h => ?_⟩
  refine isTrue_plain (thn (ha.run pins s σ H _ I h) fun v s1 ⟨x, H1, I1, r1, q1⟩ => ?_) (he _)
  obtain ⟨k, tk, b, eb, q⟩ := q1
  cases eb
  exact tru_ok pins s1 σ H1 x v Q I1 r1 ⟨k, tk, q⟩
theorem sndT_tru {e : Expr} {ie : IE} (h : Snd M G e ie) (he : ∀ X, M.C X → ∀ whole, isTrue e X.env whole = (do let v ← whole; standAt e.pos; holding [v] (truthy v))) : SndT M G e (.prim .tru (.cons ie .nil)) := by
  obtain ⟨te, pe, s⟩ := h.pe
  have st := (Sat.op1 s (sat_tru (K := K))).test
  refine ⟨_, fun X hX => pt_tru (M.k X hX) (pe X hX) (he X hX), ?_⟩
  refine st.congr ?_ ?_
  · funext fr
    rw [evE, evL_one]
  · rw [mutd, mutdL_one]
theorem sndT_not {a : Expr} {ia : IE} {pos : Pos} (hb : SndT M G a ia) : SndT M G (.UnaryOp .Not a pos) (.not ia) := by
  obtain ⟨tt, pt, st⟩ := hb
  refine ⟨_, pt_notU pt, fun fr σ H F fp fr' o k g e ek Q q => ?_⟩
  rw [evE] at e
  cases e2 : evE G ia fr with
  | none => rw [e2] at e; cases e
  | some p =>
    obtain ⟨fr1, o1⟩ := p
    rw [e2] at e
    simp only [Option.bind_some] at e
    split at e <;> cases e
    rename_i k' ek'
    cases ek
    refine st fr σ H F fp _ _ k' g e2 ek' _ fun H1 fp1 fo ex => ?_
    exact q H1 fp1 [] ((ex.bool _).weak (by rw [mutd]; exact fun i z => z))
end
end VI
namespace VI
open PySem PySem.Spec PyProof.Rows L2

section
variable {K : PySem.W.Frag} {M : Fam K} {G : GE} {H H' H1 H2 : Hp} {F O O' : Addr → Prop} {fr fr1 fr2 : Fr} {σ : L2.St} {fp fp1 fp2 : FP}
theorem OR.ext {o : Od} {x : V} {fo : List Addr} (h : OR K H1 F fp o x fo) (e : Ext H1 H2) : OR K H2 F fp o x fo where
  rep := RM.step (fun b u q _ => e b u q) (fun a z => .inl z) _ _ _ _ (fun b _ u q => e b u q) h.rep
  nd := h.nd
  ap := h.ap
  tp := fun t => RT.step (O1 := OwA F fp o.al) (fun b u q _ => e b u q) (fun a z => .inl z) (fun b u q _ => e b u q) h.r (h.tp t)
theorem StepD.ext {D : List Nat} (e : Ext H H') : StepD D H fp H' fp := ⟨fun b o q _ => e b o q, fun _ _ z => .inl z, fun b o q => ⟨o, e b o q⟩⟩
/-- a comparison's answer is a truth value -/
def Cmpr (p : Prim) : Prop := primK p = .flat ∧ primNew p = false
theorem cmpr_m {p : Prim} (h : Cmpr p) (v : PV) : primM p v = 0 := by unfold primM; rw [h.2]; rfl

theorem snd_chain {p q : Prim} {r r' : R2} {op op' : CmpOp} {a b c : Expr} {ia ib ic : IE} {pos : Pos} (ha : Snd M G a ia) (hb : Snd M G b ib) (hc : Snd M G c ic) (hp : PSat K p fun xs H Q => ∃ x y, xs = [x, y] ∧ r x y H Q) (hq : PSat K q fun xs H Q => ∃ x y, xs = [x, y] ∧ r' x y H Q)
    (cp : Cmpr p) (cq : Cmpr q) (ho : OpRu M (compareOp op) r) (ho' : OpRu M (compareOp op') r') (hm : lastMarks [op, op'] [b, c] = false) :
    Snd M G (.Compare a [op, op'] [b, c] pos) (.chain p q ia ib ic) ∧ SndT M G (.Compare a [op, op'] [b, c] pos) (.chain p q ia ib ic) := by
  obtain ⟨ta, pa, sa⟩ := ha.pe
  obtain ⟨tb, pb, sb⟩ := hb.pe
  obtain ⟨tc, pc, sc⟩ := hc.pe
  have key : Sat K (evE G (.chain p q ia ib ic)) (mutd (.chain p q ia ib ic)) (tChain r r' ta tb tc) := by
    intro fr σ H F fp fr' o g e Q qq
    rw [evE] at e
    cases ea : evE G ia fr with
    | none => rw [ea] at e; cases e
    | some pr =>
    obtain ⟨fr1, oa⟩ := pr
    rw [ea] at e
    simp only [Option.bind_some] at e
    split at e
    rotate_left
    · cases e
    rename_i dj
    cases eb : evE G ib fr1 with
    | none => rw [eb] at e; cases e
    | some pr =>
    obtain ⟨fr2, ob⟩ := pr
    rw [eb] at e
    simp only [Option.bind_some] at e
    cases ep : primF p [oa.v, ob.v] with
    | none => rw [ep] at e; cases e
    | some v =>
    rw [ep] at e
    simp only [Option.bind_some] at e
    have e2 : ev2 (evE G ia) (evE G ib) (mutd ib) fr = some (fr2, [oa, ob]) := by
      unfold ev2
      rw [ea]
      simp only [Option.bind_some]
      rw [if_pos dj, eb]
      rfl
    refine two sa sb g e2 fun x y H2 fp2 fo ex => ?_
    obtain ⟨x', xs', f1, f2', exx, ef, orx, ⟨y', ys', f2, f3, eyy, ef2, ory, ⟨e3, e4⟩, _⟩, dd⟩ := ex.od
    subst e3 e4
    rw [List.append_nil] at ef2
    subst ef2
    cases eyy
    cases exx
    have g2 : FR K H2 (plus F f2') fr2 σ fp2 := ex.hf.monoF fun a z => z.elim .inl fun z => .inr (by rw [ef]; exact List.mem_append_right _ z)
    have hT : ∀ a, Ow F fp2 a → ∃ o, H2 a = some o := fun a z => (g2.monoF fun a z => .inl z).owTracked z
    -- the first answer
    have first : ∀ Q' : VK, (∀ k H3, v = .bl k → Ext H2 H3 → Q' (.bl k) H3) → (∃ k, v = .bl k) → r x y H2 Q' := by
      intro Q' h' ⟨k, ek⟩
      subst ek
      obtain ⟨x2, y2, exy, h⟩ := hp H2 (OwA F fp2 (elal oa ++ elal ob)) (Ow F fp2) [oa.v, ob.v] [x, y] (.bl k) (by
          rw [cp.1]
          exact ⟨x, [y], rfl, orx.rt.mono fun a z => OwA.mono (fun i hi => List.mem_append_left _ hi) z, y, [], rfl, ory.rt.mono fun a z => OwA.mono (fun i hi => List.mem_append_right _ hi) z, rfl⟩)
        (by rw [cp.1]; trivial) ep hT Q' (by
          rw [cmpr_m cp]
          intro x' H' ext hr
          rw [show x' = .bl k from hr]
          exact h' k H' rfl ext)
      cases exy
      exact h
    split at e
    · rename_i ek
      split at e
      rotate_left
      · cases e
      rename_i dj2
      cases ec : evE G ic fr2 with
      | none => rw [ec] at e; cases e
      | some pr =>
      obtain ⟨fr3, oc⟩ := pr
      rw [ec] at e
      simp only [Option.bind_some] at e
      cases eq2 : primF q [ob.v, oc.v] with
      | none => rw [eq2] at e; cases e
      | some v2 =>
      rw [eq2] at e
      simp only [Option.bind_some] at e
      split at e <;> cases e
      rename_i k
      refine first _ (fun k' H3 ek' ext => ?_) ⟨_, rfl⟩
      cases ek'
      refine ⟨true, rfl, ?_⟩
      rw [if_pos rfl]
      have g3 : FR K H3 (plus F f2') fr2 σ fp2 := g2.same ext
      refine sc fr2 σ H3 (plus F f2') fp2 _ _ g3 ec _ fun w H4 fp4 f4 ez => ?_
      have ob4 : OR K H4 F fp4 ob y f2' := (ory.ext ext).later g3 (fun i hi => (ez.keep i hi).2) ez.st dj2
      have g4 : FR K H4 F _ σ fp4 := ez.hf.monoF fun a z => .inl (.inl z)
      obtain ⟨y2, w2, exy, h⟩ := hq H4 (OwA F fp4 (elal ob ++ elal oc)) (Ow F fp4) [ob.v, oc.v] [y, w] (.bl k) (by
          rw [cq.1]
          exact ⟨y, [w], rfl, ob4.rt.mono fun a z => OwA.mono (fun i hi => List.mem_append_left _ hi) z, w, [], rfl, (ez.od.monoF (F' := F) fun a z => .inl z).rt.mono fun a z => OwA.mono (fun i hi => List.mem_append_right _ hi) z, rfl⟩)
        (by rw [cq.1]; trivial) eq2 (fun a z => g4.owTracked z) Q (by
          rw [cmpr_m cq]
          intro x' H' ext' hr
          rw [show x' = .bl k from hr]
          refine qq _ H' fp4 [] ⟨(g4.same ext').plusNil, fun i hi => ?_, ?_, (fun _ z => nomatch z), ⟨by rw [RM.zero]; exact ⟨rfl, rfl⟩, .nil, (fun _ z => nomatch z), (fun z => nomatch z)⟩⟩
          · rw [mutd] at hi
            have h1 := ex.keep i fun z => hi (by
              rcases List.mem_append.mp z with z | z
              · exact List.mem_append_left _ z
              · exact List.mem_append_right _ (List.mem_append_left _ z))
            have h2 := ez.keep i fun z => hi (List.mem_append_right _ (List.mem_append_right _ z))
            exact ⟨h2.1.trans h1.1, h2.2.trans h1.2⟩
          · rw [mutd]
            refine (((ex.st.mono fun i z => ?_).trans (.ext ext)).trans (ez.st.mono fun i z => ?_)).trans (.ext ext')
            · rcases List.mem_append.mp z with z | z
              · exact List.mem_append_left _ z
              · exact List.mem_append_right _ (List.mem_append_left _ z)
            · exact List.mem_append_right _ (List.mem_append_right _ z))
      cases exy
      exact h
    · rename_i ek
      cases e
      refine first _ (fun k' H3 ek' ext => ?_) ⟨_, rfl⟩
      cases ek'
      refine ⟨false, rfl, ?_⟩
      rw [if_neg Bool.false_ne_true]
      refine qq _ H3 fp2 [] ⟨((g2.same ext).monoF fun a z => .inl z).plusNil, fun i hi => ?_, ?_, (fun _ z => nomatch z), ⟨by rw [RM.zero]; exact ⟨rfl, rfl⟩, .nil, (fun _ z => nomatch z), (fun z => nomatch z)⟩⟩
      · rw [mutd] at hi
        exact ex.keep i fun z => hi (by
          rcases List.mem_append.mp z with z | z
          · exact List.mem_append_left _ z
          · exact List.mem_append_right _ (List.mem_append_left _ z))
      · rw [mutd]
        refine (ex.st.mono fun i z => ?_).trans (.ext ext)
        rcases List.mem_append.mp z with z | z
        · exact List.mem_append_left _ z
        · exact List.mem_append_right _ (List.mem_append_left _ z)
    · cases e
  exact ⟨⟨⟨_, pe_chainU ho ho' pa pb pc hm, key⟩, fun _ z => nomatch z⟩, ⟨_, pt_chainU ho ho' pa pb pc hm, key.testC⟩⟩

mutual
/-- may be worked out twice -/
def pureI : IE → Bool
  | .cst _ => true | .var _ => true | .prim _ as => pureIs as
  | _ => false
def pureIs : IEs → Bool
  | .nil => true | .cons a as => pureI a && pureIs as
end
mutual
theorem pureI_ok : ∀ (c : IE) {fr fr' : Fr} {o : Od}, pureI c = true → evE G c fr = some (fr', o) → fr' = fr
  | .cst _, fr, fr', o, _, e => by rw [evE] at e; cases e; rfl
  | .var i, fr, fr', o, _, e => by
    rw [evE] at e
    split at e
    · cases e; rfl
    · cases e
  | .prim p as, fr, fr', o, h, e => by
    rw [evE] at e
    cases ea : evL G as fr with
    | none => rw [ea] at e; cases e
    | some pr =>
    obtain ⟨fr1, os⟩ := pr
    rw [ea] at e
    simp only [Option.bind_some] at e
    cases ep : primF p (os.map (·.v)) with
    | none => rw [ep] at e; cases e
    | some v =>
    rw [ep] at e
    cases e
    exact pureIs_ok as (by rw [pureI] at h; exact h) ea
theorem pureIs_ok : ∀ (cs : IEs) {fr fr' : Fr} {os : List Od}, pureIs cs = true → evL G cs fr = some (fr', os) → fr' = fr
  | .nil, fr, fr', o, _, e => by rw [evL] at e; cases e; rfl
  | .cons a as, fr, fr', o, h, e => by
    rw [pureIs, Bool.and_eq_true] at h
    rw [evL] at e
    cases ea : evE G a fr with
    | none => rw [ea] at e; cases e
    | some pr =>
    obtain ⟨fr1, oa⟩ := pr
    rw [ea] at e
    simp only [Option.bind_some] at e
    split at e
    rotate_left
    · cases e
    cases eb : evL G as fr1 with
    | none => rw [eb] at e; cases e
    | some pr =>
    obtain ⟨fr2, ob⟩ := pr
    rw [eb] at e
    cases e
    exact (pureIs_ok as h.2 eb).trans (pureI_ok a h.1 ea)
end
theorem ev_and_inv {A B : IE} {fr fr' : Fr} {o : Od} (e : evE G (.and A B) fr = some (fr', o)) :
    (∃ fr1 oa, evE G A fr = some (fr1, oa) ∧ oa.v = .bl true ∧ evE G B fr1 = some (fr', o)) ∨ (∃ oa, evE G A fr = some (fr', oa) ∧ oa.v = .bl false ∧ o = ⟨.bl false, 0, [], false⟩) := by
  rw [evE] at e
  cases ea : evE G A fr with
  | none => rw [ea] at e; cases e
  | some pr =>
  obtain ⟨fr1, oa⟩ := pr
  rw [ea] at e
  simp only [Option.bind_some] at e
  split at e
  · rename_i h
    exact .inl ⟨fr1, oa, rfl, h, e⟩
  · rename_i h
    cases e
    exact .inr ⟨oa, rfl, h, rfl⟩
  · cases e
theorem ev_pair_inv {p : Prim} {c d : IE} {fr fr' : Fr} {o : Od} (e : evE G (.prim p (.cons c (.cons d .nil))) fr = some (fr', o)) :
    ∃ fr1 oc od v, evE G c fr = some (fr1, oc) ∧ disj oc.al (mutd d) = true ∧ evE G d fr1 = some (fr', od) ∧ primF p [oc.v, od.v] = some v ∧ o = ⟨v, primM p v, primAl p [oc, od], false⟩ := by
  rw [evE, evL] at e
  cases ea : evE G c fr with
  | none => rw [ea] at e; cases e
  | some pr =>
  obtain ⟨fr1, oc⟩ := pr
  rw [ea] at e
  simp only [Option.bind_some] at e
  split at e
  rotate_left
  · cases e
  rename_i dj
  rw [evL] at e
  cases eb : evE G d fr1 with
  | none => rw [eb] at e; cases e
  | some pr =>
  obtain ⟨fr2, od⟩ := pr
  rw [eb] at e
  simp only [Option.bind_some] at e
  split at e
  rotate_left
  · cases e
  rw [evL] at e
  simp only [Option.bind_some, List.map] at e
  cases ep : primF p [oc.v, od.v] with
  | none => rw [ep] at e; cases e
  | some v =>
  rw [ep] at e
  cases e
  refine ⟨fr1, oc, od, v, rfl, ?_, eb, ep, rfl⟩
  rw [mutdL, mutdL, List.append_nil] at dj
  exact dj
theorem ev_chain_inv {p q : Prim} {ia ib ic : IE} {fr fr' : Fr} {o : Od} (e : evE G (.chain p q ia ib ic) fr = some (fr', o)) :
    ∃ fr1 oa fr2 ob k, evE G ia fr = some (fr1, oa) ∧ disj oa.al (mutd ib) = true ∧ evE G ib fr1 = some (fr2, ob) ∧ primF p [oa.v, ob.v] = some (.bl k) ∧
      ((k = false ∧ fr' = fr2 ∧ o = ⟨.bl false, 0, [], false⟩) ∨ (k = true ∧ disj ob.al (mutd ic) = true ∧ ∃ oc l, evE G ic fr2 = some (fr', oc) ∧ primF q [ob.v, oc.v] = some (.bl l) ∧ o = ⟨.bl l, 0, [], false⟩)) := by
  rw [evE] at e
  cases ea : evE G ia fr with
  | none => rw [ea] at e; cases e
  | some pr =>
  obtain ⟨fr1, oa⟩ := pr
  rw [ea] at e
  simp only [Option.bind_some] at e
  split at e
  rotate_left
  · cases e
  rename_i dj
  cases eb : evE G ib fr1 with
  | none => rw [eb] at e; cases e
  | some pr =>
  obtain ⟨fr2, ob⟩ := pr
  rw [eb] at e
  simp only [Option.bind_some] at e
  cases ep : primF p [oa.v, ob.v] with
  | none => rw [ep] at e; cases e
  | some v =>
  rw [ep] at e
  simp only [Option.bind_some] at e
  split at e
  · split at e
    rotate_left
    · cases e
    rename_i dj2
    cases ec : evE G ic fr2 with
    | none => rw [ec] at e; cases e
    | some pr =>
    obtain ⟨fr3, oc⟩ := pr
    rw [ec] at e
    simp only [Option.bind_some] at e
    cases eq2 : primF q [ob.v, oc.v] with
    | none => rw [eq2] at e; cases e
    | some v2 =>
    rw [eq2] at e
    simp only [Option.bind_some] at e
    split at e <;> cases e
    rename_i k
    exact ⟨fr1, oa, fr2, ob, true, rfl, dj, eb, ep, .inr ⟨rfl, dj2, oc, k, ec, eq2, rfl⟩⟩
  · cases e
    exact ⟨fr1, oa, _, ob, false, rfl, dj, eb, ep, .inl ⟨rfl, rfl, rfl⟩⟩
  · cases e
/-- what a comparison of two operands tells -/
theorem cmp_step {p : Prim} {r : R2} (hp : PSat K p fun xs H Q => ∃ x y, xs = [x, y] ∧ r x y H Q) (cp : Cmpr p) {oa ob : Od} {x y : V} {f1 f2 : List Addr} {k : Bool} (ha : OR K H F fp oa x f1) (hb : OR K H F fp ob y f2) (ep : primF p [oa.v, ob.v] = some (.bl k))
    (hT : ∀ a, Ow F fp a → ∃ o, H a = some o) {Q : VK} (h : ∀ H', Ext H H' → Q (.bl k) H') : r x y H Q := by
  obtain ⟨x2, y2, exy, h⟩ := hp H (OwA F fp (elal oa ++ elal ob)) (Ow F fp) [oa.v, ob.v] [x, y] (.bl k) (by
      rw [cp.1]
      exact ⟨x, [y], rfl, ha.rt.mono fun a z => OwA.mono (fun i hi => List.mem_append_left _ hi) z, y, [], rfl, hb.rt.mono fun a z => OwA.mono (fun i hi => List.mem_append_right _ hi) z, rfl⟩)
    (by rw [cp.1]; trivial) ep hT Q (by
      rw [cmpr_m cp]
      intro x' H' ext hr
      rw [show x' = .bl k from hr]
      exact h H' ext)
  cases exy
  exact h
theorem snd_chain3 {p q q3 : Prim} {r r' r'' : R2} {op op' op'' : CmpOp} {a b c d : Expr} {ia ib ic id : IE} {pos : Pos} (ha : Snd M G a ia) (hb : Snd M G b ib) (hc : Snd M G c ic) (hd : Snd M G d id) (hp : PSat K p fun xs H Q => ∃ x y, xs = [x, y] ∧ r x y H Q) (hq : PSat K q fun xs H Q => ∃ x y, xs = [x, y] ∧ r' x y H Q) (hq3 : PSat K q3 fun xs H Q => ∃ x y, xs = [x, y] ∧ r'' x y H Q)
    (cp : Cmpr p) (cq : Cmpr q) (cq3 : Cmpr q3) (ho : OpRu M (compareOp op) r) (ho' : OpRu M (compareOp op') r') (ho'' : OpRu M (compareOp op'') r'') (hm : lastMarks [op, op', op''] [b, c, d] = false) (pc : pureI ic = true) (cmpr_bl : ∀ {x y v : PV}, primF q3 [x, y] = some v → ∃ k, v = .bl k) :
    Snd M G (.Compare a [op, op', op''] [b, c, d] pos) (.and (.chain p q ia ib ic) (.prim q3 (.cons ic (.cons id .nil)))) ∧ SndT M G (.Compare a [op, op', op''] [b, c, d] pos) (.and (.chain p q ia ib ic) (.prim q3 (.cons ic (.cons id .nil)))) := by
  obtain ⟨ta, pa, sa⟩ := ha.pe
  obtain ⟨tb, pb, sb⟩ := hb.pe
  obtain ⟨tc, pc', sc⟩ := hc.pe
  obtain ⟨td, pd, sd⟩ := hd.pe
  have key : Sat K (evE G (.and (.chain p q ia ib ic) (.prim q3 (.cons ic (.cons id .nil))))) (mutd (.and (.chain p q ia ib ic) (.prim q3 (.cons ic (.cons id .nil))))) (tChain3 r r' r'' ta tb tc td) := by
    intro fr σ H F fp fr' o g e Q qq
    rw [mutd, mutd, mutd, mutdL, mutdL, mutdL, List.append_nil] at qq
    have inv := ev_and_inv e
    have ⟨fr1, oa, fr2, ob, k, ea, dj, eb, ep, rest⟩ : ∃ fr1 oa fr2 ob k, evE G ia fr = some (fr1, oa) ∧ disj oa.al (mutd ib) = true ∧ evE G ib fr1 = some (fr2, ob) ∧ primF p [oa.v, ob.v] = some (.bl k) ∧
        ((k = false ∧ fr' = fr2 ∧ o = ⟨.bl false, 0, [], false⟩) ∨ (k = true ∧ disj ob.al (mutd ic) = true ∧ ∃ oc l, evE G ic fr2 = some (fr2, oc) ∧ primF q [ob.v, oc.v] = some (.bl l) ∧
          ((l = false ∧ fr' = fr2 ∧ o = ⟨.bl false, 0, [], false⟩) ∨ (l = true ∧ disj oc.al (mutd id) = true ∧ ∃ od v, evE G id fr2 = some (fr', od) ∧ primF q3 [oc.v, od.v] = some v ∧ o = ⟨v, primM q3 v, primAl q3 [oc, od], false⟩)))) := by
      rcases inv with ⟨frx, ox, ex, vx, ey⟩ | ⟨ox, ex, vx, eo⟩
      · obtain ⟨fr1, oa, fr2, ob, k, ea, dj, eb, ep, z⟩ := ev_chain_inv ex
        rcases z with ⟨ek, _, eo⟩ | ⟨ek, dj2, oc, l, ec, eq, eo⟩
        · rw [eo] at vx; cases vx
        · rw [eo] at vx
          cases vx
          have e3 := pureI_ok ic pc ec
          subst e3
          obtain ⟨fr4, oc', od, v, ec', dj3, ed, e3, eo2⟩ := ev_pair_inv ey
          rw [ec] at ec'
          cases ec'
          exact ⟨fr1, oa, _, ob, k, ea, dj, eb, ep, .inr ⟨ek, dj2, oc, true, ec, eq, .inr ⟨rfl, dj3, od, v, ed, e3, eo2⟩⟩⟩
      · obtain ⟨fr1, oa, fr2, ob, k, ea, dj, eb, ep, z⟩ := ev_chain_inv ex
        rcases z with ⟨ek, ef, _⟩ | ⟨ek, dj2, oc, l, ec, eq, eo'⟩
        · exact ⟨fr1, oa, fr2, ob, k, ea, dj, eb, ep, .inl ⟨ek, ef, eo⟩⟩
        · rw [eo'] at vx
          cases vx
          have e3 := pureI_ok ic pc ec
          subst e3
          exact ⟨fr1, oa, _, ob, k, ea, dj, eb, ep, .inr ⟨ek, dj2, oc, false, ec, eq, .inl ⟨rfl, rfl, eo⟩⟩⟩
    clear inv e
    have e2 : ev2 (evE G ia) (evE G ib) (mutd ib) fr = some (fr2, [oa, ob]) := by
      unfold ev2
      rw [ea]
      simp only [Option.bind_some]
      rw [if_pos dj, eb]
      rfl
    refine two sa sb g e2 fun x y H2 fp2 fo ex => ?_
    obtain ⟨x', xs', f1, f2', exx, ef, orx, ⟨y', ys', f2, f3, eyy, ef2, ory, ⟨e3, e4⟩, _⟩, dd⟩ := ex.od
    subst e3 e4
    rw [List.append_nil] at ef2
    subst ef2
    cases eyy
    cases exx
    have g2 : FR K H2 (plus F f2') fr2 σ fp2 := ex.hf.monoF fun a z => z.elim .inl fun z => .inr (by rw [ef]; exact List.mem_append_right _ z)
    have hT : ∀ a, Ow F fp2 a → ∃ o, H2 a = some o := fun a z => (g2.monoF fun a z => .inl z).owTracked z
    refine cmp_step hp cp orx ory ep hT fun H3 ext => ?_
    refine ⟨k, rfl, ?_⟩
    have dab : ∀ i ∈ mutd ia ++ mutd ib, i ∈ (mutd ia ++ (mutd ib ++ mutd ic)) ++ (mutd ic ++ mutd id) := fun i z => by
      rcases List.mem_append.mp z with z | z
      · exact List.mem_append_left _ (List.mem_append_left _ z)
      · exact List.mem_append_left _ (List.mem_append_right _ (List.mem_append_left _ z))
    have dc : ∀ i ∈ mutd ic, i ∈ (mutd ia ++ (mutd ib ++ mutd ic)) ++ (mutd ic ++ mutd id) := fun i z => List.mem_append_right _ (List.mem_append_left _ z)
    have dd4 : ∀ i ∈ mutd id, i ∈ (mutd ia ++ (mutd ib ++ mutd ic)) ++ (mutd ic ++ mutd id) := fun i z => List.mem_append_right _ (List.mem_append_right _ z)
    rcases rest with ⟨ek, ef', eo⟩ | ⟨ek, dj2, oc, l, ec, eq2, rest⟩
    · subst ek ef' eo
      rw [if_neg Bool.false_ne_true]
      exact qq _ H3 fp2 [] ⟨((g2.same ext).monoF fun a z => .inl z).plusNil, fun i hi => ex.keep i fun z => hi (dab i z), (ex.st.mono dab).trans (.ext ext), (fun _ z => nomatch z), ⟨by rw [RM.zero]; exact ⟨rfl, rfl⟩, .nil, (fun _ z => nomatch z), (fun z => nomatch z)⟩⟩
    subst ek
    rw [if_pos rfl]
    have g3 : FR K H3 (plus F f2') fr2 σ fp2 := g2.same ext
    refine sc fr2 σ H3 (plus F f2') fp2 _ _ g3 ec _ fun w H4 fp4 f4 ez => ?_
    have ob4 : OR K H4 F fp4 ob y f2' := (ory.ext ext).later g3 (fun i hi => (ez.keep i hi).2) ez.st dj2
    have g4 : FR K H4 F _ σ fp4 := ez.hf.monoF fun a z => .inl (.inl z)
    refine cmp_step hq cq ob4 (ez.od.monoF (F' := F) fun a z => .inl z) eq2 (fun a z => g4.owTracked z) fun H5 ext5 => ?_
    refine ⟨l, rfl, ?_⟩
    rcases rest with ⟨el, ef', eo⟩ | ⟨el, dj3, od, v, ed, ep3, eo⟩
    · subst el ef' eo
      rw [if_neg Bool.false_ne_true]
      refine qq _ H5 fp4 [] ⟨(g4.same ext5).plusNil, fun i hi => ?_, ?_, (fun _ z => nomatch z), ⟨by rw [RM.zero]; exact ⟨rfl, rfl⟩, .nil, (fun _ z => nomatch z), (fun z => nomatch z)⟩⟩
      · have h1 := ex.keep i fun z => hi (dab i z)
        have h2 := ez.keep i fun z => hi (dc i z)
        exact ⟨h2.1.trans h1.1, h2.2.trans h1.2⟩
      · exact (((ex.st.mono dab).trans (.ext ext)).trans (ez.st.mono dc)).trans (.ext ext5)
    subst el
    rw [if_pos rfl]
    have g5 : FR K H5 (plus (plus F f2') f4) fr2 σ fp4 := ez.hf.same ext5
    refine sd fr2 σ H5 (plus (plus F f2') f4) fp4 _ _ g5 ed _ fun u H6 fp6 f6 eu => ?_
    have ow6 : OR K H6 (plus F f2') fp6 oc w f4 := (ez.od.ext ext5).later g5 (fun i hi => (eu.keep i hi).2) eu.st dj3
    have g6 : FR K H6 F _ σ fp6 := eu.hf.monoF fun a z => .inl (.inl (.inl z))
    obtain ⟨k6, rfl⟩ : ∃ k6, v = .bl k6 := cmpr_bl ep3
    refine cmp_step hq3 cq3 (ow6.monoF (F' := F) fun a z => .inl z) (eu.od.monoF (F' := F) fun a z => .inl (.inl z)) ep3 (fun a z => g6.owTracked z) fun H7 ext7 => ?_
    subst eo
    refine qq _ H7 fp6 [] ⟨(g6.same ext7).plusNil, fun i hi => ?_, ?_, (fun _ z => nomatch z), ?_⟩
    · have h1 := ex.keep i fun z => hi (dab i z)
      have h2 := ez.keep i fun z => hi (dc i z)
      have h3 := eu.keep i fun z => hi (dd4 i z)
      exact ⟨h3.1.trans (h2.1.trans h1.1), h3.2.trans (h2.2.trans h1.2)⟩
    · exact (((((ex.st.mono dab).trans (.ext ext)).trans (ez.st.mono dc)).trans (.ext ext5)).trans (eu.st.mono dd4)).trans (.ext ext7)
    · rw [cmpr_m cq3]
      refine ⟨by rw [RM.zero]; exact ⟨rfl, rfl⟩, .nil, (fun _ z => nomatch z), (fun z => nomatch z)⟩
  exact ⟨⟨⟨_, pe_chain3U ho ho' ho'' pa pb pc' pd hm, key⟩, fun _ z => nomatch z⟩, ⟨_, pt_chain3U ho ho' ho'' pa pb pc' pd hm, key.testC⟩⟩

/-! ### lists of expressions -/
structure SndL {K : PySem.W.Frag} (M : Fam K) (G : GE) (es : List Expr) (ies : IEs) : Prop where
  pa : ∃ t, PAu M es t ∧ SatL K (evL G ies) (mutdL ies) t
  star : Staru M es
  star2 : ∀ X, M.C X → ∀ pos, (backTo pos (starEach es X.env)).all (fun x => !x.1) = true
theorem sndL_nil : SndL M G [] .nil :=
  ⟨⟨_, pa_nilU, fun fr σ H F fp fr' os g e Q q => by
    rw [evL] at e
    cases e
    exact q [] H fp [] (by rw [mutdL]; exact ExL.nil g)⟩, fun _ _ _ => rfl, fun _ _ _ => rfl⟩
theorem evL_cons (a : IE) (as : IEs) (fr : Fr) : evL G (.cons a as) fr = (evE G a fr).bind fun (fr1, o) => if disj o.al (mutdL as) = true then (evL G as fr1).bind fun (fr2, os) => some (fr2, o :: os) else none := by rw [evL]
theorem sndL_cons {e : Expr} {es : List Expr} {ie : IE} {ies : IEs} (ns : NoStaru M e) (h : Snd M G e ie) (hs : SndL M G es ies) : SndL M G (e :: es) (.cons ie ies) := by
  obtain ⟨t, pe, s⟩ := h.pe
  obtain ⟨tl, pl, sl⟩ := hs.pa
  refine ⟨⟨_, pa_consU pe pl ns, fun fr σ H F fp fr' os g e Q q => ?_⟩, fun X hX pos => ?_, fun X hX pos => ?_⟩
  · rw [evL_cons] at e
    cases ea : evE G ie fr with
    | none => rw [ea] at e; cases e
    | some pr =>
      obtain ⟨fr1, o⟩ := pr
      rw [ea] at e
      simp only [Option.bind_some] at e
      split at e
      · rename_i dj
        cases el : evL G ies fr1 with
        | none => rw [el] at e; cases e
        | some pr =>
          obtain ⟨fr2, os2⟩ := pr
          rw [el] at e
          cases e
          refine s fr σ H F fp fr1 o g ea _ fun x H1 fp1 fo ex => ?_
          refine sl fr1 σ H1 (plus F fo) fp1 _ _ ex.hf el _ fun xs H2 fp2 f2 ey => ?_
          exact q _ H2 fp2 _ (by rw [mutdL]; exact ex.cons dj ey)
      · cases e
  · rw [ns X hX]
    show (false || (backTo pos (starEach es X.env)).any (·.1)) = false
    rw [hs.star X hX]
    rfl
  · rw [ns X hX]
    show (!false && (backTo pos (starEach es X.env)).all (fun x => !x.1)) = true
    rw [hs.star2 X hX]
    rfl
theorem snd_tup {es : List Expr} {ies : IEs} {k : Nat} {pos : Pos} (h : SndL M G es ies) : Snd M G (.Tuple es k pos) (.prim .tupD ies) := by
  obtain ⟨tl, pl, sl⟩ := h.pa
  refine ⟨⟨_, pe_tupU pl, ?_⟩, fun _ z => nomatch z⟩
  exact (Sat.callB sl sat_tupD).congr (by funext fr; rw [evE]) (by rw [mutd])
theorem snd_lst {es : List Expr} {ies : IEs} {pos : Pos} (h : SndL M G es ies) : Snd M G (.List es pos) (.prim .lstD ies) := by
  obtain ⟨tl, pl, sl⟩ := h.pa
  refine ⟨⟨_, pe_lstU pl, ?_⟩, fun _ z => nomatch z⟩
  exact (Sat.callB sl sat_lstD).congr (by funext fr; rw [evE]) (by rw [mutd])
theorem snd_callB {x : Str} {p : Prim} {r : List V → Hp → VK → Prop} {e : Expr} {es : List Expr} {ies : IEs} {id : String} {px pos : Pos} (h : SndL M G (e :: es) ies) (ns : NoStaru M e) (hes : Staru M es) (hp : PSat K p r) (hc : CallRu M (.builtin id) r) (hg : Glu M x) (hm : Mgu M x)
    (hv : bootBuiltins x = some (.builtin id)) (hn : x ≠ "__name__") (hdb : (x == ("__debug__" : Str)) = false) : Snd M G (.Call (.Name x px) (e :: es) [] pos) (.prim p ies) := by
  obtain ⟨tl, pl, sl⟩ := h.pa
  refine ⟨⟨_, pe_callBU hc hg hm hv pl hn hdb ns hes, ?_⟩, fun _ z => nomatch z⟩
  exact (Sat.callB sl hp).congr (by funext fr; rw [evE]) (by rw [mutd])
theorem snd_callTy {x : Str} {p : Prim} {r : List V → Hp → VK → Prop} {e : Expr} {es : List Expr} {ies : IEs} {T : String} {px pos : Pos} (h : SndL M G (e :: es) ies) (ns : NoStaru M e) (hes : Staru M es) (hp : PSat K p r) (hc : CallRu M (.type T) r) (hg : Glu M x) (hm : Mgu M x)
    (hv : bootBuiltins x = some (.type T)) (hn : x ≠ "__name__") (hdb : (x == ("__debug__" : Str)) = false) : Snd M G (.Call (.Name x px) (e :: es) [] pos) (.prim p ies) := by
  obtain ⟨tl, pl, sl⟩ := h.pa
  refine ⟨⟨_, pe_callTyU hc hg hm hv pl hn hdb ns hes, ?_⟩, fun _ z => nomatch z⟩
  exact (Sat.callB sl hp).congr (by funext fr; rw [evE]) (by rw [mutd])
theorem snd_idx {a b : Expr} {ia ib : IE} {pos : Pos} (ha : Snd M G a ia) (hb : Snd M G b ib) (hs : PlainIx b) : Snd M G (.Subscript a b pos) (.prim .idx (.cons ia (.cons ib .nil))) :=
  snd_op2 ha hb sat_idx fun ta tb pa pb => pe_ixU pa pb hs

/-! ### list(range(..)) -/
def rgR1 : List V → Hp → VK → Prop
  | [x], H, Q => ∃ n, x = .int n ∧ (RgOk 0 n ∧ ∀ q, H q = none → Q (.ref q) (upd H q (.lst (rgV 0 n))))
  | _, _, _ => False
def rgR2 : List V → Hp → VK → Prop
  | [x, y], H, Q => ∃ i j, x = .int i ∧ y = .int j ∧ (RgOk i j ∧ ∀ q, H q = none → Q (.ref q) (upd H q (.lst (rgV i j))))
  | _, _, _ => False
def rgI (a : Int) (n : Nat) : List Int := (List.range n).map fun k => a + ((k : Nat) : Int)
theorem rgV_I (a b : Int) : rgV a b = (rgI a (b - a).toNat).map V.int := by unfold rgV rgI; rw [List.map_map]; rfl
theorem rangeP_I (a : Int) (n : Nat) : rangeP a n = (rgI a n).map PV.int := by unfold rangeP rgI; rw [List.map_map]; rfl
def pvRange1 : PV → Option PV
  | .int j => if 0 ≤ j ∧ j ≤ 16777216 then some (.lst (rangeP 0 j.toNat)) else none
  | _ => none
def pvRange2 : PV → PV → Option PV
  | .int i, .int j => if -(2 ^ 62) ≤ i ∧ i < 2 ^ 62 ∧ -(2 ^ 62) ≤ j ∧ j < 2 ^ 62 ∧ (j - i).toNat ≤ 16777216 then some (.lst (rangeP i (j - i).toNat)) else none
  | _, _ => none
theorem sat_range1 : PSat K .range1 rgR1 := by
  refine PSat.call1 (f := pvRange1) (arg1 fun ws => by rcases ws with _ | ⟨a, _ | ⟨b, d⟩⟩ <;> first | rfl | (cases a <;> rfl)) (.inl rfl) fun H O O' a x v ra _ e hT Q hQ => ?_
  cases a <;> simp only [pvRange1] at e <;> try cases e
  rename_i j
  split at e <;> cases e
  rename_i h
  rw [show x = _ from ra]
  refine ⟨j, rfl, RgOk.of_le (by omega) h.2 (by omega) h.1, fun q hq => ?_⟩
  rw [rgV_I, Int.sub_zero]
  rw [rangeP_I] at hQ
  exact hQ.fresh rfl (rs_ints _) hq
theorem sat_range2 : PSat K .range2 rgR2 := by
  refine PSat.call2 (f := pvRange2) (arg2 fun ws => by rcases ws with _ | ⟨a, _ | ⟨b, _ | ⟨c, d⟩⟩⟩ <;> first | rfl | (cases a <;> rfl) | (cases a <;> cases b <;> rfl)) (.inl rfl) fun H O O' a b x y v ra rb _ e hT Q hQ => ?_
  cases a <;> cases b <;> simp only [pvRange2] at e <;> try cases e
  rename_i i j
  split at e <;> cases e
  rename_i h
  rw [show x = _ from ra, show y = _ from rb]
  refine ⟨i, j, rfl, rfl, ⟨h.1, h.2.1, h.2.2.1, h.2.2.2.1, h.2.2.2.2⟩, fun q hq => ?_⟩
  rw [rgV_I]
  rw [rangeP_I] at hQ
  exact hQ.fresh rfl (rs_ints _) hq
theorem satL_nil : SatL K (evL G .nil) (mutdL .nil) tNil := fun fr σ H F fp fr' os g e Q q => by
  rw [evL] at e
  cases e
  exact q [] H fp [] (by rw [mutdL]; exact ExL.nil g)
theorem satL_cons {ie : IE} {ies : IEs} {t : TE} {tl : TA} (s : Sat K (evE G ie) (mutd ie) t) (sl : SatL K (evL G ies) (mutdL ies) tl) : SatL K (evL G (.cons ie ies)) (mutdL (.cons ie ies)) (tCons t tl) := fun fr σ H F fp fr' os g e Q q => by
  rw [evL_cons] at e
  cases ea : evE G ie fr with
  | none => rw [ea] at e; cases e
  | some pr =>
    obtain ⟨fr1, o⟩ := pr
    rw [ea] at e
    simp only [Option.bind_some] at e
    split at e
    · rename_i dj
      cases el : evL G ies fr1 with
      | none => rw [el] at e; cases e
      | some pr =>
        obtain ⟨fr2, os2⟩ := pr
        rw [el] at e
        cases e
        refine s fr σ H F fp fr1 o g ea _ fun x H1 fp1 fo ex => ?_
        refine sl fr1 σ H1 (plus F fo) fp1 _ _ ex.hf el _ fun xs H2 fp2 f2 ey => ?_
        exact q _ H2 fp2 _ (by rw [mutdL]; exact ex.cons dj ey)
    · cases e
theorem snd_lrange1 {a : Expr} {ia : IE} {p p2 pos pos2 : Pos} (ha : Snd M G a ia) (na : NoStaru M a) (hc : ∀ X, M.C X → X.calm = true) (hl : Glu M "list") (hl2 : Mgu M "list") (hg : Glu M "range") (hm : Mgu M "range") :
    Snd M G (.Call (.Name "list" p) [.Call (.Name "range" p2) [a] [] pos2] [] pos) (.prim .range1 (.cons ia .nil)) := by
  obtain ⟨ta, pa, sa⟩ := ha.pe
  refine ⟨⟨tLstRg (tRg1 ta), fun X hX => pe_listRg (hc X hX) (hl X hX) (hl2 X hX) (prg_1 (hg X hX) (hm X hX) (pa X hX) (na X hX [])), ?_⟩, fun _ z => nomatch z⟩
  exact (Sat.callB (satL_cons sa satL_nil) sat_range1).congr (by funext fr; rw [evE]) (by rw [mutd])
theorem snd_lrange2 {a b : Expr} {ia ib : IE} {p p2 pos pos2 : Pos} (ha : Snd M G a ia) (hb : Snd M G b ib) (na : NoStaru M a) (nb : NoStaru M b) (hc : ∀ X, M.C X → X.calm = true) (hl : Glu M "list") (hl2 : Mgu M "list") (hg : Glu M "range") (hm : Mgu M "range") :
    Snd M G (.Call (.Name "list" p) [.Call (.Name "range" p2) [a, b] [] pos2] [] pos) (.prim .range2 (.cons ia (.cons ib .nil))) := by
  obtain ⟨ta, pa, sa⟩ := ha.pe
  obtain ⟨tb, pb, sb⟩ := hb.pe
  refine ⟨⟨tLstRg (tRg2 ta tb), fun X hX => pe_listRg (hc X hX) (hl X hX) (hl2 X hX) (prg_2 (hg X hX) (hm X hX) (pa X hX) (pb X hX) (na X hX [b]) (nb X hX []) (by rw [nb X hX []]; rfl)), ?_⟩, fun _ z => nomatch z⟩
  exact (Sat.callB (satL_cons sa (satL_cons sb satL_nil)) sat_range2).congr (by funext fr; rw [evE]) (by rw [mutd])

/-! ### slices -/
theorem evL3 (a b c : IE) (fr : Fr) : evL G (.cons a (.cons b (.cons c .nil))) fr = (evE G a fr).bind fun (fr1, o) => if disj o.al (mutdL (.cons b (.cons c .nil))) = true then (evL G (.cons b (.cons c .nil)) fr1).bind fun (fr2, os) => some (fr2, o :: os) else none := evL_cons _ _ _
theorem ORs.one {o : Od} {xs : List V} {fo : List Addr} (h : ORs K H F fp [o] xs fo) : ∃ x, xs = [x] ∧ OR K H F fp o x fo := by
  obtain ⟨x, xs', f1, f2, e, ef, r, ⟨e1, e2⟩, _⟩ := h
  subst e1 e2
  rw [List.append_nil] at ef
  subst ef
  exact ⟨x, e, r⟩
def slAt (lo hi : Bool) (vs : List PV) : Option (PV × Option Int × Option Int) := match lo, hi, vs with
  | false, false, [a] => some (a, none, none)
  | true, false, [a, .int i] => some (a, some i, none)
  | false, true, [a, .int j] => some (a, none, some j)
  | true, true, [a, .int i, .int j] => some (a, some i, some j)
  | _, _, _ => none
theorem slAt_prim {lo hi : Bool} {vs : List PV} {v : PV} (e : primF (.sl lo hi) vs = some v) : ∃ a l h, slAt lo hi vs = some (a, l, h) ∧ pvSl a l h = some v := by
  cases lo <;> cases hi
  · match vs, e with
    | [a], e => exact ⟨a, none, none, rfl, e⟩
  · match vs, e with
    | [a, .int j], e => exact ⟨a, none, some j, rfl, e⟩
  · match vs, e with
    | [a, .int j], e => exact ⟨a, some j, none, rfl, e⟩
  · match vs, e with
    | [a, .int i, .int j], e => exact ⟨a, some i, some j, rfl, e⟩
/-- the slice's reading, when all its parts are there -/
theorem sat_sl {lo hi : Bool} : PSat K (.sl lo hi) fun xs H Q => ∃ x l h, (match lo, hi with
    | false, false => xs = [x] ∧ l = none ∧ h = none
    | true, false => ∃ i, xs = [x, .int i] ∧ l = some i ∧ h = none
    | false, true => ∃ j, xs = [x, .int j] ∧ l = none ∧ h = some j
    | true, true => ∃ i j, xs = [x, .int i, .int j] ∧ l = some i ∧ h = some j) ∧ rSlB K x l h H Q := by
  intro H O O' ws xs v hr hO e hT Q hQ
  have hr : RTs K H O ws xs := hr
  have hO : O' = O := hO
  subst hO
  obtain ⟨a, l, h, es, ep⟩ := slAt_prim e
  cases lo <;> cases hi
  · match ws, es with
    | [a'], es =>
      cases es
      obtain ⟨x, rfl, r⟩ := rts1 hr
      exact ⟨x, none, none, ⟨rfl, rfl, rfl⟩, sl_any rfl r ep hT hQ⟩
  · match ws, es with
    | [a', .int j], es =>
      cases es
      obtain ⟨x, y, rfl, r, r2⟩ := rts2 hr
      rw [show y = .int j from r2]
      exact ⟨x, none, some j, ⟨j, rfl, rfl, rfl⟩, sl_any rfl r ep hT hQ⟩
  · match ws, es with
    | [a', .int j], es =>
      cases es
      obtain ⟨x, y, rfl, r, r2⟩ := rts2 hr
      rw [show y = .int j from r2]
      exact ⟨x, some j, none, ⟨j, rfl, rfl, rfl⟩, sl_any rfl r ep hT hQ⟩
  · match ws, es with
    | [a', .int i, .int j], es =>
      cases es
      obtain ⟨x, y, z, rfl, r, r2, r3⟩ := rts3 hr
      rw [show y = .int i from r2, show z = .int j from r3]
      exact ⟨x, some i, some j, ⟨i, j, rfl, rfl, rfl⟩, sl_any rfl r ep hT hQ⟩
theorem intOf {o : Od} {x : V} {fo : List Addr} {i : Int} (h : OR K H F fp o x fo) (e : o.v = .int i) : x = .int i := by
  have r := h.r
  rw [e] at r
  exact r
theorem slAt_int {lo hi : Bool} {vs : List PV} {v : PV} (e : primF (.sl lo hi) vs = some v) : ∀ w ∈ vs.drop 1, ∃ i, w = .int i := by
  cases lo <;> cases hi
  · match vs, e with
    | [a], e => exact fun w z => nomatch z
  · match vs, e with
    | [a, .int j], e => intro w z; exact ⟨j, by simpa using z⟩
  · match vs, e with
    | [a, .int j], e => intro w z; exact ⟨j, by simpa using z⟩
  · match vs, e with
    | [a, .int i, .int j], e =>
      intro w z
      have z : w = .int i ∨ w = .int j := by simpa using z
      rcases z with z | z
      · exact ⟨i, z⟩
      · exact ⟨j, z⟩
theorem snd_sl0 {a : Expr} {ia : IE} {p2 pos : Pos} (ha : Snd M G a ia) : Snd M G (.Subscript a (.Slice none none none p2) pos) (.prim (.sl false false) (.cons ia .nil)) := by
  obtain ⟨ta, pa, sa⟩ := ha.pe
  refine ⟨⟨_, pe_sliceU pa po_noneU po_noneU, ?_⟩, fun _ z => nomatch z⟩
  intro fr σ H F fp fr' o g e Q q
  rw [evE, evL_one] at e
  dsimp only at e
  cases ea : evE G ia fr with
  | none => rw [ea] at e; cases e
  | some pr =>
    obtain ⟨fr1, oa⟩ := pr
    rw [ea] at e
    simp only [Option.bind_some] at e
    cases ep : primF (.sl false false) ([oa].map (·.v)) with
    | none => rw [ep] at e; cases e
    | some v =>
      rw [ep] at e
      cases e
      refine sa fr σ H F fp _ _ g ea _ fun x H1 fp1 fo ex => ?_
      obtain ⟨x', l, h, ⟨e1, e2, e3⟩, hh⟩ := ex.one.prim sat_sl ep (by rw [mutd, mutdL_one] at q; exact q)
      cases e1
      subst e2 e3
      exact hh
theorem snd_sl1 {a b : Expr} {ia ib : IE} {p2 pos : Pos} (lo : Bool) (ha : Snd M G a ia) (hb : Snd M G b ib) :
    Snd M G (.Subscript a (if lo then .Slice (some b) none none p2 else .Slice none (some b) none p2) pos) (.prim (.sl lo (!lo)) (.cons ia (.cons ib .nil))) := by
  obtain ⟨ta, pa, sa⟩ := ha.pe
  obtain ⟨tb, pb, sb⟩ := hb.pe
  cases lo with
  | true =>
    rw [if_pos rfl]
    refine ⟨⟨_, pe_sliceU pa (po_someU pb) po_noneU, ?_⟩, fun _ z => nomatch z⟩
    intro fr σ H F fp fr' o g e Q q
    rw [evE, evL_two, mutdL_one] at e
    cases ea : ev2 (evE G ia) (evE G ib) (mutd ib) fr with
    | none => rw [ea] at e; cases e
    | some pr =>
      obtain ⟨fr1, os⟩ := pr
      rw [ea] at e
      simp only [Option.bind_some] at e
      cases ep : primF (.sl true (!true)) (os.map (·.v)) with
      | none => rw [ep] at e; cases e
      | some v =>
        rw [ep] at e
        cases e
        refine two sa sb g ea fun x y H1 fp1 fo ex => ?_
        obtain ⟨x', l, h, ⟨i, e1, e2, e3⟩, hh⟩ := ex.prim (sat_sl (lo := true) (hi := false)) ep (by rw [mutd, mutdL_two] at q; exact q)
        cases e1
        subst e2 e3
        exact ⟨i, rfl, hh⟩
  | false =>
    rw [if_neg Bool.false_ne_true]
    refine ⟨⟨_, pe_sliceU pa po_noneU (po_someU pb), ?_⟩, fun _ z => nomatch z⟩
    intro fr σ H F fp fr' o g e Q q
    rw [evE, evL_two, mutdL_one] at e
    cases ea : ev2 (evE G ia) (evE G ib) (mutd ib) fr with
    | none => rw [ea] at e; cases e
    | some pr =>
      obtain ⟨fr1, os⟩ := pr
      rw [ea] at e
      simp only [Option.bind_some] at e
      cases ep : primF (.sl false (!false)) (os.map (·.v)) with
      | none => rw [ep] at e; cases e
      | some v =>
        rw [ep] at e
        cases e
        refine two sa sb g ea fun x y H1 fp1 fo ex => ?_
        obtain ⟨x', l, h, ⟨i, e1, e2, e3⟩, hh⟩ := ex.prim (sat_sl (lo := false) (hi := true)) ep (by rw [mutd, mutdL_two] at q; exact q)
        cases e1
        subst e2 e3
        exact ⟨i, rfl, hh⟩
theorem snd_sl2 {a b c : Expr} {ia ib ic : IE} {p2 pos : Pos} (ha : Snd M G a ia) (hb : Snd M G b ib) (hc : Snd M G c ic) :
    Snd M G (.Subscript a (.Slice (some b) (some c) none p2) pos) (.prim (.sl true true) (.cons ia (.cons ib (.cons ic .nil)))) := by
  obtain ⟨ta, pa, sa⟩ := ha.pe
  obtain ⟨tb, pb, sb⟩ := hb.pe
  obtain ⟨tc, pc, sc⟩ := hc.pe
  refine ⟨⟨_, pe_sliceU pa (po_someU pb) (po_someU pc), ?_⟩, fun _ z => nomatch z⟩
  intro fr σ H F fp fr' o g e Q q
  rw [evE, evL3] at e
  cases ea : evE G ia fr with
  | none => rw [ea] at e; cases e
  | some pr =>
    obtain ⟨fr1, oa⟩ := pr
    rw [ea] at e
    simp only [Option.bind_some] at e
    split at e
    rotate_left
    · cases e
    rename_i dj
    rw [evL_two, mutdL_one] at e
    cases e2 : ev2 (evE G ib) (evE G ic) (mutd ic) fr1 with
    | none => rw [e2] at e; cases e
    | some pr =>
      obtain ⟨fr2, os⟩ := pr
      rw [e2] at e
      simp only [Option.bind_some] at e
      cases ep : primF (.sl true true) ((oa :: os).map (·.v)) with
      | none => rw [ep] at e; cases e
      | some v =>
        rw [ep] at e
        cases e
        refine sa fr σ H F fp _ _ g ea _ fun x H1 fp1 fo ex => ?_
        unfold ev2 at e2
        cases eb : evE G ib fr1 with
        | none => rw [eb] at e2; cases e2
        | some pr =>
        obtain ⟨fr3, ob⟩ := pr
        rw [eb] at e2
        simp only [Option.bind_some] at e2
        split at e2
        rotate_left
        · cases e2
        rename_i dj2
        cases ec : evE G ic fr3 with
        | none => rw [ec] at e2; cases e2
        | some pr =>
        obtain ⟨fr4, oc⟩ := pr
        rw [ec] at e2
        cases e2
        have hi := slAt_int ep
        obtain ⟨i, hi1⟩ := hi ob.v (by simp)
        obtain ⟨j, hj1⟩ := hi oc.v (by simp)
        refine sb fr1 σ H1 (plus F fo) fp1 _ _ ex.hf eb _ fun y H2 fp2 f2 ey => ?_
        refine ⟨i, intOf ey.od hi1, ?_⟩
        refine sc fr3 σ H2 (plus (plus F fo) f2) fp2 _ _ ey.hf ec _ fun z H3 fp3 f3 ez => ?_
        refine ⟨j, intOf ez.od hj1, ?_⟩
        have eyz := ey.cons dj2 ez.one
        have exyz := ex.cons (by rw [mutdL_two] at dj; exact dj) eyz
        obtain ⟨x', l, h, ⟨i', j', e1, e2, e3⟩, hh⟩ := exyz.prim (sat_sl (lo := true) (hi := true)) ep (by rw [mutd, mutdL, mutdL_two] at q; exact q)
        rw [intOf ey.od hi1, intOf ez.od hj1] at e1
        cases e1
        subst e2 e3
        exact hh
end
end VI
namespace VI
open PySem PySem.Spec PyProof.Rows L2

theorem map_sm {α β : Type} {o : Option α} {f : α → β} {b : β} (h : o.map f = some b) : ∃ a, o = some a ∧ f a = b := by
  cases o with
  | none => cases h
  | some a => exact ⟨a, rfl, Option.some.inj h⟩
theorem lt_of_sm {α : Type} {l : List α} {i : Nat} {a : α} (h : l[i]? = some a) : i < l.length := by
  refine Classical.byContradiction fun c => ?_
  rw [List.getElem?_eq_none (by omega)] at h
  cases h
section
variable {K : PySem.W.Frag} {M : Fam K} {G : GE} {H H' H1 H2 : Hp} {F O O' : Addr → Prop} {fr fr1 fr2 fr' : Fr} {σ : L2.St} {fp fp1 fp2 : FP}
/-! ### methods that change nothing -/
theorem twoT {eva evb : Ev} {Da Db : List Nat} {ta tb : TE} (ha : Sat K eva Da ta) (hb : Sat K evb Db tb) {os : List Od} (g : FR K H F fr σ fp) (e : ev2 eva evb Db fr = some (fr', os)) {T : V → Hp → Prop} {R : V → V → Hp → Prop}
    (hT : ∀ o o2, os = [o, o2] → ∀ x H1 fp1 fo, OR K H1 F fp1 o x fo → T x H1)
    (h : ∀ x y H' fp' fo, ExL K H F σ fr fp (Da ++ Db) H' fr' fp' fo os [x, y] → R x y H') : ta σ H fun x H1 => T x H1 ∧ tb σ H1 fun y H2 => R x y H2 := by
  unfold ev2 at e
  cases ea : eva fr with
  | none => rw [ea] at e; cases e
  | some p =>
    obtain ⟨fr1, o⟩ := p
    rw [ea] at e
    simp only [Option.bind_some] at e
    split at e
    · rename_i dj
      cases eb : evb fr1 with
      | none => rw [eb] at e; cases e
      | some p =>
        obtain ⟨fr2, o2⟩ := p
        rw [eb] at e
        simp only [Option.bind_some, Option.some.injEq, Prod.mk.injEq] at e
        obtain ⟨e1, e2⟩ := e
        subst e1 e2
        refine ha fr σ H F fp fr1 o g ea _ fun x H1 fp1 fo ex => ⟨hT o o2 rfl x H1 fp1 fo ex.od, ?_⟩
        refine hb fr1 σ H1 (plus F fo) fp1 fr2 o2 ex.hf eb _ fun y H2 fp2 f2 ey => ?_
        exact h x y H2 fp2 _ (ex.cons dj ey.one)
    · cases e
theorem Sat.meth {eva evb : Ev} {Da Db : List Nat} {ta tb : TE} {p : Prim} {T : String} {r : V → List V → Hp → VK → Prop} (ha : Sat K eva Da ta) (hb : Sat K evb Db tb) (hp : PSat K p fun xs H Q => ∃ x y, xs = [x, y] ∧ r x [y] H Q)
    (ht : ∀ v w u, primF p [v, w] = some u → ∀ H O x, RT K H O v x → tyV K T x H) :
    Sat K (fun fr => (ev2 eva evb Db fr).bind fun (fr1, os) => (primF p (os.map (·.v))).bind fun v => some (fr1, ⟨v, primM p v, primAl p os, false⟩)) (Da ++ Db) (tBM K T r ta (tCons tb tNil)) := by
  intro fr σ H F fp fr' o g e Q q
  dsimp only at e
  cases e2 : ev2 eva evb Db fr with
  | none => rw [e2] at e; cases e
  | some pr =>
    obtain ⟨fr1, os⟩ := pr
    rw [e2] at e
    simp only [Option.bind_some] at e
    cases ep : primF p (os.map (·.v)) with
    | none => rw [ep] at e; cases e
    | some v =>
      rw [ep] at e
      simp only [Option.bind_some, Option.some.injEq, Prod.mk.injEq] at e
      obtain ⟨e1, e3⟩ := e
      subst e1 e3
      refine twoT (T := fun x H => tyV K T x H) (R := fun x y H => r x [y] H Q) ha hb g e2 (fun o o2 eo x H1 fp1 fo od => ?_) fun x y H' fp' fo ex => ?_
      · subst eo
        exact ht o.v o2.v v ep H1 _ x od.rt
      · obtain ⟨x', y', e', h⟩ := ex.prim hp ep q
        cases e'
        exact h
theorem snd_meth {p : Prim} {T : String} {r : V → List V → Hp → VK → Prop} {a b e : Expr} {ia ib : IE} (ha : Snd M G a ia) (hb : Snd M G b ib) (hp : PSat K p fun xs H Q => ∃ x y, xs = [x, y] ∧ r x [y] H Q)
    (ht : ∀ v w u, primF p [v, w] = some u → ∀ H O x, RT K H O v x → tyV K T x H)
    (pe : ∀ ta tb, PEu M a ta → PEu M b tb → PEu M e (tBM K T r ta (tCons tb tNil))) : Snd M G e (.prim p (.cons ia (.cons ib .nil))) := by
  obtain ⟨ta, pa, sa⟩ := ha.pe
  obtain ⟨tb, pb, sb⟩ := hb.pe
  refine ⟨⟨_, pe _ _ pa pb, (sa.meth sb hp ht).congr ?_ (by rw [mutd, mutdL_two])⟩, fun _ z => nomatch z⟩
  funext fr
  rw [evE, evL_two, mutdL_one]
theorem ixP_ok {w : PV} : ∀ {vs : List PV} {k n : Nat}, ixP w vs k = some n → k ≤ n ∧ ∃ v, vs[n - k]? = some v ∧ pvEq v w = true ∧ ∀ m u, m < n - k → vs[m]? = some u → pvEq u w = false
  | [], _, _, h => nomatch h
  | v :: vs, k, n, h => by
    unfold ixP at h
    split at h
    · rename_i e
      cases h
      rw [Nat.sub_self]
      exact ⟨Nat.le_refl _, v, rfl, e, fun m u hm => absurd hm (Nat.not_lt_zero _)⟩
    · rename_i ne
      obtain ⟨h1, u, h2, h3, h4⟩ := ixP_ok h
      have e1 : n - k = (n - (k + 1)) + 1 := by omega
      refine ⟨by omega, u, by rw [e1]; exact h2, h3, fun m u' hm hu => ?_⟩
      cases m with
      | zero =>
        cases hu
        simpa using ne
      | succ m => exact h4 m u' (by omega) hu
theorem plain_R {a : PV} {x : V} (ra : R K H O a x) (ha : plainB a = true) : flatV x = true := by
  cases a <;> simp only [R] at ra <;> first | (subst ra; rfl) | (exact absurd ha Bool.false_ne_true)
theorem sat_index : PSat K .index fun xs H Q => ∃ x y, xs = [x, y] ∧ rIndex K x [y] H Q := by
  refine PSat.of2 (f := pvIndex) (r := fun x y H Q => rIndex K x [y] H Q) (arg2 fun ws => by rcases ws with _ | ⟨a, _ | ⟨b, _ | ⟨c, d⟩⟩⟩ <;> rfl) (.inl rfl) fun H O O' a b x y v ra rb _ e hT Q hQ => ?_
  cases a <;> simp only [pvIndex] at e <;> try (cases e; done)
  rename_i vs
  split at e
  case isFalse => cases e
  rename_i hc
  rw [Bool.and_eq_true] at hc
  obtain ⟨n, en, rfl⟩ := map_sm e
  obtain ⟨p, ys, rfl, t, ry⟩ := ra
  have rb' : R K H O b y := by have hx := hc.1; cases b <;> first | exact rb | (exact absurd hx Bool.false_ne_true)
  obtain ⟨_, u, h2, h3, h4⟩ := ixP_ok en
  rw [Nat.sub_zero] at h2 h4
  obtain ⟨z, hz, rz⟩ := ry.get h2
  have pu : plainB u = true := (List.all_eq_true.mp hc.2) u (List.mem_of_getElem? h2)
  refine ⟨p, ys, y, n, z, rfl, rfl, SqL.of t, plain_R rb' hc.1, allFlatV ry hc.2, hz, ?_, fun m z' hm hz' => ?_, hQ.int⟩
  · rw [eqV_of rz rb' pu hc.1]; exact h3
  · have hl : m < vs.length := by
      have := ry.length
      have h9 := lt_of_sm hz'
      omega
    obtain ⟨z2, hz2, rz2⟩ := ry.get (List.getElem?_eq_getElem hl)
    rw [hz'] at hz2
    cases hz2
    rw [eqV_of rz2 rb' ((List.all_eq_true.mp hc.2) _ (List.getElem_mem hl)) hc.1]
    exact h4 m _ hm (List.getElem?_eq_getElem hl)
theorem index_ty : ∀ v w u, primF .index [v, w] = some u → ∀ H O x, RT K H O v x → tyV K "list" x H := fun v w u e H O x h => by
  have e : pvIndex v w = some u := e
  cases v <;> simp only [pvIndex] at e <;> try (cases e; done)
  obtain ⟨p, ys, rfl, t, ry⟩ := h
  exact .inl ⟨rfl, ys, SqL.of t⟩
theorem asStrs_R : ∀ {vs : List PV} {ss : List Str} {ys : List V}, asStrs vs = some ss → Rs K H O vs ys → ys = ss.map V.str
  | [], ss, ys, h, r => by
    unfold asStrs at h
    cases h
    rw [show ys = [] from r]; rfl
  | v :: vs, ss, ys, h, r => by
    obtain ⟨y, ys', rfl, r1, r2⟩ := r
    cases v <;> unfold asStrs at h <;> try (cases h; done)
    obtain ⟨ts, e, rfl⟩ := map_sm h
    rw [asStrs_R e r2, show y = _ from r1]; rfl
def rJoinV (K : PySem.W.Frag) : V → List V → Hp → VK → Prop := fun x xs H Q => ∃ a p, ∃ ys : List Str, x = .str a ∧ xs = [.ref p] ∧ (SqL K H p (ys.map V.str) ∨ SqT K H p (ys.map V.str)) ∧ (ys.map (·.length)).sum + ys.length * a.length ≤ 16777216 ∧ Q (.str (Txt.join a ys)) H
theorem sat_join : PSat K .join fun xs H Q => ∃ x y, xs = [x, y] ∧ rJoinV K x [y] H Q := by
  refine PSat.of2 (f := pvJoin) (r := fun x y H Q => rJoinV K x [y] H Q) (arg2 fun ws => by rcases ws with _ | ⟨a, _ | ⟨b, _ | ⟨c, d⟩⟩⟩ <;> rfl) (.inl rfl) fun H O O' a b x y v ra rb _ e hT Q hQ => ?_
  cases a <;> try (cases e; done)
  cases b <;> try (cases e; done)
  rename_i s vs
  unfold pvJoin at e
  simp only at e
  cases es : asStrs vs with
  | none => rw [es] at e; cases e
  | some ss =>
    rw [es] at e
    simp only at e
    split at e
    case isFalse => cases e
    cases e
    rename_i hl
    obtain ⟨p, ys, rfl, t, ry⟩ := rb
    have := asStrs_R es ry
    subst this
    exact ⟨s, p, ss, ra, rfl, .inl (SqL.of t), hl, hQ.str⟩
theorem join_ty : ∀ v w u, primF .join [v, w] = some u → ∀ H O x, RT K H O v x → tyV K "str" x H := fun v w u e H O x h => by
  have e : pvJoin v w = some u := e
  cases v <;> try (cases e; done)
  rw [show x = _ from h]
  rfl
end
end VI
namespace VI
open PySem PySem.Spec PyProof.Rows L2

/-! ### the promise of a def that is told by values -/
def outFr : List Nat → List PV → Fr
  | [], _ => []
  | m :: mu, outs => if m = 0 then none :: outFr mu outs else (outs.head?.map fun o => ⟨m, true, o⟩) :: outFr mu outs.tail
def spI (K : PySem.W.Frag) (mu : List Nat) (den : Den) : Sp := fun vs H Q _ => vs.length = mu.length ∧ ∃ (args : List PV) (F : Addr → Prop) (fp : FP) (v : PV) (m : Nat) (outs : List PV), den args = some (v, m, outs) ∧ FR K H F (argFr mu args) (vs.map some) fp ∧
  ∀ x H' fp' fo, FR K H' (plus F fo) (outFr mu outs) (vs.map some) fp' → StepD (List.range mu.length) H fp H' fp' → (∀ b ∈ fo, H b = none) → OR K H' F fp' ⟨v, m, [], false⟩ x fo → Q x H'

/-- as spI, for a def that may raise -/
def spX (K : PySem.W.Frag) (ca : Nat → Addr) (mu : List Nat) (den : Den) : Sp := fun vs H Q E => vs.length = mu.length ∧ ∃ (args : List PV) (F : Addr → Prop) (fp : FP) (v : PV) (m : Nat) (outs : List PV), den args = some (v, m, outs) ∧ FR K H F (argFr mu args) (vs.map some) fp ∧
  (∀ x H' fp' fo, FR K H' (plus F fo) (outFr mu outs) (vs.map some) fp' → StepD (List.range mu.length) H fp H' fp' → (∀ b ∈ fo, H b = none) → OR K H' F fp' ⟨v, m, [], false⟩ x fo → Q x H') ∧
  (∀ c ns ws, v = .exn c ns ws → ∀ H' fp' d, FR K H' (plus F []) (outFr mu outs) (vs.map some) fp' → StepD (List.range mu.length) H fp H' fp' → H d = none → ¬ Ow F fp' d → H' d = some (.xd (xdV ns ws)) → E (.ref (ca c)) (some d) H')

/-! ### the arguments -/
def mutAt : List Nat → IEs → Nat → Option Nat
  | m :: _, .cons a _, 0 => if m = 0 then none else match a with
    | .var i => some i
    | _ => none
  | _ :: mu, .cons _ as, k + 1 => mutAt mu as k
  | _, _, _ => none
def fpC (fp : FP) (mu : List Nat) (as : IEs) : FP := fun k => match mutAt mu as k with
  | some i => fp i
  | none => []
theorem isSlot_one {fr : Fr} {i : Nat} (h : isSlot fr [i] = true) : ∃ s, fr[i]? = some (some s) := by
  unfold isSlot at h
  dsimp only at h
  cases e : fr[i]? with
  | none => rw [e] at h; cases h
  | some o =>
    cases o with
    | none => rw [e] at h; cases h
    | some s => exact ⟨s, rfl⟩
theorem mutAt_zero {m : Nat} {mu : List Nat} {a : IE} {as : IEs} {i : Nat} (h : mutAt (m :: mu) (.cons a as) 0 = some i) : m ≠ 0 ∧ a = .var i := by
  unfold mutAt at h
  by_cases m0 : m = 0
  · rw [if_pos m0] at h; cases h
  · rw [if_neg m0] at h
    cases a <;> simp only at h <;> cases h
    exact ⟨m0, rfl⟩
theorem mutArgs_cons (m : Nat) (mu : List Nat) (a : IE) (as : IEs) : mutArgs (m :: mu) (.cons a as) = (if m = 0 then [] else varOf a) ++ mutArgs mu as := by rw [mutArgs]
theorem mutAt_mem : ∀ {mu : List Nat} {as : IEs} {k i : Nat}, mutAt mu as k = some i → i ∈ mutArgs mu as
  | [], as, k, i, h => by unfold mutAt at h; cases h
  | m :: mu, .nil, k, i, h => by unfold mutAt at h; cases h
  | m :: mu, .cons a as, 0, i, h => by
    obtain ⟨m0, rfl⟩ := mutAt_zero h
    rw [mutArgs_cons, if_neg m0]
    exact List.mem_cons_self
  | m :: mu, .cons a as, k + 1, i, h => by
    have h : mutAt mu as k = some i := h
    rw [mutArgs_cons]
    exact List.mem_append_right _ (mutAt_mem h)
theorem nodupB_cons {i : Nat} {is : List Nat} (h : nodupB (i :: is) = true) : i ∉ is ∧ nodupB is = true := by
  unfold nodupB at h
  rw [Bool.and_eq_true] at h
  exact ⟨by simpa using h.1, h.2⟩
theorem varOf_cases (a : IE) : varOf a = [] ∨ ∃ i, varOf a = [i] ∧ a = .var i := by
  cases a <;> first | exact .inl rfl | exact .inr ⟨_, rfl, rfl⟩
theorem nodup_tail {m : Nat} {mu : List Nat} {a : IE} {as : IEs} (h : nodupB (mutArgs (m :: mu) (.cons a as)) = true) : nodupB (mutArgs mu as) = true := by
  rw [mutArgs_cons] at h
  split at h
  · exact h
  · rcases varOf_cases a with e | ⟨i, e, _⟩
    · rw [e] at h; exact h
    · rw [e] at h; exact (nodupB_cons h).2
theorem nodup_head {m : Nat} {mu : List Nat} {as : IEs} {i : Nat} (m0 : m ≠ 0) (h : nodupB (mutArgs (m :: mu) (.cons (.var i) as)) = true) : i ∉ mutArgs mu as := by
  rw [mutArgs_cons, if_neg m0] at h
  exact (nodupB_cons h).1
theorem mutAt_inj : ∀ {mu : List Nat} {as : IEs} {k l i : Nat}, nodupB (mutArgs mu as) = true → mutAt mu as k = some i → mutAt mu as l = some i → k = l
  | [], as, k, l, i, _, h, _ => by unfold mutAt at h; cases h
  | m :: mu, .nil, k, l, i, _, h, _ => by unfold mutAt at h; cases h
  | m :: mu, .cons a as, 0, 0, i, _, _, _ => rfl
  | m :: mu, .cons a as, 0, l + 1, i, nd, h, h2 => by
    have h3 : mutAt mu as l = some i := h2
    obtain ⟨m0, rfl⟩ := mutAt_zero h
    exact absurd (mutAt_mem h3) (nodup_head m0 nd)
  | m :: mu, .cons a as, k + 1, 0, i, nd, h, h2 => by
    have h3 : mutAt mu as k = some i := h
    obtain ⟨m0, rfl⟩ := mutAt_zero h2
    exact absurd (mutAt_mem h3) (nodup_head m0 nd)
  | m :: mu, .cons a as, k + 1, l + 1, i, nd, h, h2 => by
    have := mutAt_inj (k := k) (l := l) (nodup_tail nd) h h2
    omega

section
variable {K : PySem.W.Frag} {M : Fam K} {G : GE} {H H' H1 H2 : Hp} {F O O' : Addr → Prop} {fr fr1 fr2 : Fr} {σ : L2.St} {fp fp1 fp2 : FP}
/-- the arguments behind their evaluation: those changed in place are names -/
def ORm (K : PySem.W.Frag) (H : Hp) (F : Addr → Prop) (fp : FP) (σ : L2.St) : List Nat → IEs → List Od → List V → List Addr → Prop
  | m :: mu, .cons a as, o :: os, xs, fo => ∃ x xs' f1 f2, xs = x :: xs' ∧ fo = f1 ++ f2 ∧ (if m = 0 then OR K H F fp o x f1 else f1 = [] ∧ ∃ i, a = .var i ∧ σ[i]? = some (some x)) ∧ ORm K H F fp σ mu as os xs' f2
  | [], .nil, [], xs, fo => xs = [] ∧ fo = []
  | _, _, _, _, _ => False
structure ExM (K : PySem.W.Frag) (H : Hp) (F : Addr → Prop) (σ : L2.St) (fr : Fr) (fp : FP) (D : List Nat) (H' : Hp) (fr' : Fr) (fp' : FP) (fo : List Addr) (mu : List Nat) (as : IEs) (os : List Od) (xs : List V) : Prop where
  hf : FR K H' (plus F fo) fr' σ fp'
  keep : ∀ i, i ∉ D → fr'[i]? = fr[i]? ∧ fp' i = fp i
  st : StepD D H fp H' fp'
  nw : ∀ b ∈ fo, H b = none
  od : ORm K H' F fp' σ mu as os xs fo
theorem ORm.monoF (hF : ∀ a, F' a → F a) : ∀ {mu : List Nat} {as : IEs} {os : List Od} {xs : List V} {fo : List Addr}, ORm K H F fp σ mu as os xs fo → ORm K H F' fp σ mu as os xs fo
  | [], .nil, [], _, _, h => h
  | [], .nil, _ :: _, _, _, h => h
  | [], .cons _ _, _, _, _, h => by unfold ORm at h; exact h.elim
  | _ :: _, .nil, _, _, _, h => by unfold ORm at h; exact h.elim
  | _ :: _, .cons _ _, [], _, _, h => by unfold ORm at h; exact h.elim
  | m :: mu, .cons a as, o :: os, xs, fo, h => by
    obtain ⟨x, xs', f1, f2, e, ef, r, q⟩ := h
    refine ⟨x, xs', f1, f2, e, ef, ?_, q.monoF hF⟩
    by_cases m0 : m = 0
    · rw [if_pos m0] at r ⊢; exact r.monoF hF
    · rw [if_neg m0] at r ⊢; exact r
theorem ORm.length : ∀ {mu : List Nat} {as : IEs} {os : List Od} {xs : List V} {fo : List Addr}, ORm K H F fp σ mu as os xs fo → xs.length = mu.length
  | [], .nil, [], _, _, h => by rw [h.1]; rfl
  | [], .nil, _ :: _, _, _, h => by unfold ORm at h; exact h.elim
  | [], .cons _ _, _, _, _, h => by unfold ORm at h; exact h.elim
  | _ :: _, .nil, _, _, _, h => by unfold ORm at h; exact h.elim
  | _ :: _, .cons _ _, [], _, _, h => by unfold ORm at h; exact h.elim
  | m :: mu, .cons a as, o :: os, xs, fo, h => by
    obtain ⟨x, xs', f1, f2, e, ef, r, q⟩ := h
    rw [e, List.length_cons, List.length_cons, q.length]
/-- written arguments -/
structure SndM {K : PySem.W.Frag} (M : Fam K) (G : GE) (mu : List Nat) (es : List Expr) (ies : IEs) : Prop where
  pa : ∃ t, PAu M es t ∧ ∀ fr σ H F fp fr' os, FR K H F fr σ fp → evLm G mu ies fr = some (fr', os) → ∀ Q : List V → Hp → Prop, (∀ xs H' fp' fo, ExM K H F σ fr fp (mutdL ies) H' fr' fp' fo mu ies os xs → Q xs H') → t σ H Q
  star : Staru M es
theorem sndM_nil : SndM M G [] [] .nil := ⟨⟨_, pa_nilU, fun fr σ H F fp fr' os g e Q q => by
    rw [evLm] at e
    cases e
    exact q [] H fp [] ⟨g.plusNil, fun _ _ => ⟨rfl, rfl⟩, .refl _ _ _, (fun _ z => nomatch z), rfl, rfl⟩⟩, fun _ _ _ => rfl⟩
theorem evLm_cons (m : Nat) (mu : List Nat) (a : IE) (as : IEs) (fr : Fr) : evLm G (m :: mu) (.cons a as) fr = if m = 0 then (evE G a fr).bind fun (fr1, o) => if disj o.al (mutdL as) = true then (evLm G mu as fr1).bind fun (fr2, os) => some (fr2, o :: os) else none
    else if (isSlot fr (varOf a)) = true then (evLm G mu as fr).bind fun (fr2, os) => some (fr2, ⟨.non, 0, [], false⟩ :: os) else none := by rw [evLm]
theorem sndM_cons {m : Nat} {mu : List Nat} {e : Expr} {es : List Expr} {ie : IE} {ies : IEs} (ns : NoStaru M e) (h : Snd M G e ie) (hs : SndM M G mu es ies) : SndM M G (m :: mu) (e :: es) (.cons ie ies) := by
  obtain ⟨tl, pl, sl⟩ := hs.pa
  have star : Staru M (e :: es) := fun X hX pos => by
    rw [ns X hX]
    show (false || (backTo pos (starEach es X.env)).any (·.1)) = false
    rw [hs.star X hX]
    rfl
  by_cases m0 : m = 0
  · obtain ⟨t, pe, s⟩ := h.pe
    refine ⟨⟨_, pa_consU pe pl ns, fun fr σ H F fp fr' os g e Q q => ?_⟩, star⟩
    rw [evLm_cons, if_pos m0] at e
    cases ea : evE G ie fr with
    | none => rw [ea] at e; cases e
    | some pr =>
      obtain ⟨fr1, o⟩ := pr
      rw [ea] at e
      simp only [Option.bind_some] at e
      split at e
      · rename_i dj
        cases el : evLm G mu ies fr1 with
        | none => rw [el] at e; cases e
        | some pr =>
          obtain ⟨fr2, os2⟩ := pr
          rw [el] at e
          cases e
          refine s fr σ H F fp fr1 o g ea _ fun x H1 fp1 fo ex => ?_
          refine sl fr1 σ H1 (plus F fo) fp1 _ _ ex.hf el _ fun xs H2 fp2 f2 ey => ?_
          refine q _ H2 fp2 (fo ++ f2) ⟨ey.hf.congrF fun a => plus_app, fun i hi => ?_, ?_, fun b hb => ?_, ?_⟩
          · rw [mutdL] at hi
            have h1 := ex.keep i fun z => hi (List.mem_append_left _ z)
            have h2 := ey.keep i fun z => hi (List.mem_append_right _ z)
            exact ⟨h2.1.trans h1.1, h2.2.trans h1.2⟩
          · rw [mutdL]
            exact (ex.st.mono fun i z => List.mem_append_left _ z).trans (ey.st.mono fun i z => List.mem_append_right _ z)
          · exact (List.mem_append.mp hb).elim (ex.nw b) fun z => ex.st.old (ey.nw b z)
          · refine ⟨x, xs, fo, f2, rfl, rfl, ?_, ey.od.monoF fun a z => .inl z⟩
            rw [if_pos m0]
            exact ex.od.later ex.hf (fun i hi => (ey.keep i hi).2) ey.st dj
      · cases e
  · by_cases hv : ∃ i, ie = .var i
    · obtain ⟨i, rfl⟩ := hv
      refine ⟨⟨_, pa_consU (h.vr i rfl) pl ns, fun fr σ H F fp fr' os g e Q q => ?_⟩, star⟩
      rw [evLm_cons, if_neg m0] at e
      split at e
      · rename_i hsl
        obtain ⟨s, es⟩ := isSlot_one (show isSlot fr [i] = true from hsl)
        cases el : evLm G mu ies fr with
        | none => rw [el] at e; cases e
        | some pr =>
          obtain ⟨fr2, os2⟩ := pr
          rw [el] at e
          cases e
          obtain ⟨x, ex, _⟩ := g.slot i s es
          refine ⟨x, ex, ?_⟩
          refine sl fr σ H F fp _ _ g el _ fun xs H2 fp2 f2 ey => ?_
          refine q _ H2 fp2 f2 ⟨ey.hf, fun j hj => ?_, ?_, ey.nw, ?_⟩
          · rw [mutdL, mutd] at hj
            exact ey.keep j fun z => hj z
          · rw [mutdL, mutd]
            exact ey.st
          · refine ⟨x, xs, [], f2, rfl, rfl, ?_, ey.od⟩
            rw [if_neg m0]
            exact ⟨rfl, i, rfl, ex⟩
      · cases e
    · obtain ⟨t, pe, s⟩ := h.pe
      refine ⟨⟨_, pa_consU pe pl ns, fun fr σ H F fp fr' os g e Q q => ?_⟩, star⟩
      rw [evLm_cons, if_neg m0] at e
      have : isSlot fr (varOf ie) = false := by
        rcases varOf_cases ie with e1 | ⟨i, _, e1⟩
        · rw [e1]; rfl
        · exact absurd ⟨i, e1⟩ hv
      rw [this, if_neg Bool.false_ne_true] at e
      cases e

/-! ### the frame that the callee sees -/
theorem alM_cons (m : Nat) (mu : List Nat) (o : Od) (os : List Od) : alM (m :: mu) (o :: os) = if m = 0 then o.al ++ alM mu os else alM mu os := by rw [alM]
theorem fillM_cons (m : Nat) (mu : List Nat) (a : IE) (as : IEs) (o : Od) (os : List Od) (fr : Fr) : fillM (m :: mu) (.cons a as) (o :: os) fr = (fillM mu as os fr).bind fun vs => if m = 0 then some (o.v :: vs) else match a with
    | .var i => match fr[i]? with
      | some (some s) => if s.m = m then some (s.v :: vs) else none
      | _ => none
    | _ => none := by rw [fillM] <;> rfl
/-- what each argument is, by its place -/
theorem callee_slot {F1 : Addr → Prop} (gs : ∀ i s, fr1[i]? = some (some s) → ∃ x, σ[i]? = some (some x) ∧ RM K H1 F1 s.m s.v x (fp1 i)) (fp0 : FP) : ∀ {mu : List Nat} {as : IEs} {os : List Od} {xs : List V} {fo : List Addr} {args : List PV},
    ORm K H1 F fp0 σ mu as os xs fo → fillM mu as os fr1 = some args → args.length = mu.length ∧ ∀ k s, (argFr mu args)[k]? = some (some s) → ∃ x, xs[k]? = some x ∧
      ((s.m = 0 ∧ mutAt mu as k = none ∧ s.pin = false ∧ ∃ o f, (∀ i ∈ o.al, i ∈ alM mu os) ∧ o.v = s.v ∧ OR K H1 F fp0 o x f) ∨ ∃ i s1, mutAt mu as k = some i ∧ fr1[i]? = some (some s1) ∧ s1.m = s.m ∧ s1.v = s.v ∧ s.m ≠ 0 ∧ s.pin = true ∧ σ[i]? = some (some x))
  | [], .nil, [], xs, fo, args, h, e => by
    rw [fillM] at e
    cases e
    exact ⟨rfl, fun k s z => by simp [argFr] at z⟩
  | [], .nil, _ :: _, _, _, _, h, _ => by unfold ORm at h; exact h.elim
  | [], .cons _ _, _, _, _, _, h, _ => by unfold ORm at h; exact h.elim
  | _ :: _, .nil, _, _, _, _, h, _ => by unfold ORm at h; exact h.elim
  | _ :: _, .cons _ _, [], _, _, _, h, _ => by unfold ORm at h; exact h.elim
  | m :: mu, .cons a as, o :: os, xs, fo, args, h, e => by
    obtain ⟨x, xs', f1, f2, rfl, ef, r, q⟩ := h
    rw [fillM_cons] at e
    cases e2 : fillM mu as os fr1 with
    | none => rw [e2] at e; cases e
    | some vs =>
      rw [e2] at e
      simp only [Option.bind_some] at e
      obtain ⟨hl, ih⟩ := callee_slot gs fp0 q e2
      by_cases m0 : m = 0
      · rw [if_pos m0] at e r
        cases e
        refine ⟨by rw [List.length_cons, List.length_cons, hl], fun k s z => ?_⟩
        cases k with
        | zero =>
          have z : (some (some (⟨m, m != 0, o.v⟩ : Sl))) = some (some s) := z
          cases z
          subst m0
          exact ⟨x, rfl, .inl ⟨rfl, rfl, rfl, o, f1, fun i hi => by rw [alM_cons, if_pos rfl]; exact List.mem_append_left _ hi, rfl, r⟩⟩
        | succ k =>
          obtain ⟨y, ey, c⟩ := ih k s z
          refine ⟨y, ey, ?_⟩
          rcases c with ⟨c1, c2, c3, o', f, c4, c5, c6⟩ | c
          · exact .inl ⟨c1, c2, c3, o', f, fun i hi => by rw [alM_cons, if_pos m0]; exact List.mem_append_right _ (c4 i hi), c5, c6⟩
          · exact .inr c
      · rw [if_neg m0] at e r
        obtain ⟨_, i, rfl, ei⟩ := r
        simp only at e
        cases e3 : fr1[i]? with
        | none => rw [e3] at e; cases e
        | some o3 =>
          cases o3 with
          | none => rw [e3] at e; cases e
          | some s1 =>
            rw [e3] at e
            simp only at e
            split at e <;> cases e
            rename_i hm
            refine ⟨by rw [List.length_cons, List.length_cons, hl], fun k s z => ?_⟩
            cases k with
            | zero =>
              have z : (some (some (⟨m, m != 0, s1.v⟩ : Sl))) = some (some s) := z
              cases z
              refine ⟨x, rfl, .inr ⟨i, s1, ?_, e3, hm, rfl, m0, ?_, ei⟩⟩
              · unfold mutAt; rw [if_neg m0]
              · simpa using m0
            | succ k =>
              obtain ⟨y, ey, c⟩ := ih k s z
              refine ⟨y, ey, ?_⟩
              rcases c with ⟨c1, c2, c3, o', f, c4, c5, c6⟩ | c
              · exact .inl ⟨c1, c2, c3, o', f, fun i hi => by rw [alM_cons, if_neg m0]; exact c4 i hi, c5, c6⟩
              · exact .inr c
theorem argFr_length : ∀ {mu : List Nat} {args : List PV}, args.length = mu.length → (argFr mu args).length = mu.length
  | [], [], _ => rfl
  | [], _ :: _, h => nomatch h
  | _ :: _, [], h => nomatch h
  | m :: mu, v :: vs, h => by
    rw [argFr, List.length_cons, List.length_cons, argFr_length (by simpa using h)]
theorem argFr_some : ∀ {mu : List Nat} {args : List PV} {k : Nat}, args.length = mu.length → k < mu.length → ∃ s, (argFr mu args)[k]? = some (some s)
  | [], _, _, _, h => nomatch h
  | _ :: _, [], _, h, _ => nomatch h
  | m :: mu, v :: vs, 0, _, _ => ⟨_, rfl⟩
  | m :: mu, v :: vs, k + 1, h, hk => argFr_some (k := k) (by simpa using h) (by simpa using hk)
theorem mutAt_lt : ∀ {mu : List Nat} {as : IEs} {k i : Nat}, mutAt mu as k = some i → k < mu.length
  | [], as, k, i, h => by unfold mutAt at h; cases h
  | m :: mu, .nil, k, i, h => by unfold mutAt at h; cases h
  | m :: mu, .cons a as, 0, i, h => by simp
  | m :: mu, .cons a as, k + 1, i, h => by
    have h3 : mutAt mu as k = some i := h
    have := mutAt_lt h3
    simpa using this
theorem fpC_mem {fp : FP} {mu : List Nat} {as : IEs} {k : Nat} {a : Addr} (h : a ∈ fpC fp mu as k) : ∃ i, mutAt mu as k = some i ∧ a ∈ fp i := by
  unfold fpC at h
  cases e : mutAt mu as k with
  | none => rw [e] at h; cases h
  | some i => rw [e] at h; exact ⟨i, rfl, h⟩
theorem fpC_some {fp : FP} {mu : List Nat} {as : IEs} {k i : Nat} (h : mutAt mu as k = some i) : fpC fp mu as k = fp i := by unfold fpC; rw [h]
theorem fpC_none {fp : FP} {mu : List Nat} {as : IEs} {k : Nat} (h : mutAt mu as k = none) : fpC fp mu as k = [] := by unfold fpC; rw [h]
/-- what the callee is to leave alone -/
def Fcal (F : Addr → Prop) (fp : FP) (al mt : List Nat) (a : Addr) : Prop := F a ∨ ∃ i, a ∈ fp i ∧ i ∉ al ∧ i ∉ mt
theorem callee_FR {mu : List Nat} {as : IEs} {os : List Od} {xs : List V} {fo : List Addr} {args : List PV} (g : FR K H1 (plus F fo) fr1 σ fp1) (od : ORm K H1 F fp1 σ mu as os xs fo) (e : fillM mu as os fr1 = some args)
    (nd : nodupB (mutArgs mu as) = true) (dj : disj (alM mu os) (mutArgs mu as) = true) : FR K H1 (Fcal F fp1 (alM mu os) (mutArgs mu as)) (argFr mu args) (xs.map some) (fpC fp1 mu as) := by
  obtain ⟨hl, hs⟩ := callee_slot (F1 := Ow (plus F fo) fp1) g.slot fp1 od e
  have hx := od.length
  refine ⟨by rw [List.length_map, argFr_length hl, hx], fun k s ek => ?_, fun k hk => ?_, fun k => ?_, fun k l a ha hb => ?_, fun a ha => ?_⟩
  · obtain ⟨x, ex, c⟩ := hs k s ek
    refine ⟨x, by rw [List.getElem?_map, ex]; rfl, ?_⟩
    rcases c with ⟨c1, c2, c3, o, f, c4, c5, c6⟩ | ⟨i, s1, c1, c2, c3, c4, c5, c6, c7⟩
    · rw [fpC_none c2, c1, RM.zero]
      refine ⟨rfl, ?_⟩
      rw [← c5]
      refine c6.r.mono fun a z => ?_
      rcases z with (z | ⟨i, z, n1, n2⟩) | ⟨l, z⟩
      · exact .inl z
      · exact .inr ⟨i, z, fun q => n1 (c4 i q)⟩
      · obtain ⟨i, ei, z⟩ := fpC_mem z
        exact .inr ⟨i, z, fun q => mem_disj dj (c4 i q) (mutAt_mem ei)⟩
    · obtain ⟨x', ex', r⟩ := g.slot i s1 c2
      rw [c7] at ex'
      cases ex'
      rw [fpC_some c1, ← c3, ← c4]
      refine r.mono fun a z => ?_
      rcases z with (z | ⟨i, z, n1, n2⟩) | ⟨l, z⟩
      · exact .inl (.inl z)
      · exact .inr ⟨i, z⟩
      · obtain ⟨i, ei, z⟩ := fpC_mem z
        exact .inr ⟨i, z⟩
  · by_cases hk' : k < mu.length
    · obtain ⟨s, es⟩ := argFr_some hl hk'
      exact absurd es (hk s)
    · cases em : mutAt mu as k with
      | none => exact fpC_none em
      | some i => exact absurd (mutAt_lt em) hk'
  · cases em : mutAt mu as k with
    | none => rw [fpC_none em]; exact .nil
    | some i => rw [fpC_some em]; exact g.nd i
  · obtain ⟨i, ei, ha⟩ := fpC_mem ha
    obtain ⟨j, ej, hb⟩ := fpC_mem hb
    have := g.disj i j a ha hb
    subst this
    exact mutAt_inj nd ei ej
  · rcases ha with ha | ⟨i, ha, n1, n2⟩
    · refine ⟨(g.amb a (.inl ha)).1, fun k hk => ?_⟩
      obtain ⟨i, ei, hk⟩ := fpC_mem hk
      exact (g.amb a (.inl ha)).2 i hk
    · refine ⟨g.tracked ha, fun k hk => ?_⟩
      obtain ⟨j, ej, hk⟩ := fpC_mem hk
      rw [g.disj i j a ha hk] at n2
      exact n2 (mutAt_mem ej)

/-! ### flat values do not mind what is kept apart -/
def NoTup (H : Hp) (a : Addr) : Prop := ∀ u, Rd H a u → ∀ ys, u ≠ .tup ys
theorem TupAt.wide {a : Addr} {ys : List V} (h : TupAt K H O a ys) (hO : ∀ a, O' a → O a ∨ NoTup H a) : TupAt K H O' a ys := by
  rcases h with ⟨r, n⟩ | h
  · refine .inl ⟨r, fun z => ?_⟩
    rcases hO a z with z | z
    · exact n z
    · exact z _ r ys rfl
  · exact .inr h
mutual
theorem R.wide (hO : ∀ a, O' a → O a ∨ NoTup H a) : ∀ (v : PV) (x : V), flat v = true → R K H O v x → R K H O' v x
  | .non, x, _, h => h
  | .bl _, x, _, h => h
  | .int _, x, _, h => h
  | .str _, x, _, h => h
  | .ty _, x, _, h => h
  | .tup vs, x, f, h => by
    obtain ⟨a, ys, e, t, r⟩ := h
    exact ⟨a, ys, e, t.wide hO, Rs.wide hO vs ys f r⟩
  | .lst _, x, f, h => nomatch f
  | .dk _ _, x, f, h => nomatch f
  | .dt _ _, x, f, h => nomatch f
  | .scr _, x, f, h => nomatch f
  | .exn _ _ _, x, f, h => h.elim
  | .exr _ _ _ _ _, x, f, h => nomatch f
theorem Rs.wide (hO : ∀ a, O' a → O a ∨ NoTup H a) : ∀ (v : List PV) (x : List V), flats v = true → Rs K H O v x → Rs K H O' v x
  | [], x, _, h => h
  | v :: vs, x, f, h => by
    obtain ⟨y, ys, e, r, q⟩ := h
    rw [flats, Bool.and_eq_true] at f
    exact ⟨y, ys, e, R.wide hO v y f.1 r, Rs.wide hO vs ys f.2 q⟩
end
theorem flatM_zero : ∀ v : PV, flatM 0 v = true → flat v = true
  | .non, _ => rfl
  | .bl _, _ => rfl
  | .int _, _ => rfl
  | .str _, _ => rfl
  | .ty _, _ => rfl
  | .tup vs, h => go vs h
  | .lst _, h => nomatch h
  | .dk _ _, h => nomatch h
  | .dt _ _, h => nomatch h
  | .scr _, h => nomatch h
  | .exn _ _ _, _ => rfl
  | .exr _ _ _ _ _, h => nomatch h
where go : ∀ vs : List PV, flatMs 0 vs = true → flats vs = true
  | [], _ => rfl
  | v :: vs, h => by
    rw [flatMs, Bool.and_eq_true] at h
    rw [flats, flatM_zero v h.1, go vs h.2]
    rfl
mutual
theorem RM.wide (hO : ∀ a, O' a → O a ∨ NoTup H a) : ∀ (n : Nat) (v : PV) (x : V) (f : List Addr), flatM n v = true → RM K H O n v x f → RM K H O' n v x f
  | 0, v, x, f, hf, h => by
    rw [RM.zero] at h ⊢
    exact ⟨h.1, R.wide hO v x (flatM_zero v hf) h.2⟩
  | n + 1, .non, x, f, _, h => h
  | n + 1, .bl _, x, f, _, h => h
  | n + 1, .int _, x, f, _, h => h
  | n + 1, .str _, x, f, _, h => h
  | n + 1, .ty _, x, f, _, h => h
  | n + 1, .scr _, x, f, hf, h => by simp [flatM] at hf
  | n + 1, .exn _ _ _, x, f, hf, h => h.elim
  | n + 1, .exr _ _ _ _ _, x, f, hf, h => by simp [flatM] at hf
  | n + 1, .tup vs, x, f, hf, h => by
    obtain ⟨a, ys, e, t, r⟩ := h
    exact ⟨a, ys, e, t.wide hO, RMs.wide hO (n + 1) vs ys f hf r⟩
  | n + 1, .lst vs, x, f, hf, h => by
    obtain ⟨a, ys, fs, e, t, ef, r⟩ := h
    exact ⟨a, ys, fs, e, t, ef, RMs.wide hO n vs ys fs hf r⟩
  | n + 1, .dk ks vs, x, f, hf, h => by
    obtain ⟨a, ys, fs, e, t, l, ef, r⟩ := h
    exact ⟨a, ys, fs, e, t, l, ef, RMs.wide hO n vs ys fs hf r⟩
  | n + 1, .dt ks vs, x, f, hf, h => by
    obtain ⟨a, ys, fs, e, t, l, ef, r⟩ := h
    exact ⟨a, ys, fs, e, t, l, ef, RMs.wide hO n vs ys fs hf r⟩
theorem RMs.wide (hO : ∀ a, O' a → O a ∨ NoTup H a) : ∀ (n : Nat) (v : List PV) (x : List V) (f : List Addr), flatMs n v = true → RMs K H O n v x f → RMs K H O' n v x f
  | n, [], x, f, _, h => h
  | n, v :: vs, x, f, hf, h => by
    obtain ⟨y, ys, f1, f2, e, ef, r, q⟩ := h
    rw [flatMs, Bool.and_eq_true] at hf
    exact ⟨y, ys, f1, f2, e, ef, RM.wide hO n v y f1 hf.1 r, RMs.wide hO n vs ys f2 hf.2 q⟩
end
mutual
/-- what is owned is no tuple -/
theorem RM.noTup : ∀ (n : Nat) (v : PV) (x : V) (f : List Addr), RM K H O n v x f → ∀ b ∈ f, NoTup H b
  | 0, v, x, f, h, b, hb => by rw [RM.zero] at h; rw [h.1] at hb; cases hb
  | n + 1, .non, x, f, h, b, hb => by rw [h.1] at hb; cases hb
  | n + 1, .bl _, x, f, h, b, hb => by rw [h.1] at hb; cases hb
  | n + 1, .int _, x, f, h, b, hb => by rw [h.1] at hb; cases hb
  | n + 1, .str _, x, f, h, b, hb => by rw [h.1] at hb; cases hb
  | n + 1, .ty _, x, f, h, b, hb => by rw [h.1] at hb; cases hb
  | n + 1, .scr _, x, f, h, b, hb => by rw [h.1] at hb; cases hb
  | n + 1, .exn _ _ _, x, f, h, b, hb => h.elim
  | n + 1, .exr _ _ _ _ _, x, f, h, b, hb => by rw [h.1] at hb; cases hb
  | n + 1, .tup vs, x, f, h, b, hb => by
    obtain ⟨a, ys, e, t, r⟩ := h
    exact RMs.noTup (n + 1) vs ys f r b hb
  | n + 1, .lst vs, x, f, h, b, hb => by
    obtain ⟨a, ys, fs, e, t, ef, r⟩ := h
    subst ef
    rcases List.mem_cons.mp hb with rfl | hb
    · intro u ru ys' eu
      subst eu
      rcases ru with ru | ⟨o, ru⟩ <;> (rw [t] at ru; cases ru)
    · exact RMs.noTup n vs ys fs r b hb
  | n + 1, .dk ks vs, x, f, h, b, hb => by
    obtain ⟨a, ys, fs, e, t, l, ef, r⟩ := h
    subst ef
    rcases List.mem_cons.mp hb with rfl | hb
    · intro u ru ys' eu
      subst eu
      rcases ru with ru | ⟨o, ru⟩ <;> (rw [t] at ru; cases ru)
    · exact RMs.noTup n vs ys fs r b hb
  | n + 1, .dt ks vs, x, f, h, b, hb => by
    obtain ⟨a, ys, fs, e, t, l, ef, r⟩ := h
    subst ef
    rcases List.mem_cons.mp hb with rfl | hb
    · intro u ru ys' eu
      subst eu
      rcases ru with ru | ⟨o, ru⟩ <;> (rw [t] at ru; cases ru)
    · exact RMs.noTup n vs ys fs r b hb
theorem RMs.noTup : ∀ (n : Nat) (v : List PV) (x : List V) (f : List Addr), RMs K H O n v x f → ∀ b ∈ f, NoTup H b
  | n, [], x, f, h, b, hb => by rw [h.2] at hb; cases hb
  | n, v :: vs, x, f, h, b, hb => by
    obtain ⟨y, ys, f1, f2, e, ef, r, q⟩ := h
    subst ef
    rcases List.mem_append.mp hb with hb | hb
    · exact RM.noTup n v y f1 r b hb
    · exact RMs.noTup n vs ys f2 q b hb
end
theorem FR.noTup (h : FR K H F fr σ fp) {i : Nat} {a : Addr} (ha : a ∈ fp i) : NoTup H a := by
  by_cases q : ∃ s, fr[i]? = some (some s)
  · obtain ⟨s, e⟩ := q
    obtain ⟨x, _, r⟩ := h.slot i s e
    exact RM.noTup _ _ _ _ r a ha
  · rw [h.emp i fun s e => q ⟨s, e⟩] at ha
    cases ha

/-! ### what the caller's slots are behind the call -/
/-- the place of slot i among the arguments that are changed -/
def kOf : List Nat → IEs → Nat → Option Nat
  | m :: mu, .cons a as, i => if m ≠ 0 ∧ i ∈ varOf a then some 0 else (kOf mu as i).map (· + 1)
  | _, _, _ => none
theorem kOf_some : ∀ {mu : List Nat} {as : IEs} {i k : Nat}, kOf mu as i = some k → mutAt mu as k = some i
  | [], _, _, _, h => by unfold kOf at h; cases h
  | _ :: _, .nil, _, _, h => by unfold kOf at h; cases h
  | m :: mu, .cons a as, i, k, h => by
    unfold kOf at h
    split at h
    · rename_i hc
      cases h
      rcases varOf_cases a with e | ⟨j, e, rfl⟩
      · rw [e] at hc; exact absurd hc.2 (by simp)
      · have : i = j := by simpa [e] using hc.2
        subst this
        unfold mutAt
        rw [if_neg hc.1]
    · cases e2 : kOf mu as i with
      | none => rw [e2] at h; cases h
      | some k' =>
        rw [e2] at h
        cases h
        have := kOf_some e2
        exact this
theorem kOf_of : ∀ {mu : List Nat} {as : IEs} {i : Nat}, i ∈ mutArgs mu as → ∃ k, kOf mu as i = some k
  | [], _, _, h => by unfold mutArgs at h; cases h
  | _ :: _, .nil, _, h => by unfold mutArgs at h; cases h
  | m :: mu, .cons a as, i, h => by
    unfold kOf
    by_cases hc : m ≠ 0 ∧ i ∈ varOf a
    · rw [if_pos hc]; exact ⟨0, rfl⟩
    · rw [if_neg hc]
      rw [mutArgs_cons] at h
      rcases List.mem_append.mp h with h | h
      · split at h
        · cases h
        · rename_i m0
          exact absurd ⟨m0, h⟩ hc
      · obtain ⟨k, e⟩ := kOf_of h
        exact ⟨k + 1, by rw [e]; rfl⟩
def fpB (fp fpc : FP) (mu : List Nat) (as : IEs) : FP := fun i => match kOf mu as i with
  | some k => fpc k
  | none => fp i
theorem kOf_none {mu : List Nat} {as : IEs} {i : Nat} (h : i ∉ mutArgs mu as) : kOf mu as i = none := by
  cases e : kOf mu as i with
  | none => rfl
  | some k => exact absurd (mutAt_mem (kOf_some e)) h
theorem fpB_not {fp fpc : FP} {mu : List Nat} {as : IEs} {i : Nat} (h : i ∉ mutArgs mu as) : fpB fp fpc mu as i = fp i := by unfold fpB; rw [kOf_none h]
theorem fpB_mem {fp fpc : FP} {mu : List Nat} {as : IEs} {i : Nat} {a : Addr} (h : a ∈ fpB fp fpc mu as i) : (∃ k, mutAt mu as k = some i ∧ a ∈ fpc k) ∨ (i ∉ mutArgs mu as ∧ a ∈ fp i) := by
  unfold fpB at h
  cases e : kOf mu as i with
  | none =>
    rw [e] at h
    refine .inr ⟨fun z => ?_, h⟩
    obtain ⟨k, ek⟩ := kOf_of z
    rw [e] at ek; cases ek
  | some k => rw [e] at h; exact .inl ⟨k, kOf_some e, h⟩
theorem fpB_at {fp fpc : FP} {mu : List Nat} {as : IEs} {i k : Nat} (nd : nodupB (mutArgs mu as) = true) (h : mutAt mu as k = some i) : fpB fp fpc mu as i = fpc k := by
  obtain ⟨k', ek⟩ := kOf_of (mutAt_mem h)
  have := mutAt_inj nd (kOf_some ek) h
  subst this
  unfold fpB
  rw [ek]
/-- putting the changed values back -/
theorem putM_get : ∀ {is : List Nat} {vs : List PV} {fr fr' : Fr}, putM is vs fr = some fr' → fr'.length = fr.length ∧ ∀ i, (i ∉ is → fr'[i]? = fr[i]?) ∧ (∀ s, fr[i]? = some (some s) → ∃ v, fr'[i]? = some (some ⟨s.m, s.pin, v⟩)) ∧ ((∀ s, fr[i]? ≠ some (some s)) → ∀ s, fr'[i]? ≠ some (some s))
  | [], [], fr, fr', h => by
    rw [putM] at h
    cases h
    exact ⟨rfl, fun i => ⟨fun _ => rfl, fun s e => ⟨s.v, e⟩, fun h => h⟩⟩
  | [], _ :: _, _, _, h => by unfold putM at h; cases h
  | _ :: _, [], _, _, h => by unfold putM at h; cases h
  | j :: is, v :: vs, fr, fr', h => by
    rw [putM] at h
    split at h
    · rename_i s es
      obtain ⟨hl, hh⟩ := putM_get h
      rw [List.length_set] at hl
      refine ⟨hl, fun i => ?_⟩
      obtain ⟨h1, h2, h3⟩ := hh i
      have hj : j < fr.length := by
        by_cases q : j < fr.length
        · exact q
        · rw [List.getElem?_eq_none (by omega)] at es; cases es
      refine ⟨fun hi => ?_, fun s' e => ?_, fun hn => ?_⟩
      · rw [h1 fun z => hi (List.mem_cons_of_mem _ z), List.getElem?_set_ne fun z => hi (by rw [z]; exact List.mem_cons_self)]
      · by_cases q : j = i
        · subst q
          rw [es] at e
          cases e
          exact h2 ⟨s.m, s.pin, v⟩ (List.getElem?_set_self hj)
        · exact h2 s' (by rw [List.getElem?_set_ne q]; exact e)
      · refine h3 fun s' e => ?_
        by_cases q : j = i
        · subst q; exact hn _ es
        · rw [List.getElem?_set_ne q] at e; exact hn s' e
    · cases h
theorem outFr_cons (m : Nat) (mu : List Nat) (outs : List PV) : outFr (m :: mu) outs = if m = 0 then none :: outFr mu outs else (outs.head?.map fun o => ⟨m, true, o⟩) :: outFr mu outs.tail := by rw [outFr]
theorem put_out : ∀ {mu : List Nat} {as : IEs} {outs : List PV} {fr fr' fr0 : Fr} {os : List Od} {args : List PV}, nodupB (mutArgs mu as) = true → fillM mu as os fr0 = some args → putM (mutArgs mu as) outs fr = some fr' →
    ∀ k so, (outFr mu outs)[k]? = some (some so) → ∃ i s0, mutAt mu as k = some i ∧ fr0[i]? = some (some s0) ∧ s0.m = so.m ∧ (∀ s, fr[i]? = some (some s) → fr'[i]? = some (some ⟨s.m, s.pin, so.v⟩))
  | [], as, outs, fr, fr', fr0, os, args, nd, ef, ep, k, so, h => by rw [outFr] at h; cases h
  | m :: mu, .nil, outs, fr, fr', fr0, os, args, nd, ef, ep, k, so, h => by unfold fillM at ef; cases ef
  | m :: mu, .cons a as, outs, fr, fr', fr0, [], args, nd, ef, ep, k, so, h => by unfold fillM at ef; cases ef
  | m :: mu, .cons a as, outs, fr, fr', fr0, o :: os, args, nd, ef, ep, k, so, h => by
    rw [fillM_cons] at ef
    cases e2 : fillM mu as os fr0 with
    | none => rw [e2] at ef; cases ef
    | some vs =>
      rw [e2] at ef
      simp only [Option.bind_some] at ef
      rw [outFr_cons] at h
      by_cases m0 : m = 0
      · rw [if_pos m0] at h
        rw [mutArgs_cons, if_pos m0, List.nil_append] at ep
        cases k with
        | zero => cases h
        | succ k =>
          have h : (outFr mu outs)[k]? = some (some so) := h
          obtain ⟨i, s0, c⟩ := put_out (nodup_tail nd) e2 ep k so h
          exact ⟨i, s0, c⟩
      · rw [if_neg m0] at h ef
        rcases varOf_cases a with e3 | ⟨i, e3, rfl⟩
        · cases a <;> first | (simp [varOf] at e3; done) | cases ef
        · have hn := nodup_head m0 nd
          rw [mutArgs_cons, if_neg m0, e3] at ep
          simp only at ef
          split at ef
          rotate_left
          · cases ef
          rename_i s0 es0
          split at ef
          rotate_left
          · cases ef
          rename_i hm
          cases outs with
          | nil => unfold putM at ep; cases ep
          | cons o1 outs =>
            have ep : putM (i :: mutArgs mu as) (o1 :: outs) fr = some fr' := ep
            rw [putM] at ep
            split at ep
            rotate_left
            · cases ep
            rename_i s es
            cases k with
            | zero =>
              have h : (some (some (⟨m, true, o1⟩ : Sl))) = some (some so) := h
              cases h
              refine ⟨i, s0, ?_, es0, hm, fun s' es' => ?_⟩
              · unfold mutAt; rw [if_neg m0]
              · rw [es] at es'
                cases es'
                obtain ⟨_, hh⟩ := putM_get ep
                rw [(hh i).1 hn]
                refine List.getElem?_set_self ?_
                by_cases q : i < fr.length
                · exact q
                · rw [List.getElem?_eq_none (by omega)] at es; cases es
            | succ k =>
              have h : (outFr mu outs)[k]? = some (some so) := h
              obtain ⟨j, s1, c1, c2, c3, c4⟩ := put_out (nodup_tail nd) e2 ep k so h
              refine ⟨j, s1, c1, c2, c3, fun s' es' => c4 s' ?_⟩
              have : i ≠ j := fun z => hn (by rw [z]; exact mutAt_mem c1)
              rw [List.getElem?_set_ne this]
              exact es'
/-- the reverse: a place that is changed has an answer -/
theorem out_some : ∀ {mu : List Nat} {as : IEs} {outs : List PV} {fr fr' fr0 : Fr} {os : List Od} {args : List PV}, nodupB (mutArgs mu as) = true → fillM mu as os fr0 = some args → putM (mutArgs mu as) outs fr = some fr' →
    ∀ k i, mutAt mu as k = some i → ∃ so, (outFr mu outs)[k]? = some (some so)
  | [], as, outs, fr, fr', fr0, os, args, nd, ef, ep, k, i, h => by unfold mutAt at h; cases h
  | m :: mu, .nil, outs, fr, fr', fr0, os, args, nd, ef, ep, k, i, h => by unfold mutAt at h; cases h
  | m :: mu, .cons a as, outs, fr, fr', fr0, [], args, nd, ef, ep, k, i, h => by unfold fillM at ef; cases ef
  | m :: mu, .cons a as, outs, fr, fr', fr0, o :: os, args, nd, ef, ep, k, i, h => by
    rw [fillM_cons] at ef
    cases e2 : fillM mu as os fr0 with
    | none => rw [e2] at ef; cases ef
    | some vs =>
      rw [e2] at ef
      simp only [Option.bind_some] at ef
      rw [outFr_cons]
      by_cases m0 : m = 0
      · rw [if_pos m0]
        rw [mutArgs_cons, if_pos m0, List.nil_append] at ep
        cases k with
        | zero => exact absurd m0 (mutAt_zero h).1
        | succ k => exact out_some (nodup_tail nd) e2 ep k i h
      · rw [if_neg m0] at ef ⊢
        rcases varOf_cases a with e3 | ⟨i', e3, rfl⟩
        · cases a <;> first | (simp [varOf] at e3; done) | cases ef
        · rw [mutArgs_cons, if_neg m0, e3] at ep
          cases outs with
          | nil => unfold putM at ep; cases ep
          | cons o1 outs =>
            have ep : putM (i' :: mutArgs mu as) (o1 :: outs) fr = some fr' := ep
            rw [putM] at ep
            split at ep
            rotate_left
            · cases ep
            cases k with
            | zero => exact ⟨_, rfl⟩
            | succ k => exact out_some (nodup_tail nd) e2 ep k i h
end
end VI
namespace VI
open PySem PySem.Spec PyProof.Rows L2

/-- the j-th def of the table, as a caller finds it -/
structure FnI (X : Cx) (G : GE) (lv : Nat) (j : Nat) (x : Str) (mu : List Nat) : Prop where
  ex : ∃ (f : Addr) (fd : FuncData) (ps : List Str) (k : Nat), FnOk X.prog X.w X.K X.mg X.base CX0 k f fd ps (spI X.K mu (G j)) ∧ k ≤ lv ∧ X.mg x = some (.ref f) ∧ PySem.W.keepIn X.K (.ref f) = true ∧ Binds X.K fd ps []

abbrev FnIu {K : PySem.W.Frag} (M : Fam K) (G : GE) (lv j : Nat) (x : Str) (mu : List Nat) : Prop := ∀ X, M.C X → FnI X G lv j x mu
section
variable {K : PySem.W.Frag} {M : Fam K} {G : GE} {H H' H1 H2 : Hp} {F O O' : Addr → Prop} {fr fr1 fr2 : Fr} {σ : L2.St} {fp fp1 fp2 : FP}
theorem evE_call (j : Nat) (mu : List Nat) (na : Bool) (as : IEs) (fr : Fr) : evE G (.call j mu na as) fr = (evLm G mu as fr).bind fun (fr1, os) => (fillM mu as os fr1).bind fun vs =>
    if (nodupB (mutArgs mu as) && disj (alM mu os) (mutArgs mu as)) = true then (G j vs).bind fun (v, m, outs) =>
      if (if na then flatM m v && flatsM (muPos mu) outs else (muPos mu).isEmpty || (alM mu os).isEmpty) = true then
        (putM (mutArgs mu as) outs fr1).bind fun fr2 => some (fr2, ⟨v, m, if na then [] else alM mu os, false⟩) else none
    else none := by rw [evE]
theorem muPos_cons (m : Nat) (mu : List Nat) : muPos (m :: mu) = if m = 0 then muPos mu else m :: muPos mu := by
  unfold muPos
  rw [List.filter_cons]
  by_cases h : m = 0
  · subst h; simp
  · rw [if_pos (by simpa using h), if_neg h]
theorem out_flat : ∀ {mu : List Nat} {outs : List PV}, flatsM (muPos mu) outs = true → ∀ (k : Nat) (so : Sl), (outFr mu outs)[k]? = some (some so) → flatM so.m so.v = true
  | [], outs, h, k, so, e => by rw [outFr] at e; cases e
  | m :: mu, outs, h, k, so, e => by
    rw [outFr_cons] at e
    rw [muPos_cons] at h
    by_cases m0 : m = 0
    · rw [if_pos m0] at e h
      cases k with
      | zero => cases e
      | succ k => exact out_flat h k so e
    · rw [if_neg m0] at e h
      cases outs with
      | nil =>
        cases k with
        | zero => cases e
        | succ k =>
          have e : (outFr mu [])[k]? = some (some so) := e
          exact out_flat (outs := []) (by cases muPos mu <;> rfl) k so e
      | cons o outs =>
        have h : (flatM m o && flatsM (muPos mu) outs) = true := h
        rw [Bool.and_eq_true] at h
        cases k with
        | zero =>
          have e : (some (some (⟨m, true, o⟩ : Sl))) = some (some so) := e
          cases e
          exact h.1
        | succ k => exact out_flat h.2 k so e

/-- behind the call -/
theorem call_end {D : List Nat} {mu : List Nat} {as : IEs} {os : List Od} {xs : List V} {fo fo2 : List Addr} {args outs : List PV} {na : Bool} {v : PV} {m : Nat} {x : V} {fpc' : FP}
    (ex : ExM K H F σ fr fp D H1 fr1 fp1 fo mu as os xs) (ef : fillM mu as os fr1 = some args) (nd : nodupB (mutArgs mu as) = true) (dj : disj (alM mu os) (mutArgs mu as) = true)
    (hn : (if na then flatM m v && flatsM (muPos mu) outs else (muPos mu).isEmpty || (alM mu os).isEmpty) = true) (ep : putM (mutArgs mu as) outs fr1 = some fr2)
    (g2 : FR K H2 (plus (Fcal F fp1 (alM mu os) (mutArgs mu as)) fo2) (outFr mu outs) (xs.map some) fpc') (st : StepD (List.range mu.length) H1 (fpC fp1 mu as) H2 fpc') (nw : ∀ b ∈ fo2, H1 b = none) (od : OR K H2 (Fcal F fp1 (alM mu os) (mutArgs mu as)) fpc' ⟨v, m, [], false⟩ x fo2) :
    Ex K H F σ fr fp (D ++ mutArgs mu as) H2 fr2 (fpB fp1 fpc' mu as) fo2 ⟨v, m, if na then [] else alM mu os, false⟩ x := by
  have g1 := ex.hf
  obtain ⟨hl, hs⟩ := callee_slot (F1 := Ow (plus F fo) fp1) g1.slot fp1 ex.od ef
  obtain ⟨pl, pg⟩ := putM_get ep
  -- what stays
  have eff : ∀ b o, H1 b = some o → (∀ i ∈ mutArgs mu as, b ∉ fp1 i) → H2 b = some o := fun b o e n => st.eff b o e fun k _ hk => by
    obtain ⟨i, ei, hk⟩ := fpC_mem hk
    exact n i (mutAt_mem ei) hk
  have subB : ∀ i a, a ∈ fpB fp1 fpc' mu as i → a ∈ fp1 i ∨ H1 a = none := fun i a ha => by
    rcases fpB_mem ha with ⟨k, ek, ha⟩ | ⟨_, ha⟩
    · rcases st.sub k a ha with z | z
      · rw [fpC_some ek] at z; exact .inl z
      · exact .inr z
    · exact .inl ha
  have hO : ∀ a, Ow (plus F fo2) (fpB fp1 fpc' mu as) a → Ow (plus F fo) fp1 a ∨ H1 a = none := fun a z => by
    rcases z with (z | z) | ⟨i, z⟩
    · exact .inl (.inl (.inl z))
    · exact .inr (nw a z)
    · rcases subB i a z with z | z
      · exact .inl (.inr ⟨i, z⟩)
      · exact .inr z
  -- what the callee knew, against all
  have wide : ∀ a, Ow (plus F fo2) (fpB fp1 fpc' mu as) a → Ow (plus (Fcal F fp1 (alM mu os) (mutArgs mu as)) fo2) fpc' a ∨ ∃ i, a ∈ fp1 i ∧ i ∈ alM mu os ∧ i ∉ mutArgs mu as := fun a z => by
    rcases z with (z | z) | ⟨i, z⟩
    · exact .inl (.inl (.inl (.inl z)))
    · exact .inl (.inl (.inr z))
    · rcases fpB_mem z with ⟨k, ek, z⟩ | ⟨n, z⟩
      · exact .inl (.inr ⟨k, z⟩)
      · by_cases q : i ∈ alM mu os
        · exact .inr ⟨i, z, q, n⟩
        · exact .inl (.inl (.inl (.inr ⟨i, z, q, n⟩)))
  have noT : ∀ a, (∃ i, a ∈ fp1 i ∧ i ∈ alM mu os ∧ i ∉ mutArgs mu as) → NoTup H2 a := fun a ⟨i, h1, h2, h3⟩ => by
    obtain ⟨o, eo⟩ := g1.tracked h1
    have e2 := eff a o eo fun j hj hb => h3 (by rw [g1.disj i j a h1 hb]; exact hj)
    intro u ru
    refine g1.noTup h1 u ?_
    rcases ru with ru | ⟨ob, ru⟩
    · rw [e2] at ru; cases ru; exact .inl eo
    · rw [e2] at ru; cases ru; exact .inr ⟨ob, eo⟩
  have kp : ∀ i, i ∉ mutArgs mu as → fr2[i]? = fr1[i]? := fun i hi => (pg i).1 hi
  refine ⟨⟨?_, fun i s es => ?_, fun i hi => ?_, fun i => ?_, fun i l a ha hb => ?_, fun a ha => ?_⟩, fun i hi => ?_, ?_, fun b hb => ex.st.old (nw b hb), ⟨?_, od.nd, fun b hb z => ?_, fun z => nomatch z⟩⟩
  · rw [pl]; exact g1.len
  · by_cases hi : i ∈ mutArgs mu as
    · obtain ⟨k, ek⟩ := kOf_of hi
      have ek := kOf_some ek
      obtain ⟨so, eso⟩ := out_some nd ef ep k i ek
      obtain ⟨i', s0, c1, c2, c3, c4⟩ := put_out nd ef ep k so eso
      rw [ek] at c1
      cases c1
      have e5 := c4 s0 c2
      rw [es] at e5
      have e6 : s = ⟨s0.m, s0.pin, so.v⟩ := by cases e5; rfl
      subst e6
      obtain ⟨x', ex', r⟩ := g2.slot k so eso
      have hk := mutAt_lt ek
      obtain ⟨sa, esa⟩ := argFr_some hl hk
      obtain ⟨y, ey, c⟩ := hs k sa esa
      rcases c with ⟨_, c, _⟩ | ⟨i2, s2, d1, d2, d3, d4, d5, d6, d7⟩
      · rw [ek] at c; cases c
      · rw [ek] at d1
        cases d1
        rw [List.getElem?_map, ey] at ex'
        have ex' : x' = y := by cases ex'; rfl
        subst ex'
        refine ⟨x', d7, ?_⟩
        rw [fpB_at nd ek]
        show RM K H2 _ s0.m so.v x' (fpc' k)
        rw [c3]
        cases na with
        | true =>
          rw [if_pos rfl, Bool.and_eq_true] at hn
          exact RM.wide (fun a z => (wide a z).imp id (noT a)) _ _ _ _ (out_flat hn.2 k so eso) r
        | false =>
          rw [if_neg Bool.false_ne_true, Bool.or_eq_true] at hn
          refine r.mono fun a z => ?_
          rcases wide a z with z | ⟨i3, h1, h2, h3⟩
          · exact z
          · rcases hn with hn | hn
            · -- no argument is changed
              exfalso
              have : ∀ {mu : List Nat} {as : IEs} {k i : Nat}, (muPos mu).isEmpty = true → mutAt mu as k ≠ some i := by
                intro mu
                induction mu with
                | nil => intro as k i _ h; unfold mutAt at h; cases h
                | cons m mu ih =>
                  intro as k i hm h
                  rw [muPos_cons] at hm
                  by_cases m0 : m = 0
                  · rw [if_pos m0] at hm
                    cases as with
                    | nil => unfold mutAt at h; cases h
                    | cons a as =>
                      cases k with
                      | zero => exact (mutAt_zero h).1 m0
                      | succ k => exact ih (k := k) hm h
                  · rw [if_neg m0] at hm; cases hm
              exact this hn ek
            · rw [List.isEmpty_iff.mp hn] at h2; cases h2
    · rw [kp i hi] at es
      obtain ⟨y, ey, r⟩ := g1.slot i s es
      refine ⟨y, ey, ?_⟩
      rw [fpB_not hi]
      refine RM.step (fun b o e n => eff b o e fun j _ hb => n (.inr ⟨j, hb⟩)) hO _ _ _ _ (fun b hb o e => eff b o e fun j hj hbj => hi (by rw [g1.disj i j b hb hbj]; exact hj)) r
  · by_cases hm : i ∈ mutArgs mu as
    · obtain ⟨k, ek⟩ := kOf_of hm
      have ek := kOf_some ek
      obtain ⟨so, eso⟩ := out_some nd ef ep k i ek
      obtain ⟨i', s0, c1, c2, c3, c4⟩ := put_out nd ef ep k so eso
      rw [ek] at c1
      cases c1
      exact absurd (c4 s0 c2) (hi _)
    · rw [fpB_not hm]
      exact g1.emp i fun s e => hi s (by rw [kp i hm]; exact e)
  · by_cases hm : i ∈ mutArgs mu as
    · obtain ⟨k, ek⟩ := kOf_of hm
      rw [fpB_at nd (kOf_some ek)]
      exact g2.nd k
    · rw [fpB_not hm]; exact g1.nd i
  · rcases fpB_mem ha with ⟨k, ek, ha⟩ | ⟨n1, ha⟩
    · rcases fpB_mem hb with ⟨k2, ek2, hb⟩ | ⟨n2, hb⟩
      · have := g2.disj k k2 a ha hb
        subst this
        rw [ek] at ek2
        cases ek2
        rfl
      · rcases st.sub k a ha with z | z
        · rw [fpC_some ek] at z; exact g1.disj _ _ a z hb
        · obtain ⟨o, eo⟩ := g1.tracked hb
          rw [eo] at z; cases z
    · rcases fpB_mem hb with ⟨k2, ek2, hb⟩ | ⟨n2, hb⟩
      · rcases st.sub k2 a hb with z | z
        · rw [fpC_some ek2] at z; exact g1.disj _ _ a ha z
        · obtain ⟨o, eo⟩ := g1.tracked ha
          rw [eo] at z; cases z
      · exact g1.disj _ _ a ha hb
  · rcases ha with ha | ha
    · have h1 := g1.amb a (.inl ha)
      obtain ⟨o, eo⟩ := h1.1
      refine ⟨st.there a o eo, fun i hi => ?_⟩
      rcases subB i a hi with z | z
      · exact h1.2 i z
      · rw [eo] at z; cases z
    · refine ⟨(g2.amb a (.inr ha)).1, fun i hi => ?_⟩
      rcases fpB_mem hi with ⟨k, ek, hi⟩ | ⟨_, hi⟩
      · exact (g2.amb a (.inr ha)).2 k hi
      · obtain ⟨o, eo⟩ := g1.tracked hi
        rw [nw a ha] at eo; cases eo
  · have h1 := ex.keep i fun z => hi (List.mem_append_left _ z)
    have h2 : i ∉ mutArgs mu as := fun z => hi (List.mem_append_right _ z)
    exact ⟨(kp i h2).trans h1.1, (fpB_not h2).trans h1.2⟩
  · refine (ex.st.mono fun i z => List.mem_append_left _ z).trans ⟨fun b o e n => eff b o e fun i hi => n i (List.mem_append_right _ hi), subB, st.there⟩
  · have r := od.rep
    have r : RM K H2 (OwA (plus (Fcal F fp1 (alM mu os) (mutArgs mu as)) fo2) fpc' []) m v x fo2 := r
    cases na with
    | true =>
      rw [if_pos rfl] at hn ⊢
      rw [Bool.and_eq_true] at hn
      refine RM.wide (fun a z => ?_) _ _ _ _ hn.1 r
      rcases wide a z.ow with z | z
      · exact .inl (OwA.nil z)
      · exact .inr (noT a z)
    | false =>
      refine r.mono fun a z => ?_
      rcases z with z | ⟨i, z, n⟩
      · rcases wide a (.inl z) with z | ⟨i, h1, h2, h3⟩
        · exact OwA.nil z
        · rcases z with z | z
          · exact .inl (.inl (.inl z))
          · exact .inl (.inr z)
      · rcases wide a (.inr ⟨i, z⟩) with q | ⟨i2, h1, h2, h3⟩
        · exact OwA.nil q
        · rcases fpB_mem z with ⟨k, ek, z⟩ | ⟨nm, z⟩
          · exact .inr ⟨k, z, by simp⟩
          · exact absurd (by rw [g1.disj i i2 a z h1]; exact h2) n
  · rcases z with z | ⟨i, z⟩
    · obtain ⟨o, eo⟩ := (g1.amb b (.inl z)).1
      rw [nw b hb] at eo; cases eo
    · rcases fpB_mem z with ⟨k, ek, z⟩ | ⟨_, z⟩
      · exact od.ap b hb (.inr ⟨k, z⟩)
      · obtain ⟨o, eo⟩ := g1.tracked z
        rw [nw b hb] at eo; cases eo

theorem sat_call {j : Nat} {mu : List Nat} {na : Bool} {ies : IEs} {t : TA} (sa : ∀ fr σ H F fp fr' os, FR K H F fr σ fp → evLm G mu ies fr = some (fr', os) → ∀ Q : List V → Hp → Prop, (∀ xs H' fp' fo, ExM K H F σ fr fp (mutdL ies) H' fr' fp' fo mu ies os xs → Q xs H') → t σ H Q) :
    Sat K (evE G (.call j mu na ies)) (mutd (.call j mu na ies)) (tCall (spI K mu (G j)) [] E0 t) := by
  intro fr σ H F fp fr' o g e Q q
  rw [evE_call] at e
  cases el : evLm G mu ies fr with
  | none => rw [el] at e; cases e
  | some pr =>
  obtain ⟨fr1, os⟩ := pr
  rw [el] at e
  simp only [Option.bind_some] at e
  cases ef : fillM mu ies os fr1 with
  | none => rw [ef] at e; cases e
  | some args =>
  rw [ef] at e
  simp only [Option.bind_some] at e
  split at e
  rotate_left
  · cases e
  rename_i hc
  rw [Bool.and_eq_true] at hc
  cases eG : G j args with
  | none => rw [eG] at e; cases e
  | some pr =>
  obtain ⟨v, m, outs⟩ := pr
  rw [eG] at e
  simp only [Option.bind_some] at e
  by_cases hn : (if na then flatM m v && flatsM (muPos mu) outs else (muPos mu).isEmpty || (alM mu os).isEmpty) = true
  rotate_left
  · rw [if_neg hn] at e; cases e
  rw [if_pos hn] at e
  cases ep : putM (mutArgs mu ies) outs fr1 with
  | none => rw [ep] at e; cases e
  | some fr2 =>
  rw [ep] at e
  cases e
  refine sa fr σ H F fp _ _ g el _ fun xs H1 fp1 fo ex => ?_
  rw [List.append_nil]
  refine ⟨ex.od.length, args, _, _, v, m, outs, eG, callee_FR ex.hf ex.od ef hc.1 hc.2, fun x H2 fpc' fo2 g2 st nw od => ?_⟩
  exact q x H2 _ fo2 (by rw [mutd]; exact call_end ex ef hc.1 hc.2 hn ep g2 st nw od)
theorem pe_callK {X : Cx} {lv j : Nat} {x : Str} {mu : List Nat} {e : Expr} {es : List Expr} {t : TA} {px pos : Pos} (hK : X.K = K) (fi : FnI X G lv j x mu) (hr : Room lv X.A) (hg : Gl X x) (pa : PA X (e :: es) t) (ns : starEach (e :: es) X.env = (false, eval e X.env) :: starEach es X.env) (hst : (backTo pos (starEach es X.env)).any (·.1) = false) (hdb : (x == ("__debug__" : Str)) = false) :
    PE X (.Call (.Name x px) (e :: es) [] pos) (tCall (spI K mu (G j)) [] E0 t) := by
  subst hK
  obtain ⟨f, fd, ps, k, ok, hk, hm, hkp, hb⟩ := fi.ex
  exact pe_call ok (hr.mono hk) hg hm hkp hb .nil pass0 pa hdb ns hst
theorem pe_callK0 {X : Cx} {lv j : Nat} {x : Str} {px pos : Pos} (hK : X.K = K) (fi : FnI X G lv j x []) (hr : Room lv X.A) (hg : Gl X x) (hdb : (x == ("__debug__" : Str)) = false) :
    PE X (.Call (.Name x px) [] [] pos) (tCall (spI K [] (G j)) [] E0 tNil) := by
  subst hK
  obtain ⟨f, fd, ps, k, ok, hk, hm, hkp, hb⟩ := fi.ex
  exact pe_call0 ok (hr.mono hk) hg hm hkp hb .nil pass0 hdb
theorem snd_call {lv j : Nat} {x : Str} {mu : List Nat} {na : Bool} {e : Expr} {es : List Expr} {ies : IEs} {px pos : Pos} (fi : FnIu M G lv j x mu) (hr : ∀ X, M.C X → Room lv X.A) (hg : Glu M x) (h : SndM M G mu (e :: es) ies) (ns : NoStaru M e) (hst : Staru M es) (hdb : (x == ("__debug__" : Str)) = false) :
    Snd M G (.Call (.Name x px) (e :: es) [] pos) (.call j mu na ies) := by
  obtain ⟨t, pa, sa⟩ := h.pa
  exact ⟨⟨_, fun X hX => pe_callK (M.k X hX) (fi X hX) (hr X hX) (hg X hX) (pa X hX) (ns X hX es) (hst X hX pos) hdb, sat_call sa⟩, fun _ z => nomatch z⟩
theorem snd_call0 {lv j : Nat} {x : Str} {na : Bool} {px pos : Pos} (fi : FnIu M G lv j x []) (hr : ∀ X, M.C X → Room lv X.A) (hg : Glu M x) (hdb : (x == ("__debug__" : Str)) = false) :
    Snd M G (.Call (.Name x px) [] [] pos) (.call j [] na .nil) := by
  refine ⟨⟨_, fun X hX => pe_callK0 (M.k X hX) (fi X hX) (hr X hX) (hg X hX) hdb, sat_call fun fr σ H F fp fr' os g e Q q => ?_⟩, fun _ z => nomatch z⟩
  rw [evLm] at e
  cases e
  exact q [] H fp [] ⟨g.plusNil, fun _ _ => ⟨rfl, rfl⟩, .refl _ _ _, (fun _ z => nomatch z), rfl, rfl⟩

/-! ### calls that may raise -/
/-- the j-th def of the table, which may raise -/
structure FnXI (X : Cx) (G : GE) (ca : Nat → Addr) (lv : Nat) (j : Nat) (x : Str) (mu : List Nat) : Prop where
  ex : ∃ (f : Addr) (fd : FuncData) (ps : List Str) (k : Nat), FnOk X.prog X.w X.K X.mg X.base (L2N.CX X.prog X.w) k f fd ps (spX X.K ca mu (G j)) ∧ k ≤ lv ∧ X.mg x = some (.ref f) ∧ PySem.W.keepIn X.K (.ref f) = true ∧ Binds X.K fd ps []
/-- the j-th def of the table, called where an exception is handled -/
structure FnHI (X : Cx) (G : GE) (lv : Nat) (j : Nat) (x : Str) (mu : List Nat) : Prop where
  ex : ∃ (f : Addr) (fd : FuncData) (ps : List Str) (k : Nat), L2H.FnH X.prog X.w X.K X.mg X.base CX0 k f fd ps (spI X.K mu (G j)) ∧ k ≤ lv ∧ X.mg x = some (.ref f) ∧ PySem.W.keepIn X.K (.ref f) = true ∧ Binds X.K fd ps []
/-- the reading t of an expression that may raise -/
def SatX (K : PySem.W.Frag) (xw : XW) (ev : Ev) (D : List Nat) (t : TE) : Prop :=
  ∀ fr σ H F fp fr' o, FR K H F fr σ fp → ev fr = some (fr', o) → ∀ Q : VK, (∀ x H' fp' fo, Ex K H F σ fr fp D H' fr' fp' fo o x → Q x H') →
    (∀ c ns ws, o.v = .exn c ns ws → ∀ H' fp' d, Ex K H F σ fr fp D H' fr' fp' [] ⟨.non, 0, [], false⟩ .non → H d = none → ¬ Ow F fp' d → H' d = some (.xd (xdV ns ws)) → xw.W (.ref (xw.ca c)) (some d) σ H') → t σ H Q
structure SndX {K : PySem.W.Frag} (M : Fam K) (G : GE) (e : Expr) (ie : IE) : Prop where
  pe : ∃ t, PEu M e t ∧ SatX K M.xw (evE G ie) (mutd ie) t
theorem exn_flat {na : Bool} {m : Nat} {v : PV} {mu : List Nat} {os : List Od} {outs : List PV} (hn : (if na then flatM m v && flatsM (muPos mu) outs else (muPos mu).isEmpty || (alM mu os).isEmpty) = true) :
    (if na then flatM 0 .non && flatsM (muPos mu) outs else (muPos mu).isEmpty || (alM mu os).isEmpty) = true := by
  cases na with
  | true =>
    rw [if_pos rfl, Bool.and_eq_true] at hn ⊢
    exact ⟨rfl, hn.2⟩
  | false => exact hn
theorem sat_callX {xw : XW} {j : Nat} {mu : List Nat} {na : Bool} {ies : IEs} {t : TA} (sa : ∀ fr σ H F fp fr' os, FR K H F fr σ fp → evLm G mu ies fr = some (fr', os) → ∀ Q : List V → Hp → Prop, (∀ xs H' fp' fo, ExM K H F σ fr fp (mutdL ies) H' fr' fp' fo mu ies os xs → Q xs H') → t σ H Q) :
    SatX K xw (evE G (.call j mu na ies)) (mutd (.call j mu na ies)) (tCallS (spX K xw.ca mu (G j)) (L2.WE xw.W) t) := by
  intro fr σ H F fp fr' o g e Q q qx
  rw [evE_call] at e
  cases el : evLm G mu ies fr with
  | none => rw [el] at e; cases e
  | some pr =>
  obtain ⟨fr1, os⟩ := pr
  rw [el] at e
  simp only [Option.bind_some] at e
  cases ef : fillM mu ies os fr1 with
  | none => rw [ef] at e; cases e
  | some args =>
  rw [ef] at e
  simp only [Option.bind_some] at e
  split at e
  rotate_left
  · cases e
  rename_i hc
  rw [Bool.and_eq_true] at hc
  cases eG : G j args with
  | none => rw [eG] at e; cases e
  | some pr =>
  obtain ⟨v, m, outs⟩ := pr
  rw [eG] at e
  simp only [Option.bind_some] at e
  by_cases hn : (if na then flatM m v && flatsM (muPos mu) outs else (muPos mu).isEmpty || (alM mu os).isEmpty) = true
  rotate_left
  · rw [if_neg hn] at e; cases e
  rw [if_pos hn] at e
  cases ep : putM (mutArgs mu ies) outs fr1 with
  | none => rw [ep] at e; cases e
  | some fr2 =>
  rw [ep] at e
  cases e
  refine sa fr σ H F fp _ _ g el _ fun xs H1 fp1 fo ex => ?_
  refine ⟨ex.od.length, args, _, _, v, m, outs, eG, callee_FR ex.hf ex.od ef hc.1 hc.2, fun x H2 fpc' fo2 g2 st nw od => ?_, fun c ns ws hv H2 fpc' d g2 st nd no hd => ?_⟩
  · exact q x H2 _ fo2 (by rw [mutd]; exact call_end ex ef hc.1 hc.2 hn ep g2 st nw od)
  · have e2 := call_end (x := .non) (v := .non) (m := 0) ex ef hc.1 hc.2 (exn_flat hn) ep g2 st (fun _ z => nomatch z) ⟨by rw [RM.zero]; exact ⟨rfl, rfl⟩, .nil, fun _ z => (nomatch z), fun z => nomatch z⟩
    refine qx c ns ws hv H2 _ d (by rw [mutd]; exact ⟨e2.hf, e2.keep, e2.st, e2.nw, ⟨by rw [RM.zero]; exact ⟨rfl, rfl⟩, .nil, fun _ z => (nomatch z), fun z => nomatch z⟩⟩) (ex.st.old nd) (fun z => ?_) hd
    rcases z with z | ⟨i, z⟩
    · obtain ⟨o, eo⟩ := (ex.hf.amb d (.inl z)).1
      rw [nd] at eo; cases eo
    · rcases fpB_mem z with ⟨k, _, z⟩ | ⟨_, z⟩
      · exact no (.inr ⟨k, z⟩)
      · obtain ⟨o, eo⟩ := ex.hf.tracked z
        rw [nd] at eo; cases eo
theorem passAtN {X : Cx} {W : WX} (tk : L2N.Takes X W) (σ : L2.St) : PassesAt (L2N.CX X.prog X.w) X σ (L2.WE W σ) := fun _ _ _ e s' I c => tk e s' (L2N.XE.of_call I (fun _ _ _ h => h) c)
theorem passAt0 {X : Cx} (σ : L2.St) : PassesAt (L2N.CX X.prog X.w) X σ E0 := fun _ _ _ _ _ _ h => by
  obtain ⟨_, _, _, _, _, _, _, _, _, _, _, _, z⟩ := h
  exact z.elim
theorem pe_callXN {X : Cx} {xw : XW} {lv j : Nat} {x : Str} {mu : List Nat} {e : Expr} {es : List Expr} {t : TA} {px pos : Pos} (hK : X.K = K) (fi : FnXI X G xw.ca lv j x mu) (tk : L2N.Takes X xw.W) (hr : Room lv X.A) (hg : Gl X x) (pa : PA X (e :: es) t) (ns : starEach (e :: es) X.env = (false, eval e X.env) :: starEach es X.env) (hst : (backTo pos (starEach es X.env)).any (·.1) = false) (hdb : (x == ("__debug__" : Str)) = false) :
    PE X (.Call (.Name x px) (e :: es) [] pos) (tCallS (spX K xw.ca mu (G j)) (L2.WE xw.W) t) := by
  subst hK
  obtain ⟨f, fd, ps, k, ok, hk, hm, hkp, hb⟩ := fi.ex
  exact pe_callS ok (hr.mono hk) hg hm hkp hb (fun σ => passAtN tk σ) pa hdb ns hst
theorem sndX_call {lv j : Nat} {x : Str} {mu : List Nat} {na : Bool} {e : Expr} {es : List Expr} {ies : IEs} {px pos : Pos} (fi : ∀ X, M.C X → FnXI X G M.xw.ca lv j x mu) (tk : ∀ X, M.C X → L2N.Takes X M.xw.W) (hr : ∀ X, M.C X → Room lv X.A) (hg : Glu M x) (h : SndM M G mu (e :: es) ies) (ns : NoStaru M e) (hst : Staru M es) (hdb : (x == ("__debug__" : Str)) = false) :
    SndX M G (.Call (.Name x px) (e :: es) [] pos) (.call j mu na ies) := by
  obtain ⟨t, pa, sa⟩ := h.pa
  exact ⟨⟨_, fun X hX => pe_callXN (M.k X hX) (fi X hX) (tk X hX) (hr X hX) (hg X hX) (pa X hX) (ns X hX es) (hst X hX pos) hdb, sat_callX sa⟩⟩
/-- where it does not raise -/
theorem evE_callx (j : Nat) (mu : List Nat) (na : Bool) (as : IEs) (fr : Fr) : evE G (.callx j mu na as) fr = (evLm G mu as fr).bind fun (fr1, os) => (fillM mu as os fr1).bind fun vs =>
    if (nodupB (mutArgs mu as) && disj (alM mu os) (mutArgs mu as)) = true then (G j vs).bind fun (v, m, outs) =>
      if ((if na then flatM m v && flatsM (muPos mu) outs else (muPos mu).isEmpty || (alM mu os).isEmpty) && notExn v) = true then
        (putM (mutArgs mu as) outs fr1).bind fun fr2 => some (fr2, ⟨v, m, if na then [] else alM mu os, false⟩) else none
    else none := by rw [evE]
theorem sat_callx0 {ca : Nat → Addr} {j : Nat} {mu : List Nat} {na : Bool} {ies : IEs} {t : TA} (sa : ∀ fr σ H F fp fr' os, FR K H F fr σ fp → evLm G mu ies fr = some (fr', os) → ∀ Q : List V → Hp → Prop, (∀ xs H' fp' fo, ExM K H F σ fr fp (mutdL ies) H' fr' fp' fo mu ies os xs → Q xs H') → t σ H Q) :
    Sat K (evE G (.callx j mu na ies)) (mutd (.callx j mu na ies)) (tCallS (spX K ca mu (G j)) (fun _ => E0) t) := by
  intro fr σ H F fp fr' o g e Q q
  rw [evE_callx] at e
  cases el : evLm G mu ies fr with
  | none => rw [el] at e; cases e
  | some pr =>
  obtain ⟨fr1, os⟩ := pr
  rw [el] at e
  simp only [Option.bind_some] at e
  cases ef : fillM mu ies os fr1 with
  | none => rw [ef] at e; cases e
  | some args =>
  rw [ef] at e
  simp only [Option.bind_some] at e
  split at e
  rotate_left
  · cases e
  rename_i hc
  rw [Bool.and_eq_true] at hc
  cases eG : G j args with
  | none => rw [eG] at e; cases e
  | some pr =>
  obtain ⟨v, m, outs⟩ := pr
  rw [eG] at e
  simp only [Option.bind_some] at e
  by_cases hn : ((if na then flatM m v && flatsM (muPos mu) outs else (muPos mu).isEmpty || (alM mu os).isEmpty) && notExn v) = true
  rotate_left
  · rw [if_neg hn] at e; cases e
  rw [if_pos hn] at e
  rw [Bool.and_eq_true] at hn
  cases ep : putM (mutArgs mu ies) outs fr1 with
  | none => rw [ep] at e; cases e
  | some fr2 =>
  rw [ep] at e
  cases e
  refine sa fr σ H F fp _ _ g el _ fun xs H1 fp1 fo ex => ?_
  refine ⟨ex.od.length, args, _, _, v, m, outs, eG, callee_FR ex.hf ex.od ef hc.1 hc.2, fun x H2 fpc' fo2 g2 st nw od => ?_, fun c ns ws hv => ?_⟩
  · exact q x H2 _ fo2 (by rw [mutd]; exact call_end ex ef hc.1 hc.2 hn.1 ep g2 st nw od)
  · exfalso
    rw [hv] at hn
    exact Bool.noConfusion hn.2
theorem snd_callx {ca : Nat → Addr} {lv j : Nat} {x : Str} {mu : List Nat} {na : Bool} {e : Expr} {es : List Expr} {ies : IEs} {px pos : Pos} (fi : ∀ X, M.C X → FnXI X G ca lv j x mu) (hr : ∀ X, M.C X → Room lv X.A) (hg : Glu M x) (h : SndM M G mu (e :: es) ies) (ns : NoStaru M e) (hst : Staru M es) (hdb : (x == ("__debug__" : Str)) = false) :
    Snd M G (.Call (.Name x px) (e :: es) [] pos) (.callx j mu na ies) := by
  obtain ⟨t, pa, sa⟩ := h.pa
  refine ⟨⟨_, fun X hX => ?_, sat_callx0 (ca := ca) sa⟩, fun _ z => nomatch z⟩
  obtain ⟨f, fd, ps, k, ok, hk, hm, hkp, hb⟩ := (fi X hX).ex
  have hK := M.k X hX
  rw [← hK]
  exact pe_callS ok ((hr X hX).mono hk) (hg X hX) hm hkp hb (fun σ => passAt0 σ) (pa X hX) hdb (ns X hX es) (hst X hX pos)
/-! ### calls where an exception is handled -/
theorem sat_callH {j : Nat} {mu : List Nat} {na : Bool} {ies : IEs} {t : TA} (sa : ∀ fr σ H F fp fr' os, FR K H F fr σ fp → evLm G mu ies fr = some (fr', os) → ∀ Q : List V → Hp → Prop, (∀ xs H' fp' fo, ExM K H F σ fr fp (mutdL ies) H' fr' fp' fo mu ies os xs → Q xs H') → t σ H Q) :
    Sat K (evE G (.call j mu na ies)) (mutd (.call j mu na ies)) (tCallS (spI K mu (G j)) (fun _ => E0) t) := by
  have := sat_call (K := K) (G := G) (j := j) (mu := mu) (na := na) sa
  intro fr σ H F fp fr' o g e Q q
  have h := this fr σ H F fp fr' o g e Q q
  unfold tCall at h
  unfold tCallS
  simpa only [List.append_nil] using h
theorem snd_callH {lv j : Nat} {x : Str} {mu : List Nat} {na : Bool} {e : Expr} {es : List Expr} {ies : IEs} {px pos : Pos} (fi : ∀ X, M.C X → FnHI X G lv j x mu) (hr : ∀ X, M.C X → L2H.RoomH lv X.A) (hc : ∀ X, M.C X → L2H.HotC X) (hg : Glu M x) (h : SndM M G mu (e :: es) ies) (ns : NoStaru M e) (hst : Staru M es) (hdb : (x == ("__debug__" : Str)) = false) :
    Snd M G (.Call (.Name x px) (e :: es) [] pos) (.call j mu na ies) := by
  obtain ⟨t, pa, sa⟩ := h.pa
  refine ⟨⟨_, fun X hX => ?_, sat_callH sa⟩, fun _ z => nomatch z⟩
  obtain ⟨f, fd, ps, k, ok, hk, hm, hkp, hb⟩ := (fi X hX).ex
  have hK := M.k X hX
  rw [← hK]
  exact L2H.pe_callH ok ((hr X hX).mono hk) (hc X hX) (hg X hX) hm hkp hb (fun σ _ _ _ _ _ _ h => h.elim) (pa X hX) hdb (ns X hX es) (hst X hX pos)
end
end VI
namespace VI
open PySem PySem.Spec PyProof.Rows L2

/-- what a walked thing does: it gives vs, one by one, while the objects S stay as they are in H0; B: the items are right -/
structure Wk (K : PySem.W.Frag) (H0 : Hp) (J : It) (vs : List PV) (S : Addr → Prop) (B : Hp → (Addr → Prop) → Prop) : Prop where
  go : ∀ i H, (∀ b o, S b → H0 b = some o → H b = some o) → i < vs.length → J.go i H
  stop : ∀ H, (∀ b o, S b → H0 b = some o → H b = some o) → J.stop vs.length H
  yld : ∀ i H x H', (∀ b o, S b → H0 b = some o → H b = some o) → i < vs.length → J.yld i H x H' → Ext H H' ∧ ∀ O v, vs[i]? = some v → B H O → (∀ a, O a → ∃ o, H a = some o) → R K H' O v x
  base : ∀ H H' (O O' : Addr → Prop), B H O → (∀ b o, H b = some o → ¬ O b → H' b = some o) → (∀ a, O' a → O a ∨ H a = none) → B H' O'

structure ExI (K : PySem.W.Frag) (H : Hp) (F : Addr → Prop) (σ : L2.St) (fr : Fr) (fp : FP) (D : List Nat) (H' : Hp) (fr' : Fr) (fp' : FP) (im : Itm) (J : It) (S : Addr → Prop) (B : Hp → (Addr → Prop) → Prop) : Prop where
  hf : FR K H' F fr' σ fp'
  keep : ∀ i, i ∉ D → fr'[i]? = fr[i]? ∧ fp' i = fp i
  st : StepD D H fp H' fp'
  wk : Wk K H' J im.vs S B
  b : B H' (OwA F fp' im.al)
  s : ∀ a, S a → ∀ i, a ∈ fp' i → i ∈ im.src
structure SndI {K : PySem.W.Frag} (M : Fam K) (G : GE) (tg iter : Expr) (it : IT) : Prop where
  pi : ∃ wi, PIu M tg iter wi ∧ ∀ fr σ H F fp fr' im, FR K H F fr σ fp → evI G it fr = some (fr', im) → ∀ R : It → Hp → Prop, (∀ J H' fp' S B, ExI K H F σ fr fp (mutdI it) H' fr' fp' im J S B → R J H') → wi σ H R
  hs : ∀ X, M.C X → ∀ x, foldedSetIterable iter X.env x = pure x

section
variable {K : PySem.W.Frag} {M : Fam K} {G : GE} {H H' H1 H2 : Hp} {F O O' : Addr → Prop} {fr fr1 fr2 : Fr} {σ : L2.St} {fp fp1 fp2 : FP} {tg : Expr}
theorem Rs.get' {vs : List PV} {ys : List V} {i : Nat} {v : PV} {y : V} (h : Rs K H O vs ys) (e : vs[i]? = some v) (e2 : ys[i]? = some y) : R K H O v y := by
  obtain ⟨y', e3, r⟩ := h.get e
  rw [e2] at e3; cases e3
  exact r
theorem Rs.idx {vs : List PV} {ys : List V} {i : Nat} (h : Rs K H O vs ys) (hi : i < vs.length) : ∃ y, ys[i]? = some y := ⟨ys[i]'(by rw [h.length]; exact hi), List.getElem?_eq_getElem _⟩
/-- what is read as a list, now and later -/
theorem sql_keep {a : Addr} {ys : List V} (h : SqL K H a ys) (k : ∀ o, H a = some o → H' a = some o) : SqL K H' a ys := by
  rcases h with (h | ⟨o, h⟩) | h
  · exact .inl (.inl (k _ h))
  · exact .inl (.inr ⟨o, k _ h⟩)
  · exact .inr h
theorem sqt_keep {a : Addr} {ys : List V} (h : SqT K H a ys) (k : ∀ o, H a = some o → H' a = some o) : SqT K H' a ys := by
  rcases h with (h | ⟨o, h⟩) | h
  · exact .inl (.inl (k _ h))
  · exact .inl (.inr ⟨o, k _ h⟩)
  · exact .inr h
theorem wk_listS {S : Addr → Prop} {a : Addr} {ys : List V} {vs : List PV} (h : ∀ H', (∀ b o, S b → H b = some o → H' b = some o) → SqL K H' a ys) (hl : ys.length = vs.length) : Wk K H (Itl K a) vs S (fun H O => Rs K H O vs ys) where
  go := fun i H' k hi => ⟨ys, ys[i]'(by omega), h H' k, List.getElem?_eq_getElem _⟩
  stop := fun H' k => ⟨ys, h H' k, by omega⟩
  yld := fun i H1 x H' k hi y => by
    obtain ⟨e, y⟩ := y
    subst e
    refine ⟨.refl _, fun O v ev r hT => ?_⟩
    exact Rs.get' r ev (y ys (h _ k))
  base := fun H1 H' O O' r eff hO => Rs.step eff hO _ _ r
theorem wk_tup {S : Addr → Prop} {a : Addr} {ys : List V} {vs : List PV} (h : ∀ H', (∀ b o, S b → H b = some o → H' b = some o) → SqT K H' a ys) (hl : ys.length = vs.length) : Wk K H (Itt K a) vs S (fun H O => Rs K H O vs ys) where
  go := fun i H' k hi => ⟨ys, ys[i]'(by omega), h H' k, List.getElem?_eq_getElem _⟩
  stop := fun H' k => ⟨ys, h H' k, by omega⟩
  yld := fun i H1 x H' k hi y => by
    obtain ⟨e, y⟩ := y
    subst e
    refine ⟨.refl _, fun O v ev r hT => ?_⟩
    exact Rs.get' r ev (y ys (h _ k))
  base := fun H1 H' O O' r eff hO => Rs.step eff hO _ _ r
theorem wk_str {z : Str} : Wk K H (Its z) (z.cps.toList.map fun c => PV.str ⟨#[c]⟩) (fun _ => False) (fun _ _ => True) where
  go := fun i H' k hi => by show i < z.cps.size; simpa using hi
  stop := fun H' k => by show z.cps.size ≤ _; simp
  yld := fun i H1 x H' k hi y => by
    obtain ⟨e, c, ec, ex⟩ := y
    subst e
    refine ⟨.refl _, fun O v ev r hT => ?_⟩
    rw [List.getElem?_map, Array.getElem?_toList, ec] at ev
    cases ev
    exact ex
  base := fun _ _ _ _ _ _ _ => trivial
theorem wk_list {a : Addr} {ys : List V} {vs : List PV} (h : SqL K H a ys) (hl : ys.length = vs.length) : Wk K H (Itl K a) vs (fun b => b = a) (fun H O => Rs K H O vs ys) :=
  wk_listS (fun H' k => sql_keep h fun o e => k a o rfl e) hl
theorem rangeP_get {lo : Int} {n i : Nat} {v : PV} (e : (rangeP lo n)[i]? = some v) : v = .int (lo + i) := by
  unfold rangeP at e
  rw [List.getElem?_map] at e
  cases e2 : (List.range n)[i]? with
  | none => rw [e2] at e; cases e
  | some k =>
    rw [e2] at e
    cases e
    have : i < n := by
      by_cases q : i < n
      · exact q
      · rw [List.getElem?_eq_none (by simpa using q)] at e2; cases e2
    rw [List.getElem?_eq_getElem (by simpa using this), List.getElem_range] at e2
    cases e2
    rfl
theorem rangeP_length (lo : Int) (n : Nat) : (rangeP lo n).length = n := by unfold rangeP; rw [List.length_map, List.length_range]
theorem wk_range {lo : Int} {n : Nat} : Wk K H (Itr lo n) (rangeP lo n) (fun _ => False) (fun _ _ => True) where
  go := fun i H' k hi => by rw [rangeP_length] at hi; exact hi
  stop := fun H' k => by rw [rangeP_length]; exact Nat.le_refl _
  yld := fun i H1 x H' k hi y => by
    obtain ⟨e, ex⟩ := y
    subst e
    refine ⟨.refl _, fun O v ev r hT => ?_⟩
    rw [rangeP_get ev]
    exact ex
  base := fun _ _ _ _ _ _ _ => trivial
theorem enumP_get : ∀ {n : Nat} {vs : List PV} {i : Nat} {v : PV}, (enumP n vs)[i]? = some v → ∃ w, vs[i]? = some w ∧ v = .tup [.int ((n + i : Nat) : Int), w]
  | n, [], i, v, e => by simp [enumP] at e
  | n, w :: vs, 0, v, e => by
    have e : some (PV.tup [.int n, w]) = some v := e
    cases e
    exact ⟨w, rfl, rfl⟩
  | n, w :: vs, i + 1, v, e => by
    have e : (enumP (n + 1) vs)[i]? = some v := e
    obtain ⟨w', e1, e2⟩ := enumP_get e
    refine ⟨w', e1, ?_⟩
    rw [e2, show n + 1 + i = n + (i + 1) by omega]
theorem enumP_length : ∀ (n : Nat) (vs : List PV), (enumP n vs).length = vs.length
  | _, [] => rfl
  | n, v :: vs => by rw [enumP, List.length_cons, List.length_cons, enumP_length]
theorem wk_enum {a : Addr} {ys : List V} {vs : List PV} (h : SqL K H a ys) (hl : ys.length = vs.length) : Wk K H (Ite K a) (enumP 0 vs) (fun b => b = a) (fun H O => Rs K H O vs ys) where
  go := fun i H' k hi => by
    rw [enumP_length] at hi
    exact ⟨ys, ys[i]'(by omega), sql_keep h fun o e => k a o rfl e, List.getElem?_eq_getElem _⟩
  stop := fun H' k => by
    rw [enumP_length]
    exact ⟨ys, sql_keep h fun o e => k a o rfl e, by omega⟩
  yld := fun i H1 x H' k hi y => by
    obtain ⟨T, z, ex, hT, eH, y⟩ := y
    subst eH ex
    refine ⟨.upd hT, fun O v ev r hO => ?_⟩
    obtain ⟨w, ew, e2⟩ := enumP_get ev
    subst e2
    have rz := Rs.get' r ew (y ys (sql_keep h fun o e => k a o rfl e))
    refine ⟨T, _, rfl, .inl ⟨.inl upd_same, noO hO hT⟩, _, _, rfl, ?_, _, _, rfl, rz.ext (.upd hT), rfl⟩
    show V.int (i : Nat) = .int ((0 + i : Nat) : Int)
    rw [Nat.zero_add]
  base := fun H1 H' O O' r eff hO => Rs.step eff hO _ _ r
theorem zipP_get : ∀ {vs ws : List PV} {i : Nat} {v : PV}, (zipP vs ws)[i]? = some v → ∃ a b, vs[i]? = some a ∧ ws[i]? = some b ∧ v = .tup [a, b]
  | [], _, i, v, e => by simp [zipP] at e
  | _ :: _, [], i, v, e => by simp [zipP] at e
  | a :: vs, b :: ws, 0, v, e => by
    have e : some (PV.tup [a, b]) = some v := e
    cases e
    exact ⟨a, b, rfl, rfl, rfl⟩
  | a :: vs, b :: ws, i + 1, v, e => by
    have e : (zipP vs ws)[i]? = some v := e
    obtain ⟨a', b', e1, e2, e3⟩ := zipP_get e
    exact ⟨a', b', e1, e2, e3⟩
theorem zipP_length : ∀ (vs ws : List PV), (zipP vs ws).length = min vs.length ws.length
  | [], ws => by simp [zipP]
  | _ :: _, [] => by simp [zipP]
  | v :: vs, w :: ws => by rw [zipP, List.length_cons, List.length_cons, List.length_cons, zipP_length]; omega
theorem wk_zip {a b : Addr} {ys zs : List V} {vs ws : List PV} (h : SqL K H a ys) (h2 : SqL K H b zs) (hl : ys.length = vs.length) (hl2 : zs.length = ws.length) : Wk K H (Itz K a b) (zipP vs ws) (fun c => c = a ∨ c = b) (fun H O => Rs K H O vs ys ∧ Rs K H O ws zs) where
  go := fun i H' k hi => by
    rw [zipP_length] at hi
    exact ⟨ys, zs, ys[i]'(by omega), zs[i]'(by omega), sql_keep h fun o e => k a o (.inl rfl) e, sql_keep h2 fun o e => k b o (.inr rfl) e, List.getElem?_eq_getElem _, List.getElem?_eq_getElem _⟩
  stop := fun H' k => by
    rw [zipP_length]
    exact ⟨ys, zs, sql_keep h fun o e => k a o (.inl rfl) e, sql_keep h2 fun o e => k b o (.inr rfl) e, by omega⟩
  yld := fun i H1 x H' k hi y => by
    obtain ⟨T, z, z2, ex, hT, eH, y, y2⟩ := y
    subst eH ex
    refine ⟨.upd hT, fun O v ev r hO => ?_⟩
    obtain ⟨w, w2, ew, ew2, e2⟩ := zipP_get ev
    subst e2
    have rz := Rs.get' r.1 ew (y ys (sql_keep h fun o e => k a o (.inl rfl) e))
    have rz2 := Rs.get' r.2 ew2 (y2 zs (sql_keep h2 fun o e => k b o (.inr rfl) e))
    exact ⟨T, _, rfl, .inl ⟨.inl upd_same, noO hO hT⟩, _, _, rfl, rz.ext (.upd hT), _, _, rfl, rz2.ext (.upd hT), rfl⟩
  base := fun H1 H' O O' r eff hO => ⟨Rs.step eff hO _ _ r.1, Rs.step eff hO _ _ r.2⟩
theorem rev_get {α : Type} {xs : List α} {i : Nat} (hi : i < xs.length) : xs.reverse[i]? = xs[xs.length - 1 - i]? := by rw [List.getElem?_reverse hi]
theorem wk_rev {a : Addr} {ys : List V} {vs : List PV} (h : SqL K H a ys) (hl : ys.length = vs.length) : Wk K H (Itv K a ys.length) vs.reverse (fun b => b = a) (fun H O => Rs K H O vs ys) where
  go := fun i H' k hi => by
    rw [List.length_reverse] at hi
    exact ⟨by omega, ys, ys[ys.length - 1 - i]'(by omega), sql_keep h fun o e => k a o rfl e, List.getElem?_eq_getElem _⟩
  stop := fun H' k => by
    rw [List.length_reverse]
    show ys.length ≤ vs.length
    omega
  yld := fun i H1 x H' k hi y => by
    obtain ⟨e, y⟩ := y
    subst e
    refine ⟨.refl _, fun O v ev r hT => ?_⟩
    rw [List.length_reverse] at hi
    rw [rev_get hi] at ev
    have := y ys (sql_keep h fun o e => k a o rfl e)
    rw [hl] at this
    exact Rs.get' r ev this
  base := fun H1 H' O O' r eff hO => Rs.step eff hO _ _ r

/-- the walked thing, by an operand's tree -/
theorem src_of {o : Od} {x : V} {fo : List Addr} {a : Addr} {ob : HO} (g : FR K H1 (plus F fo) fr1 σ fp1) (r : OR K H1 F fp1 o x fo) (ex : x = .ref a) (ho : H1 a = some ob) (hn : ∀ i, a ∈ fp1 i → ¬ OwA F fp1 o.al a) : ∀ i, a ∈ fp1 i → i ∈ o.al := fun i hi => by
  have := hn i hi
  exact Classical.byContradiction fun q => this (.inr ⟨i, hi, q⟩)
theorem R.lstAt {vs : List PV} {a : Addr} (h : R K H O (.lst vs) (.ref a)) : ∃ ys, H a = some (.lst ys) ∧ ¬ O a ∧ Rs K H O vs ys := by
  obtain ⟨a', ys, e, t, r⟩ := h
  cases e
  exact ⟨ys, t.1, t.2, r⟩
/-- a list operand that is walked: where it stands, its items -/
theorem OR.lst {o : Od} {x : V} {fo : List Addr} {vs : List PV} (r : OR K H1 F fp1 o x fo) (e : o.v = .lst vs) : ∃ a ys, x = .ref a ∧ H1 a = some (.lst ys) ∧ Rs K H1 (OwA F fp1 (elal o)) vs ys ∧ ∀ i, a ∈ fp1 i → i ∈ o.al := by
  have h1 := r.rt
  have h2 := r.r
  rw [e] at h1 h2
  obtain ⟨a, ys, ex, t, rs⟩ := h1
  refine ⟨a, ys, ex, t, rs, fun i hi => ?_⟩
  subst ex
  obtain ⟨ys', t', n, _⟩ := R.lstAt h2
  exact Classical.byContradiction fun q => n (.inr ⟨i, hi, q⟩)
theorem sndI_seq {e : Expr} {ie : IE} (h : Snd M G e ie) (hs : ∀ X, M.C X → ∀ x, foldedSetIterable e X.env x = pure x) : SndI M G tg e (.seq ie) := by
  obtain ⟨t, pe, s⟩ := h.pe
  refine ⟨⟨_, pi_orU (pi_orU (pi_listU pe) (pi_tupU pe)) (pi_strU pe), fun fr σ H F fp fr' im g e Q q => ?_⟩, hs⟩
  rw [evI] at e
  cases ea : evE G ie fr with
  | none => rw [ea] at e; cases e
  | some pr =>
  obtain ⟨fr1, o⟩ := pr
  rw [ea] at e
  simp only [Option.bind_some] at e
  cases ei : iterOf o.v with
  | none => rw [ei] at e; cases e
  | some vs =>
  rw [ei] at e
  cases e
  have fin : ∀ {x H1 fp1 fo J S B}, Ex K H F σ fr fp (mutd ie) H1 fr' fp1 fo o x → Wk K H1 J vs S B → B H1 (OwA F fp1 (elal o)) → (∀ a, S a → ∀ i, a ∈ fp1 i → i ∈ o.al) → Q J H1 := fun ex wk b hS =>
    q _ _ _ _ _ ⟨ex.hf0, by rw [mutdI]; exact ex.keep, by rw [mutdI]; exact ex.st, wk, b, hS⟩
  cases ev : o.v with
  | lst ws =>
    rw [ev] at ei
    cases ei
    refine .inl (.inl (s fr σ H F fp _ _ g ea _ fun x H1 fp1 fo ex => ?_))
    obtain ⟨a, ys, ex', t, rs, hS⟩ := ex.od.lst ev
    exact ⟨a, ex', ⟨ys, SqL.of t⟩, fin ex (wk_list (SqL.of t) rs.length) rs fun b hb i hi => by rw [hb] at hi; exact hS i hi⟩
  | scr ws =>
    rw [ev] at ei
    cases ei
    refine .inl (.inl (s fr σ H F fp _ _ g ea _ fun x H1 fp1 fo ex => ?_))
    have h1 := ex.od.rt
    rw [ev] at h1
    obtain ⟨a, ys, ex', t, rs⟩ := h1
    refine ⟨a, ex', ⟨ys, t.sq⟩, ?_⟩
    rcases t with ⟨t, n⟩ | t
    · have n : ¬ OwA F fp1 (elal o) a := n
      refine fin (S := fun b => b = a) ex (wk_listS (fun H' k => sql_keep (.inl t) fun o e => k a o rfl e) rs.length) rs fun b hb i hi => ?_
      subst hb
      unfold elal at n
      exact Classical.byContradiction fun q => n (.inr ⟨i, hi, by split <;> simp [q]⟩)
    · exact fin (S := fun _ => False) ex (wk_listS (fun H' _ => .inr t) rs.length) rs fun _ z => z.elim
  | tup ws =>
    rw [ev] at ei
    cases ei
    refine .inl (.inr (s fr σ H F fp _ _ g ea _ fun x H1 fp1 fo ex => ?_))
    have h1 := ex.od.rt
    rw [ev] at h1
    obtain ⟨a, ys, ex', t, rs⟩ := h1
    refine ⟨a, ex', ⟨ys, t.sq⟩, ?_⟩
    rcases t with ⟨t, n⟩ | t
    · have n : ¬ OwA F fp1 (elal o) a := n
      refine fin (S := fun b => b = a) ex (wk_tup (fun H' k => sqt_keep (.inl t) fun o e => k a o rfl e) rs.length) rs fun b hb i hi => ?_
      subst hb
      unfold elal at n
      exact Classical.byContradiction fun q => n (.inr ⟨i, hi, by split <;> simp [q]⟩)
    · exact fin (S := fun _ => False) ex (wk_tup (fun H' _ => .inr t) rs.length) rs fun _ z => z.elim
  | str z =>
    rw [ev] at ei
    have ei : (if z.length ≤ sizeLine then some (z.cps.toList.map fun c => PV.str ⟨#[c]⟩) else none) = some vs := ei
    split at ei <;> cases ei
    refine .inr (s fr σ H F fp _ _ g ea _ fun x H1 fp1 fo ex => ?_)
    have h1 := ex.od.r
    rw [ev] at h1
    exact ⟨z, h1, fin ex wk_str trivial fun _ z => z.elim⟩
  | _ => rw [ev] at ei; cases ei
theorem sndI_rng1 {a : Expr} {ia : IE} {p pos : Pos} (h : Snd M G a ia) (ns : NoStaru M a) (hg : Glu M "range") (hm : Mgu M "range") : SndI M G tg (.Call (.Name "range" p) [a] [] pos) (.rng1 ia) := by
  obtain ⟨t, pe, s⟩ := h.pe
  refine ⟨⟨_, pi_range1U hg hm (pa_consU pe pa_nilU ns) ns, fun fr σ H F fp fr' im g e Q q => ?_⟩, fun _ _ _ => rfl⟩
  rw [evI] at e
  cases ea : evE G ia fr with
  | none => rw [ea] at e; cases e
  | some pr =>
  obtain ⟨fr1, o⟩ := pr
  rw [ea] at e
  simp only [Option.bind_some] at e
  cases ev : o.v with
  | int j =>
    rw [ev] at e
    have e : ((if -(2 ^ 62) ≤ j ∧ j < 2 ^ 62 then some (rangeP 0 j.toNat) else none).bind fun vs => some (fr1, (⟨vs, [], []⟩ : Itm))) = some (fr', im) := e
    split at e <;> cases e
    rename_i hj
    refine s fr σ H F fp _ _ g ea _ fun x H1 fp1 fo ex => ?_
    refine ⟨j, by rw [intOf ex.od ev], hj.1, hj.2, ?_⟩
    exact q _ _ _ (fun _ => False) (fun _ _ => True) ⟨ex.hf0, by rw [mutdI]; exact ex.keep, by rw [mutdI]; exact ex.st, wk_range, trivial, fun _ z => z.elim⟩
  | _ => rw [ev] at e; cases e
theorem sndI_rng2 {a b : Expr} {ia ib : IE} {p pos : Pos} (ha : Snd M G a ia) (hb : Snd M G b ib) (ns : NoStaru M a) (ns2 : NoStaru M b) (hg : Glu M "range") (hm : Mgu M "range") : SndI M G tg (.Call (.Name "range" p) [a, b] [] pos) (.rng2 ia ib) := by
  obtain ⟨ta, pa, sa⟩ := ha.pe
  obtain ⟨tb, pb, sb⟩ := hb.pe
  refine ⟨⟨_, pi_range2U hg hm (pa_consU pa (pa_consU pb pa_nilU ns2) ns) ns ns2, fun fr σ H F fp fr' im g e Q q => ?_⟩, fun _ _ _ => rfl⟩
  rw [evI] at e
  cases ea : evE G ia fr with
  | none => rw [ea] at e; cases e
  | some pr =>
  obtain ⟨fr1, o⟩ := pr
  rw [ea] at e
  simp only [Option.bind_some] at e
  cases eb : evE G ib fr1 with
  | none => rw [eb] at e; cases e
  | some pr =>
  obtain ⟨fr2, o2⟩ := pr
  rw [eb] at e
  simp only [Option.bind_some] at e
  cases ev : o.v with
  | int i =>
    cases ev2 : o2.v with
    | int j =>
      rw [ev, ev2] at e
      have e : ((if -(2 ^ 62) ≤ i ∧ i < 2 ^ 62 ∧ -(2 ^ 62) ≤ j ∧ j < 2 ^ 62 then some (rangeP i (j - i).toNat) else none).bind fun vs => some (fr2, (⟨vs, [], []⟩ : Itm))) = some (fr', im) := e
      split at e <;> cases e
      rename_i hj
      refine sa fr σ H F fp _ _ g ea _ fun x H1 fp1 fo ex => ?_
      refine sb fr1 σ H1 F fp1 _ _ ex.hf0 eb _ fun y H2 fp2 f2 ey => ?_
      refine ⟨i, j, by rw [intOf ex.od ev, intOf ey.od ev2], hj, ?_⟩
      have exy := ex.then ey
      exact q _ _ _ (fun _ => False) (fun _ _ => True) ⟨exy.hf0, by rw [mutdI]; exact exy.keep, by rw [mutdI]; exact exy.st, wk_range, trivial, fun _ z => z.elim⟩
    | _ => rw [ev, ev2] at e; cases e
  | _ => rw [ev] at e; cases e
theorem sndI_enum {elts : List Expr} {kk : Nat} {tpos : Pos} {a : Expr} {ia : IE} {p pos : Pos} (h : Snd M G a ia) (ns : NoStaru M a) (hg : Glu M "enumerate") (hm : Mgu M "enumerate") : SndI M G (.Tuple elts kk tpos) (.Call (.Name "enumerate" p) [a] [] pos) (.enum ia) := by
  obtain ⟨t, pe, s⟩ := h.pe
  refine ⟨⟨_, pi_enumU hg hm (pa_consU pe pa_nilU ns) ns, fun fr σ H F fp fr' im g e Q q => ?_⟩, fun _ _ _ => rfl⟩
  rw [evI] at e
  cases ea : evE G ia fr with
  | none => rw [ea] at e; cases e
  | some pr =>
  obtain ⟨fr1, o⟩ := pr
  rw [ea] at e
  simp only [Option.bind_some] at e
  cases ev : o.v with
  | lst vs =>
    rw [ev] at e
    cases e
    refine s fr σ H F fp _ _ g ea _ fun x H1 fp1 fo ex => ?_
    obtain ⟨a, ys, ex', t, rs, hS⟩ := ex.od.lst ev
    refine ⟨a, ys, by rw [ex'], SqL.of t, ?_⟩
    exact q _ _ _ _ _ ⟨ex.hf0, by rw [mutdI]; exact ex.keep, by rw [mutdI]; exact ex.st, wk_enum (SqL.of t) rs.length, rs, fun b hb i hi => by rw [hb] at hi; exact hS i hi⟩
  | _ => rw [ev] at e; cases e
theorem sndI_rev {a : Expr} {ia : IE} {p pos : Pos} (h : Snd M G a ia) (ns : NoStaru M a) (hg : Glu M "reversed") (hm : Mgu M "reversed") : SndI M G tg (.Call (.Name "reversed" p) [a] [] pos) (.rev ia) := by
  obtain ⟨t, pe, s⟩ := h.pe
  refine ⟨⟨_, pi_revU hg hm (pa_consU pe pa_nilU ns) ns, fun fr σ H F fp fr' im g e Q q => ?_⟩, fun _ _ _ => rfl⟩
  rw [evI] at e
  cases ea : evE G ia fr with
  | none => rw [ea] at e; cases e
  | some pr =>
  obtain ⟨fr1, o⟩ := pr
  rw [ea] at e
  simp only [Option.bind_some] at e
  cases ev : o.v with
  | lst vs =>
    rw [ev] at e
    cases e
    refine s fr σ H F fp _ _ g ea _ fun x H1 fp1 fo ex => ?_
    obtain ⟨a, ys, ex', t, rs, hS⟩ := ex.od.lst ev
    refine ⟨a, ys, by rw [ex'], SqL.of t, ?_⟩
    exact q _ _ _ _ _ ⟨ex.hf0, by rw [mutdI]; exact ex.keep, by rw [mutdI]; exact ex.st, wk_rev (SqL.of t) rs.length, rs, fun b hb i hi => by rw [hb] at hi; exact hS i hi⟩
  | _ => rw [ev] at e; cases e
theorem sndI_zip {elts : List Expr} {kk : Nat} {tpos : Pos} {a b : Expr} {ia ib : IE} {p pos : Pos} (ha : Snd M G a ia) (hb : Snd M G b ib) (ns : NoStaru M a) (ns2 : NoStaru M b) (hg : Glu M "zip") (hm : Mgu M "zip") :
    SndI M G (.Tuple elts kk tpos) (.Call (.Name "zip" p) [a, b] [] pos) (.zip ia ib) := by
  obtain ⟨ta, pa, sa⟩ := ha.pe
  obtain ⟨tb, pb, sb⟩ := hb.pe
  refine ⟨⟨_, pi_zipU hg hm (pa_consU pa (pa_consU pb pa_nilU ns2) ns) ns ns2, fun fr σ H F fp fr' im g e Q q => ?_⟩, fun _ _ _ => rfl⟩
  rw [evI] at e
  cases ea : evE G ia fr with
  | none => rw [ea] at e; cases e
  | some pr =>
  obtain ⟨fr1, o⟩ := pr
  rw [ea] at e
  simp only [Option.bind_some] at e
  split at e
  rotate_left
  · cases e
  rename_i dj
  cases eb : evE G ib fr1 with
  | none => rw [eb] at e; cases e
  | some pr =>
  obtain ⟨fr2, o2⟩ := pr
  rw [eb] at e
  simp only [Option.bind_some] at e
  cases ev : o.v with
  | lst vs =>
    cases ev2 : o2.v with
    | lst ws =>
      rw [ev, ev2] at e
      cases e
      refine sa fr σ H F fp _ _ g ea _ fun x H1 fp1 fo ex => ?_
      refine sb fr1 σ H1 (plus F fo) fp1 _ _ ex.hf eb _ fun y H2 fp2 f2 ey => ?_
      have ox := ex.od.later ex.hf (fun i hi => (ey.keep i hi).2) ey.st dj
      have oy := ey.od.monoF (F' := F) fun a z => .inl z
      obtain ⟨a, ys, ex', t, rs, hS⟩ := ox.lst ev
      obtain ⟨b, zs, ey', t2, rs2, hS2⟩ := oy.lst ev2
      refine ⟨a, b, ys, zs, by rw [ex', ey'], SqL.of t, SqL.of t2, ?_⟩
      have exy := ex.then (H2 := H2) (y := y) (o2 := o2) (fr2 := fr') (f2 := f2) (D' := mutd ib) (fp2 := fp2) ⟨ey.hf.monoF fun a z => z.elim (fun z => .inl (.inl z)) .inr, ey.keep, ey.st, ey.nw, oy⟩
      refine q _ _ _ _ _ ⟨exy.hf0, by rw [mutdI]; exact exy.keep, by rw [mutdI]; exact exy.st, wk_zip (SqL.of t) (SqL.of t2) rs.length rs2.length, ⟨rs.mono fun a z => OwA.mono (fun i hi => List.mem_append_left _ hi) z, rs2.mono fun a z => OwA.mono (fun i hi => List.mem_append_right _ hi) z⟩, fun c hc i hi => ?_⟩
      rcases hc with hc | hc
      · rw [hc] at hi; exact List.mem_append_left _ (hS i hi)
      · rw [hc] at hi; exact List.mem_append_right _ (hS2 i hi)
    | _ => rw [ev, ev2] at e; cases e
  | _ => rw [ev] at e; cases e
end
end VI
namespace VI
open PySem PySem.Spec PyProof.Rows L2
section
variable {K : PySem.W.Frag} {M : Fam K} {G : GE} {H H' H1 H2 : Hp} {F O O' : Addr → Prop} {fr fr1 fr2 : Fr} {σ : L2.St} {fp fp1 fp2 : FP} {tg : Expr}
/-! ### a range backwards -/
theorem wk_revr {lo top : Int} {n m : Nat} (hm : m = n) (ht : top = lo + n - 1) : Wk K H (Itc top (-1) m) (rangeP lo n).reverse (fun _ => False) (fun _ _ => True) where
  go := fun i H' k hi => by rw [List.length_reverse, rangeP_length] at hi; show i < m; omega
  stop := fun H' k => by rw [List.length_reverse, rangeP_length]; show m ≤ n; omega
  yld := fun i H1 x H' k hi y => by
    obtain ⟨e, ex⟩ := y
    subst e
    refine ⟨.refl _, fun O v ev r hT => ?_⟩
    rw [List.length_reverse, rangeP_length] at hi
    rw [List.getElem?_reverse (by rw [rangeP_length]; exact hi), rangeP_length] at ev
    rw [rangeP_get ev, ex, ht]
    show V.int _ = V.int _
    congr 1
    omega
  base := fun _ _ _ _ _ _ _ => trivial
theorem ev_range1 {ia : IE} {fr fr' : Fr} {o : Od} (e : evE G (.prim .range1 (.cons ia .nil)) fr = some (fr', o)) : ∃ o1 j, evE G ia fr = some (fr', o1) ∧ o1.v = .int j ∧ 0 ≤ j ∧ j ≤ 16777216 ∧ o = ⟨.lst (rangeP 0 j.toNat), 1, [], false⟩ := by
  rw [evE, evL_one] at e
  dsimp only at e
  cases ea : evE G ia fr with
  | none => rw [ea] at e; cases e
  | some pr =>
  obtain ⟨fr1, o1⟩ := pr
  rw [ea] at e
  simp only [Option.bind_some, List.map_cons, List.map_nil] at e
  cases ev : o1.v with
  | int j =>
    rw [ev] at e
    have e : ((if 0 ≤ j ∧ j ≤ 16777216 then some (PV.lst (rangeP 0 j.toNat)) else none).bind fun v => some (fr1, (⟨v, primM .range1 v, primAl .range1 [o1], false⟩ : Od))) = some (fr', o) := e
    split at e <;> cases e
    rename_i hj
    exact ⟨o1, j, rfl, ev, hj.1, hj.2, rfl⟩
  | _ => rw [ev] at e; cases e
theorem ev_range2 {ia ib : IE} {fr fr' : Fr} {o : Od} (e : evE G (.prim .range2 (.cons ia (.cons ib .nil))) fr = some (fr', o)) : ∃ fr1 o1 o2 i j, evE G ia fr = some (fr1, o1) ∧ evE G ib fr1 = some (fr', o2) ∧ o1.v = .int i ∧ o2.v = .int j ∧ (-(2 ^ 62) ≤ i ∧ i < 2 ^ 62 ∧ -(2 ^ 62) ≤ j ∧ j < 2 ^ 62) ∧ o = ⟨.lst (rangeP i (j - i).toNat), 1, [], false⟩ := by
  rw [evE, evL_two] at e
  unfold ev2 at e
  cases ea : evE G ia fr with
  | none => rw [ea] at e; cases e
  | some pr =>
  obtain ⟨fr1, o1⟩ := pr
  rw [ea] at e
  simp only [Option.bind_some] at e
  split at e
  case isFalse => cases e
  cases eb : evE G ib fr1 with
  | none => rw [eb] at e; cases e
  | some pr =>
  obtain ⟨fr2, o2⟩ := pr
  rw [eb] at e
  simp only [Option.bind_some, List.map_cons, List.map_nil] at e
  cases ev : o1.v with
  | int i =>
    cases ev2 : o2.v with
    | int j =>
      rw [ev, ev2] at e
      have e : ((if -(2 ^ 62) ≤ i ∧ i < 2 ^ 62 ∧ -(2 ^ 62) ≤ j ∧ j < 2 ^ 62 ∧ (j - i).toNat ≤ 16777216 then some (PV.lst (rangeP i (j - i).toNat)) else none).bind fun v => some (fr2, (⟨v, primM .range2 v, primAl .range2 [o1, o2], false⟩ : Od))) = some (fr', o) := e
      split at e <;> cases e
      rename_i hj
      exact ⟨fr1, o1, o2, i, j, rfl, eb, ev, ev2, ⟨hj.1, hj.2.1, hj.2.2.1, hj.2.2.2.1⟩, rfl⟩
    | _ => rw [ev, ev2] at e; cases e
  | _ => rw [ev] at e; cases e
theorem sndI_revR1 {a : Expr} {ia : IE} {p p2 pos pos2 : Pos} (h : Snd M G a ia) (ns : NoStaru M a) (hg : Glu M "reversed") (hm : Mgu M "reversed") (hg2 : Glu M "range") (hm2 : Mgu M "range") :
    SndI M G tg (.Call (.Name "reversed" p) [.Call (.Name "range" p2) [a] [] pos2] [] pos) (.rev (.prim .range1 (.cons ia .nil))) := by
  obtain ⟨t, pe, s⟩ := h.pe
  refine ⟨⟨_, fun X hX => pi_revR (hg X hX) (hm X hX) (prg_1 (hg2 X hX) (hm2 X hX) (pe X hX) (ns X hX _)) rfl, fun fr σ H F fp fr' im g e Q q => ?_⟩, fun _ _ _ => rfl⟩
  rw [evI] at e
  cases ea : evE G (.prim .range1 (.cons ia .nil)) fr with
  | none => rw [ea] at e; cases e
  | some pr =>
  obtain ⟨fr1, o⟩ := pr
  rw [ea] at e
  obtain ⟨o1, j, e1, ev, h0, h1, rfl⟩ := ev_range1 ea
  cases e
  refine s fr σ H F fp _ _ g e1 _ fun x H1 fp1 fo ex => ?_
  refine ⟨j, by rw [intOf ex.od ev], by omega, by omega, by omega, by omega, ?_⟩
  refine q _ _ _ (fun _ => False) (fun _ _ => True) ⟨ex.hf0, by rw [mutdI, mutd, mutdL_one]; exact ex.keep, by rw [mutdI, mutd, mutdL_one]; exact ex.st, wk_revr (by omega) (by omega), trivial, fun _ z => z.elim⟩
theorem sndI_revR2 {a b : Expr} {ia ib : IE} {p p2 pos pos2 : Pos} (ha : Snd M G a ia) (hb : Snd M G b ib) (ns : NoStaru M a) (ns2 : NoStaru M b) (hg : Glu M "reversed") (hm : Mgu M "reversed") (hg2 : Glu M "range") (hm2 : Mgu M "range") :
    SndI M G tg (.Call (.Name "reversed" p) [.Call (.Name "range" p2) [a, b] [] pos2] [] pos) (.rev (.prim .range2 (.cons ia (.cons ib .nil)))) := by
  obtain ⟨ta, pa, sa⟩ := ha.pe
  obtain ⟨tb, pb, sb⟩ := hb.pe
  refine ⟨⟨_, fun X hX => pi_revR (hg X hX) (hm X hX) (prg_2 (hg2 X hX) (hm2 X hX) (pa X hX) (pb X hX) (ns X hX _) (ns2 X hX _) (by rw [ns2 X hX]; rfl)) rfl, fun fr σ H F fp fr' im g e Q q => ?_⟩, fun _ _ _ => rfl⟩
  rw [evI] at e
  cases ea : evE G (.prim .range2 (.cons ia (.cons ib .nil))) fr with
  | none => rw [ea] at e; cases e
  | some pr =>
  obtain ⟨fr1, o⟩ := pr
  rw [ea] at e
  obtain ⟨fr2, o1, o2, i, j, e1, e2, ev, ev2, hj, rfl⟩ := ev_range2 ea
  cases e
  refine sa fr σ H F fp _ _ g e1 _ fun x H1 fp1 fo ex => ?_
  refine sb fr2 σ H1 F fp1 _ _ ex.hf0 e2 _ fun y H2 fp2 f2 ey => ?_
  refine ⟨i, j, by rw [intOf ex.od ev], by rw [intOf ey.od ev2], hj.1, hj.2.1, hj.2.2.1, hj.2.2.2, ?_⟩
  have exy := ex.then ey
  exact q _ _ _ (fun _ => False) (fun _ _ => True) ⟨exy.hf0, by rw [mutdI, mutd, mutdL_two]; exact exy.keep, by rw [mutdI, mutd, mutdL_two]; exact exy.st, wk_revr rfl rfl, trivial, fun _ z => z.elim⟩
end
end VI
namespace VI
open PySem PySem.Spec PyProof.Rows L2

section
variable {K : PySem.W.Frag} {M : Fam K} {G : GE} {H H' H1 H2 : Hp} {F O O' : Addr → Prop} {fr fr' fr1 fr2 : Fr} {σ σ' : L2.St} {fp fp' fp1 fp2 : FP}
def fpSet (fp : FP) (i : Nat) (fo : List Addr) : FP := fun j => if j = i then fo else fp j
theorem fpSet_same {i : Nat} {fo : List Addr} : fpSet fp i fo i = fo := if_pos rfl
theorem fpSet_ne {i j : Nat} {fo : List Addr} (h : j ≠ i) : fpSet fp i fo j = fp j := if_neg h
theorem lt_of_some {α : Type} {l : List α} {i : Nat} {a : α} (h : l[i]? = some a) : i < l.length := by
  by_cases q : i < l.length
  · exact q
  · rw [List.getElem?_eq_none (by omega)] at h; cases h
/-- a slot is bound -/
theorem FR.bind (g : FR K H (plus F fo) fr σ fp) {i m : Nat} {p : Bool} {v : PV} {x : V} (hi : i < fr.length) (r : RM K H (Ow (plus F fo) fp) m v x fo) (nd : fo.Nodup) (ap : ∀ b ∈ fo, ¬ F b) :
    FR K H F (fr.set i (some ⟨m, p, v⟩)) (σ.set i (some x)) (fpSet fp i fo) := by
  have sub : ∀ a, Ow F (fpSet fp i fo) a → Ow (plus F fo) fp a := fun a z => by
    rcases z with z | ⟨j, z⟩
    · exact .inl (.inl z)
    · by_cases q : j = i
      · subst q; rw [fpSet_same] at z; exact .inl (.inr z)
      · rw [fpSet_ne q] at z; exact .inr ⟨j, z⟩
  refine ⟨by rw [List.length_set, List.length_set]; exact g.len, fun j s e => ?_, fun j hj => ?_, fun j => ?_, fun j l a ha hb => ?_, fun a ha => ?_⟩
  · by_cases q : j = i
    · subst q
      rw [List.getElem?_set_self hi] at e
      cases e
      exact ⟨x, List.getElem?_set_self (by rw [g.len]; exact hi), by rw [fpSet_same]; exact r.mono sub⟩
    · rw [List.getElem?_set_ne (Ne.symm q)] at e
      obtain ⟨y, ey, ry⟩ := g.slot j s e
      exact ⟨y, by rw [List.getElem?_set_ne (Ne.symm q)]; exact ey, by rw [fpSet_ne q]; exact ry.mono sub⟩
  · by_cases q : j = i
    · subst q
      exact absurd (List.getElem?_set_self hi) (hj _)
    · rw [fpSet_ne q]
      exact g.emp j fun s e => hj s (by rw [List.getElem?_set_ne (Ne.symm q)]; exact e)
  · by_cases q : j = i
    · subst q; rw [fpSet_same]; exact nd
    · rw [fpSet_ne q]; exact g.nd j
  · by_cases q : j = i
    · by_cases q2 : l = i
      · rw [q, q2]
      · subst q
        rw [fpSet_same] at ha
        rw [fpSet_ne q2] at hb
        exact absurd hb ((g.amb a (.inr ha)).2 l)
    · by_cases q2 : l = i
      · subst q2
        rw [fpSet_same] at hb
        rw [fpSet_ne q] at ha
        exact absurd ha ((g.amb a (.inr hb)).2 j)
      · rw [fpSet_ne q] at ha
        rw [fpSet_ne q2] at hb
        exact g.disj j l a ha hb
  · refine ⟨(g.amb a (.inl ha)).1, fun j hj => ?_⟩
    by_cases q : j = i
    · subst q; rw [fpSet_same] at hj; exact ap a hj ha
    · rw [fpSet_ne q] at hj; exact (g.amb a (.inl ha)).2 j hj
theorem setS_some {i m : Nat} {v : PV} (h : setS i m v fr = some fr') : i < fr.length ∧ fr' = fr.set i (some ⟨m, false, v⟩) := by
  unfold setS at h
  split at h
  · rename_i s e
    split at h <;> cases h
    exact ⟨lt_of_some e, rfl⟩
  · rename_i e
    cases h
    exact ⟨lt_of_some e, rfl⟩
  · cases h

/-! ### targets -/
mutual
def patSl : Pat → List Nat
  | .nm i => [i]
  | .tp ps => patSls ps
def patSls : Pats → List Nat
  | .nil => []
  | .cons p ps => patSl p ++ patSls ps
end
/-- what an assignment by a pattern leaves -/
structure ExP (K : PySem.W.Frag) (H : Hp) (F : Addr → Prop) (σ : L2.St) (fr : Fr) (fp : FP) (D : List Nat) (fr' : Fr) (σ' : L2.St) (fp' : FP) : Prop where
  hf : FR K H F fr' σ' fp'
  keep : ∀ i, i ∉ D → fr'[i]? = fr[i]? ∧ fp' i = fp i ∧ σ'[i]? = σ[i]?
  sub : ∀ i a, a ∈ fp' i → a ∈ fp i
  len : σ'.length = σ.length
theorem ExP.refl (g : FR K H F fr σ fp) (D : List Nat) : ExP K H F σ fr fp D fr σ fp := ⟨g, fun _ _ => ⟨rfl, rfl, rfl⟩, fun _ _ h => h, rfl⟩
theorem ExP.trans {D : List Nat} (a : ExP K H F σ fr fp D fr1 σ1 fp1) (b : ExP K H F σ1 fr1 fp1 D fr2 σ2 fp2) : ExP K H F σ fr fp D fr2 σ2 fp2 :=
  ⟨b.hf, fun i hi => ⟨(b.keep i hi).1.trans (a.keep i hi).1, (b.keep i hi).2.1.trans (a.keep i hi).2.1, (b.keep i hi).2.2.trans (a.keep i hi).2.2⟩, fun i x h => a.sub i x (b.sub i x h), b.len.trans a.len⟩
theorem ExP.weak {D D' : List Nat} (a : ExP K H F σ fr fp D fr1 σ1 fp1) (h : ∀ i ∈ D, i ∈ D') : ExP K H F σ fr fp D' fr1 σ1 fp1 := ⟨a.hf, fun i hi => a.keep i fun z => hi (h i z), a.sub, a.len⟩
theorem ExP.ow {D : List Nat} (a : ExP K H F σ fr fp D fr1 σ1 fp1) : ∀ b, Ow F fp1 b → Ow F fp b := fun b z => z.elim .inl fun ⟨i, z⟩ => .inr ⟨i, a.sub i b z⟩
structure SndP {K : PySem.W.Frag} (M : Fam K) (tg : Expr) (p : Pat) : Prop where
  pg : ∃ t, PGu M tg t ∧ ∀ v fr σ H F fp fr' x, FR K H F fr σ fp → asgP p v fr = some fr' → R K H (Ow F fp) v x → ∀ Q : L2.St → Hp → Prop, (∀ σ' fp', ExP K H F σ fr fp (patSl p) fr' σ' fp' → Q σ' H) → t x σ H Q
structure SndPs {K : PySem.W.Frag} (M : Fam K) (es : List Expr) (ps : Pats) : Prop where
  pg : ∃ t, PGsu M es t ∧ ∀ vs fr σ H F fp fr' xs, FR K H F fr σ fp → asgPs ps vs fr = some fr' → Rs K H (Ow F fp) vs xs → ∀ Q : L2.St → Hp → Prop, (∀ σ' fp', ExP K H F σ fr fp (patSls ps) fr' σ' fp' → Q σ' H) → t xs σ H Q
  len : ∀ X, M.C X → (assignEach es X.env).length = es.length
  lenv : ∀ vs fr fr', asgPs ps vs fr = some fr' → vs.length = es.length
  st : ∀ X, M.C X → (assignEach es X.env).findIdx? (·.1) = none
theorem FR.set0 (g : FR K H F fr σ fp) {i : Nat} {v : PV} {x : V} (e : setS i 0 v fr = some fr') (r : R K H (Ow F fp) v x) : ExP K H F σ fr fp [i] fr' (σ.set i (some x)) (fpSet fp i []) := by
  obtain ⟨hi, rfl⟩ := setS_some e
  refine ⟨FR.bind g.plusNil hi ?_ .nil (fun _ z => nomatch z), fun j hj => ?_, fun j a ha => ?_, List.length_set⟩
  · rw [RM.zero]
    exact ⟨rfl, r.mono fun a z => z.elim (fun z => z.elim .inl fun z => nomatch z) .inr⟩
  · have q : j ≠ i := fun z => hj (by rw [z]; exact List.mem_singleton.mpr rfl)
    exact ⟨List.getElem?_set_ne (Ne.symm q), fpSet_ne q, List.getElem?_set_ne (Ne.symm q)⟩
  · by_cases q : j = i
    · subst q; rw [fpSet_same] at ha; cases ha
    · rw [fpSet_ne q] at ha; exact ha
theorem sndP_nm {i : Nat} {x : Str} {pos : Pos} (hpg : PGu M (.Name x pos) (gName i)) : SndP M (.Name x pos) (.nm i) :=
  ⟨⟨_, hpg, fun v fr σ H F fp fr' y g e r Q q => by
    rw [asgP] at e
    exact q _ _ (by rw [patSl]; exact g.set0 e r)⟩⟩
theorem sndPs_nil : SndPs M [] .nil := ⟨⟨_, pgs_nilU, fun vs fr σ H F fp fr' xs g e r Q q => by
    cases vs with
    | cons _ _ => rw [asgPs] at e <;> first | cases e | simp
    | nil =>
      rw [asgPs] at e
      cases e
      exact ⟨r, q σ fp (.refl g _)⟩⟩, fun _ _ => rfl, fun vs fr fr' e => by
    cases vs with
    | cons _ _ => rw [asgPs] at e <;> first | cases e | simp
    | nil => rfl, fun _ _ => rfl⟩
theorem asgPs_cons (p : Pat) (ps : Pats) (vs : List PV) (fr : Fr) : asgPs (.cons p ps) vs fr = match vs with
    | v :: vs => (asgP p v fr).bind fun fr1 => asgPs ps vs fr1
    | [] => none := by cases vs <;> rfl
/-- a target of ours is a name or a tuple -/
abbrev TgOk {K : PySem.W.Frag} (M : Fam K) (e : Expr) : Prop := ∀ X, M.C X → ∀ es, assignEach (e :: es) X.env = (false, assign e X.env) :: assignEach es X.env
theorem sndPs_cons {e : Expr} {es : List Expr} {p : Pat} {ps : Pats} (ok : TgOk M e) (h : SndP M e p) (hs : SndPs M es ps) : SndPs M (e :: es) (.cons p ps) := by
  obtain ⟨t, pg, s⟩ := h.pg
  obtain ⟨ts, pgs, ss⟩ := hs.pg
  refine ⟨⟨_, fun X h => pgs_cons (pg X h) (pgs X h) (by rw [ok X h]; rfl), fun vs fr σ H F fp fr' xs g e r Q q => ?_⟩, fun X h => ?_, fun vs fr fr' e => ?_, fun X h => ?_⟩
  · rw [asgPs_cons] at e
    cases vs with
    | nil => cases e
    | cons v vs =>
      simp only at e
      cases e1 : asgP p v fr with
      | none => rw [e1] at e; cases e
      | some fr1 =>
        rw [e1] at e
        obtain ⟨y, ys, rfl, r1, r2⟩ := r
        refine ⟨y, ys, rfl, s v fr σ H F fp fr1 y g e1 r1 _ fun σ1 fp1 e1 => ?_⟩
        refine ss vs fr1 σ1 H F fp1 fr' ys e1.hf e (r2.mono e1.ow) _ fun σ2 fp2 e2 => ?_
        exact q σ2 fp2 (by rw [patSls]; exact (e1.weak fun i z => List.mem_append_left _ z).trans (e2.weak fun i z => List.mem_append_right _ z))
  · rw [ok X h, List.length_cons, List.length_cons, hs.len X h]
  · rw [asgPs_cons] at e
    cases vs with
    | nil => cases e
    | cons v vs =>
      simp only at e
      cases e1 : asgP p v fr with
      | none => rw [e1] at e; cases e
      | some fr1 =>
        rw [e1] at e
        rw [List.length_cons, List.length_cons, hs.lenv vs fr1 fr' e]
  · rw [ok X h, List.findIdx?_cons]
    simp [hs.st X h]
theorem sndP_tp {es : List Expr} {k : Nat} {pos : Pos} {ps : Pats} (hc : ∀ X, M.C X → X.calm = true) (h : SndPs M es ps) : SndP M (.Tuple es k pos) (.tp ps) := by
  obtain ⟨t, pg, s⟩ := h.pg
  refine ⟨⟨_, pg_orU (fun X hX => pg_tupK (M.k X hX) (hc X hX) (pg X hX) (h.len X hX) (h.st X hX)) (fun X hX => pg_lstK (M.k X hX) (hc X hX) (pg X hX) (h.len X hX) (h.st X hX)), fun v fr σ H F fp fr' x g e r Q q => ?_⟩⟩
  cases v with
  | tup vs =>
    rw [asgP] at e
    obtain ⟨a, ys, rfl, tt, rs⟩ := r
    exact .inl ⟨a, ys, rfl, tt.sq, by rw [rs.length, h.lenv vs fr fr' e], s vs fr σ H F fp fr' ys g e rs Q fun σ' fp' e' => q σ' fp' (by rw [patSl]; exact e')⟩
  | lst vs =>
    rw [asgP] at e
    obtain ⟨a, ys, rfl, tt, rs⟩ := r
    exact .inr ⟨a, ys, rfl, SqL.of tt.1, by rw [rs.length, h.lenv vs fr fr' e], s vs fr σ H F fp fr' ys g e rs Q fun σ' fp' e' => q σ' fp' (by rw [patSl]; exact e')⟩
  | _ => rw [asgP] at e <;> first | cases e | (intro _ z; cases z) | simp
end
end VI
namespace VI
open PySem PySem.Spec PyProof.Rows L2

section
variable {K : PySem.W.Frag} {M Mb : Fam K} {G : GE} {H H' H1 H2 : Hp} {F F' O O' : Addr → Prop} {fr fr' fr1 fr2 : Fr} {σ σ' : L2.St} {fp fp' fp1 fp2 : FP}
def fpWipe (fp : FP) (own : List Nat) : FP := fun i => if i ∈ own then [] else fp i
theorem wipeF_length (fr : Fr) : ∀ own : List Nat, (wipeF fr own).length = fr.length
  | [] => rfl
  | i :: is => by rw [wipeF, List.length_set, wipeF_length fr is]
theorem wipeF_in {fr : Fr} : ∀ {own : List Nat} {i : Nat}, i ∈ own → ∀ s, (wipeF fr own)[i]? ≠ some (some s)
  | j :: own, i, h, s, e => by
    rw [wipeF] at e
    by_cases q : j = i
    · subst q
      by_cases l : j < (wipeF fr own).length
      · rw [List.getElem?_set_self l] at e; cases e
      · rw [List.getElem?_eq_none (by rw [List.length_set]; omega)] at e; cases e
    · rw [List.getElem?_set_ne q] at e
      exact wipeF_in ((List.mem_cons.mp h).resolve_left (Ne.symm q)) s e
theorem wipeF_out {fr : Fr} : ∀ {own : List Nat} {i : Nat}, i ∉ own → (wipeF fr own)[i]? = fr[i]?
  | [], i, _ => rfl
  | j :: own, i, h => by
    rw [wipeF, List.getElem?_set_ne (fun z => h (by rw [z]; exact List.mem_cons_self))]
    exact wipeF_out fun z => h (List.mem_cons_of_mem _ z)
theorem wipe_out' {σ : L2.St} : ∀ {own : List Nat} {i : Nat}, i ∉ own → (wipe σ own)[i]? = σ[i]?
  | [], i, _ => rfl
  | j :: own, i, h => by
    rw [wipe, List.getElem?_set_ne (fun z => h (by rw [z]; exact List.mem_cons_self))]
    exact wipe_out' fun z => h (List.mem_cons_of_mem _ z)
theorem wipe_congr : ∀ {own : List Nat} {σ σ' : L2.St}, σ'.length = σ.length → (∀ i, i ∉ own → σ'[i]? = σ[i]?) → wipe σ' own = wipe σ own := by
  intro own σ σ' hl h
  apply List.ext_getElem?
  intro i
  by_cases q : i ∈ own
  · have key : ∀ (own : List Nat) (τ : L2.St), i ∈ own → (wipe τ own)[i]? = if i < τ.length then some none else none := by
      intro own
      induction own with
      | nil => intro τ h; cases h
      | cons j own ih =>
        intro τ h
        rw [wipe]
        by_cases e : j = i
        · subst e
          by_cases l : j < τ.length
          · rw [if_pos l, List.getElem?_set_self (by rw [wipe_length]; exact l)]
          · rw [if_neg l, List.getElem?_eq_none (by rw [List.length_set, wipe_length]; omega)]
        · rw [List.getElem?_set_ne e]
          exact ih τ ((List.mem_cons.mp h).resolve_left (Ne.symm e))
    rw [key own σ' q, key own σ q, hl]
  · rw [wipe_out' q, wipe_out' q]
    exact h i q
theorem fpWipe_in {own : List Nat} {i : Nat} (h : i ∈ own) : fpWipe fp own i = [] := if_pos h
theorem fpWipe_out {own : List Nat} {i : Nat} (h : i ∉ own) : fpWipe fp own i = fp i := if_neg h
theorem fpWipe_sub {own : List Nat} {i : Nat} {a : Addr} (h : a ∈ fpWipe fp own i) : i ∉ own ∧ a ∈ fp i := by
  by_cases q : i ∈ own
  · rw [fpWipe_in q] at h; cases h
  · rw [fpWipe_out q] at h; exact ⟨q, h⟩
/-- slots put aside; their lists are kept apart, or (if F' does not say so) forgotten -/
theorem FR.wipe (g : FR K H F fr σ fp) (own : List Nat) (hF : ∀ a, F' a → F a ∨ ∃ i ∈ own, a ∈ fp i) : FR K H F' (wipeF fr own) (L2.wipe σ own) (fpWipe fp own) where
  len := by rw [wipe_length, wipeF_length]; exact g.len
  slot := fun i s e => by
    by_cases q : i ∈ own
    · exact absurd e (wipeF_in q s)
    · rw [wipeF_out q] at e
      obtain ⟨x, ex, r⟩ := g.slot i s e
      refine ⟨x, by rw [wipe_out' q]; exact ex, ?_⟩
      rw [fpWipe_out q]
      refine r.mono fun a z => ?_
      rcases z with z | ⟨j, z⟩
      · rcases hF a z with z | ⟨j, _, z⟩
        · exact .inl z
        · exact .inr ⟨j, z⟩
      · exact .inr ⟨j, (fpWipe_sub z).2⟩
  emp := fun i h => by
    by_cases q : i ∈ own
    · exact fpWipe_in q
    · rw [fpWipe_out q]
      exact g.emp i fun s e => h s (by rw [wipeF_out q]; exact e)
  nd := fun i => by
    by_cases q : i ∈ own
    · rw [fpWipe_in q]; exact .nil
    · rw [fpWipe_out q]; exact g.nd i
  disj := fun i j a ha hb => g.disj i j a (fpWipe_sub ha).2 (fpWipe_sub hb).2
  amb := fun a z => by
    rcases hF a z with z | ⟨j, hj, z⟩
    · exact ⟨(g.amb a z).1, fun i hi => (g.amb a z).2 i (fpWipe_sub hi).2⟩
    · refine ⟨g.tracked z, fun i hi => ?_⟩
      obtain ⟨n, hi⟩ := fpWipe_sub hi
      rw [g.disj i j a hi z] at n
      exact n hj
theorem backF_length (fr0 fr : Fr) : ∀ own : List Nat, (backF fr0 fr own).length = fr.length
  | [] => rfl
  | i :: is => by rw [backF, List.length_set, backF_length fr0 fr is]
theorem backF_in {fr0 fr : Fr} (hl : fr.length = fr0.length) : ∀ {own : List Nat} {i : Nat}, i ∈ own → (backF fr0 fr own)[i]? = fr0[i]?
  | j :: own, i, h => by
    rw [backF]
    by_cases q : j = i
    · subst q
      by_cases l : j < fr0.length
      · rw [List.getElem?_set_self (by rw [backF_length, hl]; exact l), List.getElem?_eq_getElem l]
        rfl
      · rw [List.getElem?_eq_none (by rw [List.length_set, backF_length, hl]; omega), List.getElem?_eq_none (by omega)]
    · rw [List.getElem?_set_ne q]
      exact backF_in hl ((List.mem_cons.mp h).resolve_left (Ne.symm q))
theorem backF_out {fr0 fr : Fr} : ∀ {own : List Nat} {i : Nat}, i ∉ own → (backF fr0 fr own)[i]? = fr[i]?
  | [], i, _ => rfl
  | j :: own, i, h => by
    rw [backF, List.getElem?_set_ne (fun z => h (by rw [z]; exact List.mem_cons_self))]
    exact backF_out fun z => h (List.mem_cons_of_mem _ z)

/-- a clause's tests -/
structure SndTs {K : PySem.W.Frag} (M : Fam K) (G : GE) (ifs : List Expr) (ts : IEs) : Prop where
  pts : ∃ t, PTsu M ifs t ∧ ∀ fr σ H F fp fr' k, FR K H F fr σ fp → evT G ts fr = some (fr', k) → ∀ Q : Bool → Hp → Prop, (∀ H' fp', FR K H' F fr' σ fp' → (∀ i, i ∉ mutdL ts → fr'[i]? = fr[i]? ∧ fp' i = fp i) → StepD (mutdL ts) H fp H' fp' → Q k H') → t σ H Q
theorem sndTs_nil : SndTs M G [] .nil := ⟨⟨_, fun X h => pts_nil, fun fr σ H F fp fr' k g e Q q => by
    rw [evT] at e
    cases e
    exact q H fp g (fun _ _ => ⟨rfl, rfl⟩) (.refl _ _ _)⟩⟩
theorem sndTs_one {c : Expr} {ic : IE} (h : SndT M G c ic) : SndTs M G [c] (.cons ic .nil) := by
  obtain ⟨t, pt, s⟩ := h
  refine ⟨⟨_, fun X h => pts_one (pt X h), fun fr σ H F fp fr' k g e Q q => ?_⟩⟩
  rw [evT] at e
  cases ea : evE G ic fr with
  | none => rw [ea] at e; cases e
  | some pr =>
    obtain ⟨fr1, o⟩ := pr
    rw [ea] at e
    simp only [Option.bind_some] at e
    split at e <;> cases e
    rename_i ek
    refine s fr σ H F fp _ _ _ g ea ek _ fun H1 fp1 fo ex => ?_
    exact q H1 fp1 ex.hf0 (by rw [mutdL_one]; exact ex.keep) (by rw [mutdL_one]; exact ex.st)

/-- the footprints with those put aside -/
def fpJoin (fp0 fp : FP) (own : List Nat) : FP := fun i => if i ∈ own then fp0 i else fp i
theorem fpJoin_in {fp0 : FP} {own : List Nat} {i : Nat} (h : i ∈ own) : fpJoin fp0 fp own i = fp0 i := if_pos h
theorem fpJoin_out {fp0 : FP} {own : List Nat} {i : Nat} (h : i ∉ own) : fpJoin fp0 fp own i = fp i := if_neg h
/-- the state between two turns of a comprehension that began at H1, fr1, fp1 -/
structure LcI (K : PySem.W.Frag) (H1 : Hp) (F : Addr → Prop) (σ : L2.St) (fr1 : Fr) (fp1 : FP) (own Dm als : List Nat) (k : Nat) (D : Addr) (H : Hp) (fr : Fr) (fp : FP) (accs : List PV) (ys : List V) (fs : List Addr) : Prop where
  hf : FR K H (fun a => F a ∨ (∃ i ∈ own, a ∈ fp1 i) ∨ a ∈ D :: fs) (wipeF fr own) (L2.wipe σ own) fp
  len : fr.length = fr1.length
  keep : ∀ i, i ∉ Dm → i ∉ own → fr[i]? = fr1[i]? ∧ fp i = fp1 i
  st : StepD (Dm.filter fun i => !own.contains i) H1 fp1 H (fpJoin fp1 fp own)
  d : H D = some (.lst ys)
  acc : RMs K H (OwA (plus F (D :: fs)) (fpJoin fp1 fp own) als) (k - 1) accs ys fs
  nw : ∀ b ∈ D :: fs, H1 b = none
  nd : (D :: fs).Nodup
  small : accs.length ≤ sizeLine
theorem LcI.ow {own Dm als : List Nat} {k : Nat} {D : Addr} {accs : List PV} {ys : List V} {fs : List Addr} (_ : LcI K H1 F σ fr1 fp1 own Dm als k D H fr fp accs ys fs) (a : Addr) (hw : ∀ i ∈ own, fp i = []) :
    Ow (plus F (D :: fs)) (fpJoin fp1 fp own) a ↔ Ow (fun a => F a ∨ (∃ i ∈ own, a ∈ fp1 i) ∨ a ∈ D :: fs) fp a := by
  constructor
  · intro z
    rcases z with (z | z) | ⟨i, z⟩
    · exact .inl (.inl z)
    · exact .inl (.inr (.inr z))
    · by_cases q : i ∈ own
      · rw [fpJoin_in q] at z; exact .inl (.inr (.inl ⟨i, q, z⟩))
      · rw [fpJoin_out q] at z; exact .inr ⟨i, z⟩
  · intro z
    rcases z with (z | ⟨i, q, z⟩ | z) | ⟨i, z⟩
    · exact .inl (.inl z)
    · exact .inr ⟨i, by rw [fpJoin_in q]; exact z⟩
    · exact .inl (.inr z)
    · by_cases q : i ∈ own
      · rw [hw i q] at z; cases z
      · exact .inr ⟨i, by rw [fpJoin_out q]; exact z⟩
theorem LcI.empty {own Dm als : List Nat} {k : Nat} {D : Addr} {accs : List PV} {ys : List V} {fs : List Addr} (h : LcI K H1 F σ fr1 fp1 own Dm als k D H fr fp accs ys fs) : ∀ i ∈ own, fp i = [] := fun i hi => h.hf.emp i (wipeF_in hi)

/-- the end of a comprehension -/
theorem LcI.fin {own Dm als : List Nat} {k : Nat} {D : Addr} {accs : List PV} {ys : List V} {fs : List Addr} (hk : k ≠ 0) (g1 : FR K H1 F fr1 σ fp1) (h : LcI K H1 F σ fr1 fp1 own Dm als k D H fr fp accs ys fs) :
    Ex K H1 F σ fr1 fp1 Dm H (backF fr1 fr own) (fpJoin fp1 fp own) (D :: fs) ⟨.lst accs, k, als, false⟩ (.ref D) where
  hf := by
    have hw := h.empty
    refine ⟨by rw [backF_length, h.len]; exact g1.len, fun i s e => ?_, fun i hn => ?_, fun i => ?_, fun i j a ha hb => ?_, fun a ha => ?_⟩
    · by_cases q : i ∈ own
      · rw [backF_in h.len q] at e
        obtain ⟨x, ex, r⟩ := g1.slot i s e
        refine ⟨x, ex, ?_⟩
        rw [fpJoin_in q]
        refine RM.step (fun b o eb n => h.st.eff b o eb fun j _ hj => n (.inr ⟨j, hj⟩)) (fun a z => ?_) _ _ _ _ (fun b hb o eb => h.st.eff b o eb fun j hj hbj => ?_) r
        · rcases z with (z | z) | ⟨j, z⟩
          · exact .inl (.inl z)
          · exact .inr (h.nw a z)
          · rcases h.st.sub j a z with z | z
            · exact .inl (.inr ⟨j, z⟩)
            · exact .inr z
        · rw [List.mem_filter] at hj
          have := g1.disj i j b hb hbj
          subst this
          have := hj.2
          simp [q] at this
      · rw [backF_out q] at e
        obtain ⟨x, ex, r⟩ := h.hf.slot i s (by rw [wipeF_out q]; exact e)
        rw [wipe_out' q] at ex
        refine ⟨x, ex, ?_⟩
        rw [fpJoin_out q]
        exact r.mono fun a z => (h.ow a hw).mp z
    · by_cases q : i ∈ own
      · rw [fpJoin_in q]
        exact g1.emp i fun s e => hn s (by rw [backF_in h.len q]; exact e)
      · rw [fpJoin_out q]
        exact h.hf.emp i fun s e => hn s (by rw [backF_out q]; rw [wipeF_out q] at e; exact e)
    · by_cases q : i ∈ own
      · rw [fpJoin_in q]; exact g1.nd i
      · rw [fpJoin_out q]; exact h.hf.nd i
    · by_cases q : i ∈ own
      · rw [fpJoin_in q] at ha
        by_cases q2 : j ∈ own
        · rw [fpJoin_in q2] at hb; exact g1.disj i j a ha hb
        · rw [fpJoin_out q2] at hb
          exact absurd hb ((h.hf.amb a (.inr (.inl ⟨i, q, ha⟩))).2 j)
      · rw [fpJoin_out q] at ha
        by_cases q2 : j ∈ own
        · rw [fpJoin_in q2] at hb
          exact absurd ha ((h.hf.amb a (.inr (.inl ⟨j, q2, hb⟩))).2 i)
        · rw [fpJoin_out q2] at hb; exact h.hf.disj i j a ha hb
    · have am := h.hf.amb a (ha.elim .inl fun z => .inr (.inr z))
      refine ⟨am.1, fun i hi => ?_⟩
      by_cases q : i ∈ own
      · rw [fpJoin_in q] at hi
        rcases ha with ha | ha
        · exact (g1.amb a ha).2 i hi
        · obtain ⟨o, e⟩ := g1.tracked hi
          rw [h.nw a ha] at e; cases e
      · rw [fpJoin_out q] at hi; exact am.2 i hi
  keep := fun i hi => by
    by_cases q : i ∈ own
    · exact ⟨backF_in h.len q, fpJoin_in q⟩
    · obtain ⟨h1, h2⟩ := h.keep i hi q
      exact ⟨(backF_out q).trans h1, (fpJoin_out q).trans h2⟩
  st := h.st.mono fun i hi => (List.mem_filter.mp hi).1
  nw := h.nw
  od := by
    refine ⟨?_, h.nd, fun b hb z => ?_, fun z => nomatch z⟩
    · cases k with
      | zero => exact absurd rfl hk
      | succ k =>
        refine ⟨D, ys, fs, rfl, h.d, rfl, ?_⟩
        exact h.acc
    · have nb := h.nw b hb
      rcases z with z | ⟨i, z⟩
      · obtain ⟨o, e⟩ := (g1.amb b z).1
        rw [nb] at e; cases e
      · by_cases q : i ∈ own
        · rw [fpJoin_in q] at z
          obtain ⟨o, e⟩ := g1.tracked z
          rw [nb] at e; cases e
        · rw [fpJoin_out q] at z
          exact (h.hf.amb b (.inr (.inr hb))).2 i z
/-- its start -/
theorem LcI.start {own Dm als : List Nat} {k : Nat} {D : Addr} (g1 : FR K H1 F fr1 σ fp1) (hD : H1 D = none) : LcI K H1 F σ fr1 fp1 own Dm als k D (upd H1 D (.lst [])) fr1 (fpWipe fp1 own) [] [] [] where
  hf := by
    have g : FR K H1 (fun a => F a ∨ ∃ i ∈ own, a ∈ fp1 i) (wipeF fr1 own) (L2.wipe σ own) (fpWipe fp1 own) := g1.wipe own fun a z => z
    refine g.go (upd_eff hD) (fun a z => ?_) fun a z => ?_
    · rcases z with z | z | z
      · exact .inl (.inl z)
      · exact .inl (.inr z)
      · rw [List.mem_singleton.mp z]; exact .inr hD
    · rcases z with z | z | z
      · obtain ⟨o, e⟩ := (g.amb a (.inl z)).1; exact ⟨o, upd_eff hD a o e⟩
      · obtain ⟨o, e⟩ := (g.amb a (.inr z)).1; exact ⟨o, upd_eff hD a o e⟩
      · rw [List.mem_singleton.mp z]; exact ⟨_, upd_same⟩
  len := rfl
  keep := fun i _ q => ⟨rfl, fpWipe_out q⟩
  st := ⟨fun b o e _ => upd_eff hD b o e, fun i a z => by
    by_cases q : i ∈ own
    · rw [fpJoin_in q] at z; exact .inl z
    · rw [fpJoin_out q, fpWipe_out q] at z; exact .inl z, fun b o e => ⟨o, upd_eff hD b o e⟩⟩
  d := upd_same
  acc := ⟨rfl, rfl⟩
  nw := fun b hb => by rw [List.mem_singleton.mp hb]; exact hD
  nd := by simp
  small := Nat.zero_le _
end
end VI
namespace VI
open PySem PySem.Spec PyProof.Rows L2

section
variable {K : PySem.W.Frag} {M Mb : Fam K} {G : GE} {H H' H1 H2 H4 : Hp} {F F' O O' : Addr → Prop} {fr fr' fr1 fr2 fr3 fr5 : Fr} {σ σ' σ2 : L2.St} {fp fp' fp1 fp2 fp4 : FP}
/-- an ambient object is written -/
theorem FR.updAmb (g : FR K H F fr σ fp) {D : Addr} {o : HO} (hD : F D) : FR K (upd H D o) F fr σ fp where
  len := g.len
  slot := fun i s e => by
    obtain ⟨x, ex, r⟩ := g.slot i s e
    exact ⟨x, ex, RM.step (fun b u eb n => by
      rw [upd_ne (fun z => n (.inl (by rw [z]; exact hD)))]; exact eb) (fun a z => .inl z) _ _ _ _ (fun b hb u eb => by
      rw [upd_ne (fun z => (g.amb D hD).2 i (by rw [← z]; exact hb))]; exact eb) r⟩
  emp := g.emp
  nd := g.nd
  disj := g.disj
  amb := fun a ha => ⟨by
    by_cases q : a = D
    · subst q; exact ⟨_, upd_same⟩
    · obtain ⟨u, e⟩ := (g.amb a ha).1
      exact ⟨u, by rw [upd_ne q]; exact e⟩, (g.amb a ha).2⟩

theorem RMs.mono (hO : ∀ a, O' a → O a) {n : Nat} {vs : List PV} {ys : List V} {fs : List Addr} (h : RMs K H O n vs ys fs) : RMs K H O' n vs ys fs := RMs.step (fun _ _ e _ => e) (fun a z => .inl (hO a z)) _ _ _ _ (fun _ _ _ e => e) h
abbrev FB (F : Addr → Prop) (own : List Nat) (fp1 : FP) (D : Addr) (fs : List Addr) : Addr → Prop := fun a => F a ∨ (∃ i ∈ own, a ∈ fp1 i) ∨ a ∈ D :: fs
theorem mem_filt {own Dm : List Nat} {i : Nat} (h : i ∈ Dm) (n : i ∉ own) : i ∈ Dm.filter fun i => !own.contains i := List.mem_filter.mpr ⟨h, by simp [n]⟩
/-- a turn, before the new item is appended -/
theorem LcI.mid {own Dm als : List Nat} {k : Nat} {D : Addr} {accs : List PV} {ys : List V} {fs fo : List Addr} {pt : List Nat} (h : LcI K H1 F σ fr1 fp1 own Dm als k D H fr fp accs ys fs) (ext : Ext H H')
    (dja : disj als Dm = true) (hpt : ∀ i ∈ pt, i ∈ own) (e2 : ExP K H' (FB F own fp1 D fs) (L2.wipe σ own) (wipeF fr own) fp pt fr3 σ2 fp2)
    (g5 : FR K H4 (plus (FB F own fp1 D fs) fo) fr5 σ2 fp4) (keep : ∀ i, i ∉ Dm → fr5[i]? = fr3[i]? ∧ fp4 i = fp2 i) (st4 : StepD Dm H' fp2 H4 fp4) (nwo : ∀ b ∈ fo, H b = none) :
    L2.wipe σ2 own = L2.wipe σ own ∧ RMs K H4 (OwA (plus F (D :: (fs ++ fo))) (fpJoin fp1 (fpWipe fp4 own) own) als) (k - 1) accs ys fs ∧ LcI K H1 F σ fr1 fp1 own Dm als k D H4 fr5 (fpWipe fp4 own) accs ys fs ∧ FR K H4 (plus (FB F own fp1 D fs) fo) (wipeF fr5 own) (L2.wipe σ own) (fpWipe fp4 own) := by
  have hwp : L2.wipe σ2 own = L2.wipe σ own := by
    refine wipe_congr (by rw [e2.len, wipe_length]) fun i hi => ?_
    rw [(e2.keep i fun z => hi (hpt i z)).2.2, wipe_out' hi]
  have em := h.empty
  have em2 : ∀ i ∈ own, fp2 i = [] := fun i hi => by
    cases q : fp2 i with
    | nil => rfl
    | cons a l =>
      have := e2.sub i a (by rw [q]; exact List.mem_cons_self)
      rw [em i hi] at this; cases this
  -- what stays of H
  have eff : ∀ b o, H b = some o → (∀ i, i ∈ Dm → i ∉ own → b ∉ fp i) → H4 b = some o := fun b o e n => by
    refine st4.eff b o (ext b o e) fun i hi hb => ?_
    by_cases q : i ∈ own
    · rw [em2 i q] at hb; cases hb
    · exact n i hi q (e2.sub i b hb)
  have sub : ∀ i a, i ∉ own → a ∈ fp4 i → a ∈ fp i ∨ H a = none := fun i a q ha => by
    rcases st4.sub i a ha with z | z
    · exact .inl (e2.sub i a z)
    · refine .inr ?_
      cases e : H a with
      | none => rfl
      | some o => rw [ext a o e] at z; cases z
  have there : ∀ b o, H b = some o → ∃ o', H4 b = some o' := fun b o e => st4.there b o (ext b o e)
  have gx : FR K H4 (plus (FB F own fp1 D fs) fo) (wipeF fr5 own) (L2.wipe σ own) (fpWipe fp4 own) := by
    rw [← hwp]
    exact g5.wipe own fun a z => .inl z
  have acc : RMs K H4 (OwA (plus F (D :: (fs ++ fo))) (fpJoin fp1 (fpWipe fp4 own) own) als) (k - 1) accs ys fs := by
    refine RMs.step (fun b o e n => eff b o e fun i hi q hb => n (.inr ⟨i, by rw [fpJoin_out q]; exact hb, fun z => mem_disj dja z hi⟩)) (fun a z => ?_) _ _ _ _ (fun b hb o e => eff b o e fun i hi q hbi => ?_) h.acc
    · rcases z with (z | z) | ⟨i, z, n⟩
      · exact .inl (.inl (.inl z))
      · rcases List.mem_cons.mp z with z | z
        · rw [z]; exact .inl (.inl (.inr List.mem_cons_self))
        · rcases List.mem_append.mp z with z | z
          · exact .inl (.inl (.inr (List.mem_cons_of_mem _ z)))
          · exact .inr (nwo a z)
      · by_cases q : i ∈ own
        · rw [fpJoin_in q] at z; exact .inl (.inr ⟨i, by rw [fpJoin_in q]; exact z, n⟩)
        · rw [fpJoin_out q, fpWipe_out q] at z
          rcases sub i a q z with z | z
          · exact .inl (.inr ⟨i, by rw [fpJoin_out q]; exact z, n⟩)
          · exact .inr z
    · exact (h.hf.amb b (.inr (.inr (List.mem_cons_of_mem _ hb)))).2 i hbi
  refine ⟨hwp, acc, ⟨gx.monoF fun a z => .inl z, ?_, fun i hi q => ?_, ?_, ?_, ?_, h.nw, h.nd, h.small⟩, gx⟩
  · have l1 := g5.len
    have l2 := h.hf.len
    rw [wipe_length, wipeF_length] at l2
    rw [← l1, e2.len, wipe_length, l2, h.len]
  · have k1 := keep i hi
    have k2 := e2.keep i fun z => q (hpt i z)
    have k3 := h.keep i hi q
    exact ⟨(k1.1.trans k2.1).trans ((wipeF_out q).trans k3.1), by rw [fpWipe_out q]; exact (k1.2.trans k2.2.1).trans k3.2⟩
  · refine h.st.trans ⟨fun b o e n => eff b o e fun i hi q hb => n i (mem_filt hi q) (by rw [fpJoin_out q]; exact hb), fun i a ha => ?_, there⟩
    by_cases q : i ∈ own
    · rw [fpJoin_in q] at ha ⊢; exact .inl ha
    · rw [fpJoin_out q, fpWipe_out q] at ha
      rw [fpJoin_out q]
      exact sub i a q ha
  · refine eff D _ h.d fun i hi q hb => ?_
    exact (h.hf.amb D (.inr (.inr List.mem_cons_self))).2 i hb
  · refine acc.mono fun a z => ?_
    rcases z with (z | z) | z
    · exact .inl (.inl z)
    · rcases List.mem_cons.mp z with z | z
      · rw [z]; exact .inl (.inr List.mem_cons_self)
      · exact .inl (.inr (List.mem_cons_of_mem _ (List.mem_append_left _ z)))
    · exact .inr z
theorem RMs.append {n : Nat} : ∀ {vs : List PV} {ys : List V} {fs : List Addr} {v : PV} {y : V} {fo : List Addr}, RMs K H O n vs ys fs → RM K H O n v y fo → RMs K H O n (vs ++ [v]) (ys ++ [y]) (fs ++ fo)
  | [], ys, fs, v, y, fo, h, r => by
    obtain ⟨rfl, rfl⟩ := h
    exact ⟨y, [], fo, [], rfl, by simp, r, rfl, rfl⟩
  | w :: vs, ys, fs, v, y, fo, h, r => by
    obtain ⟨z, ys', f1, f2, e, ef, r1, q⟩ := h
    subst e ef
    exact ⟨z, ys' ++ [y], f1, f2 ++ fo, rfl, by rw [List.append_assoc], r1, RMs.append q r⟩
/-- the new item is appended -/
theorem R.plain {H : Hp} {O O' : Addr → Prop} {v : PV} {x : V} (h : plainB v = true) (r : R K H O v x) : R K H O' v x := by
  cases v <;> first | exact r | (exact absurd h Bool.false_ne_true)
theorem LcI.push {own Dm als : List Nat} {k : Nat} {D : Addr} {accs : List PV} {ys : List V} {fs fo : List Addr} {o : Od} {y : V} (h : LcI K H1 F σ fr1 fp1 own Dm als k D H4 fr5 (fpWipe fp4 own) accs ys fs)
    (gx : FR K H4 (plus (FB F own fp1 D fs) fo) (wipeF fr5 own) (L2.wipe σ own) (fpWipe fp4 own)) (od : OR K H4 (FB F own fp1 D fs) fp4 o y fo) (nwo : ∀ b ∈ fo, H1 b = none) (old0 : RMs K H4 (OwA (plus F (D :: (fs ++ fo))) (fpJoin fp1 (fpWipe fp4 own) own) als) (k - 1) accs ys fs)
    (ek : elOk k als o = true) (hz : accs.length < sizeLine) : ∃ fs', LcI K H1 F σ fr1 fp1 own Dm als k D (upd H4 D (.lst (ys ++ [y]))) fr5 (fpWipe fp4 own) (accs ++ [o.v]) (ys ++ [y]) fs' := by
  have hDn : H1 D = none := h.nw D List.mem_cons_self
  have hl : (accs ++ [o.v]).length ≤ sizeLine := by rw [List.length_append, List.length_singleton]; exact hz
  -- the objects of the new item that are owned
  have hex : ∃ f, (∀ a, a ∈ f → a ∈ fo) ∧ f.Nodup ∧ RM K H4 (OwA (plus F (D :: (fs ++ f))) (fpJoin fp1 (fpWipe fp4 own) own) als) (k - 1) o.v y f := by
    by_cases pl : k ≤ 1 ∧ plainB o.v = true
    · refine ⟨[], (fun _ z => nomatch z), .nil, ?_⟩
      rw [show k - 1 = 0 by omega, RM.zero]
      exact ⟨rfl, R.plain pl.2 od.r⟩
    have al : (∀ i ∈ o.al, i ∈ als) := by
      unfold elOk at ek
      split at ek
      · rename_i hk1
        intro i hi
        rw [Bool.or_eq_true] at ek
        have := List.all_eq_true.mp (ek.elim id fun z => absurd ⟨hk1, z⟩ pl) i hi
        simpa using this
      · intro i hi
        simp only [Bool.and_eq_true, List.isEmpty_iff] at ek
        rw [ek.2] at hi; cases hi
    have sb : ∀ a, OwA (plus F (D :: fs)) (fpJoin fp1 (fpWipe fp4 own) own) als a → OwA (FB F own fp1 D fs) fp4 o.al a := fun a z => by
      rcases z with (z | z) | ⟨i, z, n⟩
      · exact .inl (.inl z)
      · exact .inl (.inr (.inr z))
      · by_cases q : i ∈ own
        · rw [fpJoin_in q] at z; exact .inl (.inr (.inl ⟨i, q, z⟩))
        · rw [fpJoin_out q, fpWipe_out q] at z
          exact .inr ⟨i, z, fun w => n (al i w)⟩
    unfold elOk at ek
    split at ek
    · rename_i k1
      refine ⟨[], (fun _ z => nomatch z), .nil, ?_⟩
      rw [show k - 1 = 0 by omega, RM.zero]
      refine ⟨rfl, od.r.mono fun a z => sb a ?_⟩
      rw [List.append_nil] at z; exact z
    · simp only [Bool.and_eq_true, beq_iff_eq] at ek
      refine ⟨fo, fun _ z => z, od.nd, ?_⟩
      rw [← ek.1]
      refine od.rep.mono fun a z => ?_
      rcases z with (z | z) | ⟨i, z, n⟩
      · exact .inl (.inl (.inl z))
      · rcases List.mem_cons.mp z with z | z
        · rw [z]; exact .inl (.inl (.inr (.inr List.mem_cons_self)))
        · rcases List.mem_append.mp z with z | z
          · exact .inl (.inl (.inr (.inr (List.mem_cons_of_mem _ z))))
          · exact .inl (.inr z)
      · rcases sb a (.inr ⟨i, z, n⟩) with z | z
        · exact .inl (.inl z)
        · exact .inr z
  obtain ⟨f, hf, ndf, rm⟩ := hex
  have nf : ∀ b ∈ f, b ∉ D :: fs := fun b hb z => od.ap b (hf b hb) (.inl (.inr (.inr z)))
  have amb : ∀ a ∈ D :: (fs ++ f), plus (FB F own fp1 D fs) fo a := fun a z => by
    rcases List.mem_cons.mp z with z | z
    · rw [z]; exact .inl (.inr (.inr List.mem_cons_self))
    · rcases List.mem_append.mp z with z | z
      · exact .inl (.inr (.inr (List.mem_cons_of_mem _ z)))
      · exact .inr (hf a z)
  refine ⟨fs ++ f, ?_, h.len, h.keep, ?_, upd_same, ?_, fun b hb => ?_, ?_, hl⟩
  · refine FR.updAmb (gx.monoF fun a z => ?_) (.inr (.inr List.mem_cons_self))
    rcases z with z | z | z
    · exact .inl (.inl z)
    · exact .inl (.inr (.inl z))
    · exact amb a z
  · refine ⟨fun b o e n => ?_, h.st.sub, fun b o e => ?_⟩
    · rw [upd_ne (ne_of_none e hDn)]; exact h.st.eff b o e n
    · rw [upd_ne (ne_of_none e hDn)]; exact h.st.there b o e
  · have ow0 : ∀ a, OwA (plus F (D :: (fs ++ f))) (fpJoin fp1 (fpWipe fp4 own) own) als a → OwA (plus F (D :: fs)) (fpJoin fp1 (fpWipe fp4 own) own) als a ∨ a ∈ f := fun a z => by
      rcases z with (z | z) | z
      · exact .inl (.inl (.inl z))
      · rcases List.mem_cons.mp z with z | z
        · rw [z]; exact .inl (.inl (.inr List.mem_cons_self))
        · rcases List.mem_append.mp z with z | z
          · exact .inl (.inl (.inr (List.mem_cons_of_mem _ z)))
          · exact .inr z
      · exact .inl (.inr z)
    -- the older items avoid the new item's objects: they were laid before
    have old : RMs K H4 (OwA (plus F (D :: (fs ++ f))) (fpJoin fp1 (fpWipe fp4 own) own) als) (k - 1) accs ys fs := old0.mono fun a z => by
      rcases z with (z | z) | z
      · exact .inl (.inl z)
      · rcases List.mem_cons.mp z with z | z
        · rw [z]; exact .inl (.inr List.mem_cons_self)
        · rcases List.mem_append.mp z with z | z
          · exact .inl (.inr (List.mem_cons_of_mem _ (List.mem_append_left _ z)))
          · exact .inl (.inr (List.mem_cons_of_mem _ (List.mem_append_right _ (hf a z))))
      · exact .inr z
    have both := RMs.append old rm
    refine RMs.step (fun b o e n => ?_) (fun a z => .inl z) _ _ _ _ (fun b hb o e => ?_) both
    · rw [upd_ne (fun z => n (.inl (.inr (by rw [z]; exact List.mem_cons_self))))]; exact e
    · rw [upd_ne (fun z => ?_)]
      · exact e
      · rw [z] at hb
        rcases List.mem_append.mp hb with hb | hb
        · exact (List.nodup_cons.mp h.nd).1 hb
        · exact nf D hb List.mem_cons_self
  · rcases List.mem_cons.mp hb with hb | hb
    · rw [hb]; exact hDn
    · rcases List.mem_append.mp hb with hb | hb
      · exact h.nw b (List.mem_cons_of_mem _ hb)
      · exact nwo b (hf b hb)
  · rw [← List.cons_append]
    exact List.nodup_append.mpr ⟨h.nd, ndf, fun a ha b hb e => nf b hb (by rw [← e]; exact ha)⟩
end
end VI
namespace VI
open PySem PySem.Spec PyProof.Rows L2

section
variable {K : PySem.W.Frag} {M Mb : Fam K} {G : GE} {H H' H1 H2 H4 : Hp} {F F' O O' : Addr → Prop} {fr fr' fr1 fr2 fr3 fr5 : Fr} {σ σ' σ2 : L2.St} {fp fp' fp1 fp2 fp4 : FP}
/-- a turn of a comprehension -/
def lcTurn (G : GE) (own : List Nat) (pt : Pat) (ts : IEs) (e : IE) (k : Nat) (als : List Nat) : PV → Fr → Option (Fr × Option PV) := fun v fr2 => (asgP pt v (wipeF fr2 own)).bind fun fr3 => (evT G ts fr3).bind fun (fr4, t) => match t with
        | true => (evE G e fr4).bind fun (fr5, o) => if elOk k als o = true then some (fr5, some o.v) else none
        | false => some (fr4, none)
theorem evE_lc (own : List Nat) (pt : Pat) (it : IT) (ts : IEs) (e : IE) (k : Nat) (als : List Nat) (fr : Fr) : evE G (.lc own pt it ts e k als) fr = (evI G it fr).bind fun (fr1, im) => if (im.al.isEmpty && disj im.src (mutdL ts ++ mutd e) && disj als (mutdL ts ++ mutd e)) = true then
      (lcGo (lcTurn G own pt ts e k als) im.vs fr1 []).bind fun (fr6, acc) => some (backF fr1 fr6 own, ⟨.lst acc, k, als, false⟩)
    else none := by rw [evE]; rfl
theorem lcGo_cons (turn : PV → Fr → Option (Fr × Option PV)) (v : PV) (vs : List PV) (fr : Fr) (acc : List PV) : lcGo turn (v :: vs) fr acc = (turn v fr).bind fun (fr1, r) => match r with
    | some w => if acc.length < sizeLine then lcGo turn vs fr1 (acc ++ [w]) else none
    | none => lcGo turn vs fr1 acc := rfl
structure SndLc {K : PySem.W.Frag} (M : Fam K) (G : GE) (e : Expr) (ie : IE) : Prop where
  ex : ∃ t, PEu M e t ∧ Sat K (evE G ie) (mutd ie) t ∧ ∀ X, M.C X → ∀ i y py spos, X.N[i]? = some y → X.env.scope.names.lookup y = some .local → swapsWith e (some (.Name y py)) spos.line X.env = pure true → PS X (.Assign [.Name y py] e spos) (tAsg t (gName i))
theorem sndLc {elt tg iter : Expr} {ifs : List Expr} {scope : Scope} {own : List (Str × Nat)} {pos : Pos} {pt : Pat} {it : IT} {ts : IEs} {e : IE} {k : Nat} {als : List Nat}
    (hc : ∀ X, M.C X → X.calm = true) (hN : ∀ X, M.C X → X.N.Nodup) (ok : ∀ X, M.C X → BlkOk X.N X.env.scope scope own)
    (hb : ∀ X, M.C X → ∀ (s : Shared) (H : Hp) (C : Addr) (cl : List (Str × Addr)) (fp : List Addr), Mb.C (X.blk s H scope (compEnvC scope cl C X.env) fp))
    (hi : SndI M G tg iter it) (hp : SndP Mb tg pt) (ht : SndTs Mb G ifs ts) (he : Snd Mb G elt e) (hk : k ≠ 0) (hpt : ∀ i ∈ patSl pt, i ∈ own.map (·.2)) :
    SndLc M G (.ListComp elt [⟨tg, iter, ifs, 0⟩] scope pos) (.lc (own.map (·.2)) pt it ts e k als) := by
  obtain ⟨wi, pi, si⟩ := hi.pi
  obtain ⟨g, pg, sg⟩ := hp.pg
  obtain ⟨tt, ptt, stt⟩ := ht.pts
  obtain ⟨te, pe, se⟩ := he.pe
  refine ⟨⟨tLc wi g tt te (own.map (·.2)), fun X hX => pe_lc (hc X hX) (hN X hX) (pi X hX) (ok X hX) (fun s H C cl fp => pg _ (hb X hX s H C cl fp)) (fun s H C cl fp => ptt _ (hb X hX s H C cl fp)) (fun s H C cl fp => pe _ (hb X hX s H C cl fp)) (hi.hs X hX), ?_, fun X hX i y py spos hy hyl hsw =>
    ps_setLc (hc X hX) (hN X hX) hy hyl hsw (pi X hX) (ok X hX) (fun s H C cl fp => pg _ (hb X hX s H C cl fp)) (fun s H C cl fp => ptt _ (hb X hX s H C cl fp)) (fun s H C cl fp => pe _ (hb X hX s H C cl fp)) (hi.hs X hX)⟩⟩
  generalize hown : own.map (·.2) = ow at hpt ⊢
  intro fr σ H F fp fr' o g0 ev Q q
  rw [evE_lc] at ev
  cases ei : evI G it fr with
  | none => rw [ei] at ev; cases ev
  | some pr =>
  obtain ⟨fr1, im⟩ := pr
  rw [ei] at ev
  simp only [Option.bind_some] at ev
  split at ev
  case isFalse => cases ev
  rename_i cond
  simp only [Bool.and_eq_true, List.isEmpty_iff] at cond
  obtain ⟨⟨ial, djs⟩, dja⟩ := cond
  cases el : lcGo (lcTurn G ow pt ts e k als) im.vs fr1 [] with
  | none => rw [el] at ev; cases ev
  | some pr =>
  obtain ⟨fr6, acc⟩ := pr
  rw [el] at ev
  simp only [Option.bind_some, Option.some.injEq, Prod.mk.injEq] at ev
  obtain ⟨rfl, rfl⟩ := ev
  refine si fr σ H F fp fr1 im g0 ei _ fun J H1 fp1 S B ex => ?_
  intro D hD
  generalize hDm : mutdL ts ++ mutd e = Dm at djs dja
  have hmut : mutd (.lc ow pt it ts e k als) = mutdI it ++ Dm := by rw [mutd, hDm]
  have subT : ∀ i ∈ mutdL ts, i ∈ Dm := fun i z => by rw [← hDm]; exact List.mem_append_left _ z
  have subE : ∀ i ∈ mutd e, i ∈ Dm := fun i z => by rw [← hDm]; exact List.mem_append_right _ z
  have hB : B H1 (Ow F fp1) := ex.wk.base _ _ _ _ ex.b (fun _ _ e _ => e) fun a z => by
    rw [ial]; exact .inl (OwA.nil z)
  refine ⟨fun i m H => m = im.vs.length - i ∧ i ≤ im.vs.length ∧ ∃ fr fp accs ys fs, LcI K H1 F σ fr1 fp1 ow Dm als k D H fr fp accs ys fs ∧ lcGo (lcTurn G ow pt ts e k als) (im.vs.drop i) fr accs = some (fr6, acc),
    ⟨_, rfl, Nat.zero_le _, fr1, _, [], [], [], LcI.start ex.hf hD, el⟩, ?_⟩
  rintro i m H2 ⟨rfl, hil, fr2, fp2, accs, ys, fs, L, eg⟩
  -- what is walked stands
  have hS : ∀ b o, S b → H1 b = some o → H2 b = some o := fun b o sb e => L.st.eff b o e fun i hi hb => by
    have h1 := (List.mem_filter.mp hi).1
    exact mem_disj djs (ex.s b sb i hb) h1
  have em := L.empty
  by_cases hin : i < im.vs.length
  case neg =>
    have : i = im.vs.length := by omega
    subst this
    refine .inl ⟨ex.wk.stop H2 hS, ?_⟩
    rw [List.drop_length] at eg
    have eg : some (fr2, accs) = some (fr6, acc) := eg
    cases eg
    have fin := L.fin hk ex.hf
    refine q _ _ _ (D :: fs) ⟨fin.hf, fun i hi => ?_, ?_, fun b hb => ex.st.old (fin.nw b hb), fin.od⟩
    · rw [hmut] at hi
      have h1 := fin.keep i fun z => hi (List.mem_append_right _ z)
      have h2 := ex.keep i fun z => hi (List.mem_append_left _ z)
      exact ⟨h1.1.trans h2.1, h1.2.trans h2.2⟩
    · rw [hmut]
      exact (ex.st.mono fun i z => List.mem_append_left _ z).trans (fin.st.mono fun i z => List.mem_append_right _ z)
  obtain ⟨v, hv⟩ : ∃ v, im.vs[i]? = some v := ⟨_, List.getElem?_eq_getElem hin⟩
  rw [List.drop_eq_getElem_cons hin] at eg
  have hv' : im.vs[i] = v := by rw [List.getElem?_eq_getElem hin] at hv; exact Option.some.inj hv
  rw [hv', lcGo_cons] at eg
  refine .inr ⟨ex.wk.go i H2 hS hin, fun H' => ∃ fr fp accs ys fs, LcI K H1 F σ fr1 fp1 ow Dm als k D H' fr fp accs ys fs ∧ lcGo (lcTurn G ow pt ts e k als) (im.vs.drop (i + 1)) fr accs = some (fr6, acc), fun H' ⟨fr, fp, accs, ys, fs, L, eg⟩ => ⟨im.vs.length - (i + 1), by omega, rfl, hin, fr, fp, accs, ys, fs, L, eg⟩, fun x H3 hy => ?_⟩
  obtain ⟨ext, hr⟩ := ex.wk.yld i H2 x H3 hS hin hy
  have hB2 : B H2 (Ow (FB F ow fp1 D fs) fp2) := by
    refine ex.wk.base _ _ _ _ hB (fun b o e n => L.st.eff b o e fun i _ hb => n (.inr ⟨i, ?_⟩)) fun a z => ?_
    · exact hb
    · rcases (L.ow a em).mpr z with (z | z) | ⟨j, z⟩
      · exact .inl (.inl z)
      · exact .inr (L.nw a z)
      · rcases L.st.sub j a z with z | z
        · exact .inl (.inr ⟨j, z⟩)
        · exact .inr z
  have rx := hr _ v hv hB2 fun a z => L.hf.owTracked z
  have g3 : FR K H3 (FB F ow fp1 D fs) (wipeF fr2 ow) (L2.wipe σ ow) fp2 := L.hf.same ext
  cases et : lcTurn G ow pt ts e k als v fr2 with
  | none => rw [et] at eg; cases eg
  | some pr =>
  obtain ⟨frt, r⟩ := pr
  rw [et] at eg
  simp only [Option.bind_some] at eg
  unfold lcTurn at et
  cases ea : asgP pt v (wipeF fr2 ow) with
  | none => rw [ea] at et; cases et
  | some fr3 =>
  rw [ea] at et
  simp only [Option.bind_some] at et
  refine sg v _ _ H3 _ fp2 fr3 x g3 ea rx _ fun σ4 fp4 e4 => ?_
  cases eT : evT G ts fr3 with
  | none => rw [eT] at et; cases et
  | some pr =>
  obtain ⟨fr4, t⟩ := pr
  rw [eT] at et
  simp only [Option.bind_some] at et
  have hw4 : L2.wipe σ4 ow = L2.wipe σ ow := by
    refine wipe_congr (by rw [e4.len, wipe_length]) fun i hi => ?_
    rw [(e4.keep i fun z => hi (hpt i z)).2.2, wipe_out' hi]
  refine ⟨hw4, stt fr3 σ4 H3 _ fp4 fr4 t e4.hf eT _ fun H5 fp5 g5 keep5 st5 => ?_⟩
  cases t with
  | false =>
    simp only at et
    cases et
    rw [if_neg (by simp)]
    obtain ⟨_, _, L5, _⟩ := L.mid ext dja hpt e4 (fo := []) (H4 := H5) (g5.monoF fun a z => z.elim id fun z => nomatch z) (fun i hi => keep5 i fun z => hi (subT i z)) (st5.mono subT) (fun _ z => nomatch z)
    exact ⟨_, _, accs, ys, fs, L5, eg⟩
  | true =>
    simp only at et
    rw [if_pos rfl]
    cases ee : evE G e fr4 with
    | none => rw [ee] at et; cases et
    | some pr =>
    obtain ⟨fr5, o⟩ := pr
    rw [ee] at et
    simp only [Option.bind_some] at et
    split at et <;> cases et
    rename_i ek
    simp only at eg
    split at eg
    case isFalse => cases eg
    rename_i hz
    refine se fr4 σ4 H5 _ fp5 frt o g5 ee _ fun y H6 fp6 fo ex6 => ?_
    have nwo : ∀ b ∈ fo, H2 b = none := fun b hb => by
      have h1 := st5.old (ex6.nw b hb)
      cases e : H2 b with
      | none => rfl
      | some o => rw [ext b o e] at h1; cases h1
    obtain ⟨_, old, L6, gx⟩ := L.mid ext dja hpt e4 (fo := fo) (H4 := H6) ex6.hf (fun i hi => by
      have k1 := ex6.keep i fun z => hi (subE i z)
      have k2 := keep5 i fun z => hi (subT i z)
      exact ⟨k1.1.trans k2.1, k1.2.trans k2.2⟩) ((st5.mono subT).trans (ex6.st.mono subE)) nwo
    have hl : ys.length = accs.length := RMs.length L.acc
    obtain ⟨fs', L7⟩ := L6.push gx ex6.od (fun b hb => L.st.old (nwo b hb)) old ek hz
    exact ⟨ys, L6.d, by omega, _, _, _, _, _, L7, eg⟩
theorem SndLc.snd {e : Expr} {ie : IE} (h : SndLc M G e ie) (nv : ∀ i, ie ≠ .var i) : Snd M G e ie := by
  obtain ⟨t, pe, s, _⟩ := h.ex
  exact ⟨⟨t, pe, s⟩, fun i z => absurd z (nv i)⟩
end
end VI
namespace VI
open PySem PySem.Spec PyProof.Rows L2

/-! ### statements: what is assigned, what is returned by name -/
mutual
def asgdS : IS → List Nat
  | .asg i _ => [i]
  | .asgT p _ => patSl p
  | .aug i _ _ => [i]
  | .ite _ a b => asgdSs a ++ asgdSs b
  | .whl _ b => asgdSs b
  | .for p _ b => patSl p ++ asgdSs b
  | .xasg i _ => [i]
  | .xnn _ b => asgdSs b
  | .tryx i _ _ _ b h => asgdSs b ++ (i :: asgdSs h)
  | _ => []
def asgdSs : ISs → List Nat
  | .nil => []
  | .cons a as => asgdS a ++ asgdSs as
end
mutual
def retdS : IS → List Nat
  | .ret (.var i) => [i]
  | .xnn _ b => retdSs b
  | .tryx _ _ _ _ b h => retdSs b ++ retdSs h
  | .ite _ a b => retdSs a ++ retdSs b
  | .whl _ b => retdSs b
  | .for _ _ b => retdSs b
  | _ => []
def retdSs : ISs → List Nat
  | .nil => []
  | .cons a as => retdS a ++ retdSs as
end
section
variable {K : PySem.W.Frag} {M Mb : Fam K} {G : GE} {H H' H1 H2 H4 : Hp} {F F' O O' : Addr → Prop} {fr fr' fr1 fr2 fr3 fr5 : Fr} {σ σ' σ1 σ2 : L2.St} {fp fp' fp1 fp2 fp4 : FP} {D D' A A' B B' : List Nat}
structure ExS (K : PySem.W.Frag) (H : Hp) (F : Addr → Prop) (σ : L2.St) (fp : FP) (D A : List Nat) (H' : Hp) (fr' : Fr) (σ' : L2.St) (fp' : FP) : Prop where
  hf : FR K H' F fr' σ' fp'
  st : StepD D H fp H' fp'
  keep : ∀ i, i ∉ A → σ'[i]? = σ[i]?
  len : σ'.length = σ.length
structure ExR (K : PySem.W.Frag) (H : Hp) (F : Addr → Prop) (σ : L2.St) (fp : FP) (D A B : List Nat) (H' : Hp) (fr' : Fr) (σ' : L2.St) (fp' : FP) (fo : List Addr) (v : PV) (m : Nat) (x : V) : Prop where
  hf : FR K H' (plus F fo) fr' σ' fp'
  st : StepD D H fp H' fp'
  keep : ∀ i, i ∉ A → σ'[i]? = σ[i]?
  len : σ'.length = σ.length
  nw : ∀ b ∈ fo, H b = none ∨ ∃ i ∈ B, b ∈ fp i
  od : OR K H' F fp' ⟨v, m, [], false⟩ x fo
theorem ExS.refl (g : FR K H F fr σ fp) : ExS K H F σ fp D A H fr σ fp := ⟨g, .refl _ _ _, fun _ _ => rfl, rfl⟩
theorem ExS.weak (h : ExS K H F σ fp D A H1 fr1 σ1 fp1) (hD : ∀ i ∈ D, i ∈ D') (hA : ∀ i ∈ A, i ∈ A') : ExS K H F σ fp D' A' H1 fr1 σ1 fp1 := ⟨h.hf, h.st.mono hD, fun i n => h.keep i fun z => n (hA i z), h.len⟩
theorem ExS.trans (h : ExS K H F σ fp D A H1 fr1 σ1 fp1) (q : ExS K H1 F σ1 fp1 D A H2 fr2 σ2 fp2) : ExS K H F σ fp D A H2 fr2 σ2 fp2 := ⟨q.hf, h.st.trans q.st, fun i n => (q.keep i n).trans (h.keep i n), q.len.trans h.len⟩
theorem ExS.ret {fo : List Addr} {v : PV} {m : Nat} {x : V} (h : ExS K H F σ fp D A H1 fr1 σ1 fp1) (q : ExR K H1 F σ1 fp1 D A B H2 fr2 σ2 fp2 fo v m x) : ExR K H F σ fp D A B H2 fr2 σ2 fp2 fo v m x :=
  ⟨q.hf, h.st.trans q.st, fun i n => (q.keep i n).trans (h.keep i n), q.len.trans h.len, fun b hb => by
    rcases q.nw b hb with z | ⟨i, hi, z⟩
    · exact .inl (h.st.old z)
    · rcases h.st.sub i b z with z | z
      · exact .inr ⟨i, hi, z⟩
      · exact .inl z, q.od⟩
theorem ExR.weak {fo : List Addr} {v : PV} {m : Nat} {x : V} (h : ExR K H F σ fp D A B H1 fr1 σ1 fp1 fo v m x) (hD : ∀ i ∈ D, i ∈ D') (hA : ∀ i ∈ A, i ∈ A') (hB : ∀ i ∈ B, i ∈ B') : ExR K H F σ fp D' A' B' H1 fr1 σ1 fp1 fo v m x :=
  ⟨h.hf, h.st.mono hD, fun i n => h.keep i fun z => n (hA i z), h.len, fun b hb => (h.nw b hb).imp id fun ⟨i, hi, z⟩ => ⟨i, hB i hi, z⟩, h.od⟩

def PostS (K : PySem.W.Frag) (xw : XW) (H : Hp) (F : Addr → Prop) (σ : L2.St) (fp : FP) (D A B : List Nat) (fr' : Fr) (fl : Fl) (De : Ends) : Prop := match fl with
  | .next => ∀ σ' H' fp', ExS K H F σ fp D A H' fr' σ' fp' → De.nx σ' H'
  | .brk => ∀ σ' H' fp', ExS K H F σ fp D A H' fr' σ' fp' → De.bk σ' H'
  | .cont => ∀ σ' H' fp', ExS K H F σ fp D A H' fr' σ' fp' → De.ct σ' H'
  | .ret v m => (∀ x σ' H' fp' fo, ExR K H F σ fp D A B H' fr' σ' fp' fo v m x → De.rt x H') ∧
    ∀ c ns ws, v = .exn c ns ws → ∀ σ' H' fp' d, ExS K H F σ fp D A H' fr' σ' fp' → H d = none → ¬ Ow F fp' d → H' d = some (.xd (xdV ns ws)) → xw.W (.ref (xw.ca c)) (some d) σ' H'
theorem PostS.later {xw : XW} {fl : Fl} {De : Ends} (h : PostS K xw H F σ fp D A B fr' fl De) (e : ExS K H F σ fp D A H1 fr1 σ1 fp1) : PostS K xw H1 F σ1 fp1 D A B fr' fl De := by
  cases fl with
  | next => exact fun σ' H' fp' q => h σ' H' fp' (e.trans q)
  | brk => exact fun σ' H' fp' q => h σ' H' fp' (e.trans q)
  | cont => exact fun σ' H' fp' q => h σ' H' fp' (e.trans q)
  | ret v m => exact ⟨fun x σ' H' fp' fo q => h.1 x σ' H' fp' fo (e.ret q), fun c ns ws ev σ' H' fp' d q n1 n2 hd => h.2 c ns ws ev σ' H' fp' d (e.trans q) (e.st.old n1) n2 hd⟩
theorem PostS.weak {xw : XW} {fl : Fl} {De : Ends} (h : PostS K xw H F σ fp D A B fr' fl De) (hD : ∀ i ∈ D', i ∈ D) (hA : ∀ i ∈ A', i ∈ A) (hB : ∀ i ∈ B', i ∈ B) : PostS K xw H F σ fp D' A' B' fr' fl De := by
  cases fl with
  | next => exact fun σ' H' fp' q => h σ' H' fp' (q.weak hD hA)
  | brk => exact fun σ' H' fp' q => h σ' H' fp' (q.weak hD hA)
  | cont => exact fun σ' H' fp' q => h σ' H' fp' (q.weak hD hA)
  | ret v m => exact ⟨fun x σ' H' fp' fo q => h.1 x σ' H' fp' fo (q.weak hD hA hB), fun c ns ws ev σ' H' fp' d q n1 n2 hd => h.2 c ns ws ev σ' H' fp' d (q.weak hD hA) n1 n2 hd⟩
/-- another place to go on -/
theorem PostS.ends {xw : XW} {fl : Fl} {De De' : Ends} (h : PostS K xw H F σ fp D A B fr' fl De) (h1 : fl = .next → ∀ σ' H', De.nx σ' H' → De'.nx σ' H') (h2 : fl = .brk → ∀ σ' H', De.bk σ' H' → De'.bk σ' H') (h3 : fl = .cont → ∀ σ' H', De.ct σ' H' → De'.ct σ' H') (h4 : ∀ v m, fl = .ret v m → ∀ x H', De.rt x H' → De'.rt x H') :
    PostS K xw H F σ fp D A B fr' fl De' := by
  cases fl with
  | next => exact fun σ' H' fp' q => h1 rfl _ _ (h σ' H' fp' q)
  | brk => exact fun σ' H' fp' q => h2 rfl _ _ (h σ' H' fp' q)
  | cont => exact fun σ' H' fp' q => h3 rfl _ _ (h σ' H' fp' q)
  | ret v m => exact ⟨fun x σ' H' fp' fo q => h4 v m rfl _ _ (h.1 x σ' H' fp' fo q), h.2⟩

def SatS (K : PySem.W.Frag) (xw : XW) (ev : Fr → Option (Fr × Fl)) (D A B : List Nat) (t : TS) : Prop :=
  ∀ fr σ H F fp fr' fl, FR K H F fr σ fp → ev fr = some (fr', fl) → ∀ De : Ends, PostS K xw H F σ fp D A B fr' fl De → t De σ H
structure SndS {K : PySem.W.Frag} (M : Fam K) (G : GE) (st : Stmt) (is : IS) : Prop where
  ps : ∃ t, (∀ X, M.C X → PS X st t) ∧ SatS K M.xw (evS G is) (mutdS is) (asgdS is) (retdS is) t
structure SndSs {K : PySem.W.Frag} (M : Fam K) (G : GE) (sts : List Stmt) (iss : ISs) : Prop where
  ps : ∃ t, (∀ X, M.C X → PSs X sts t) ∧ SatS K M.xw (evSs G iss) (mutdSs iss) (asgdSs iss) (retdSs iss) t
theorem sndSs_nil : SndSs M G [] .nil := ⟨⟨_, fun _ _ => pss_nil, fun fr σ H F fp fr' fl g e De q => by
  rw [evSs] at e
  cases e
  exact q σ H fp (.refl g)⟩⟩
theorem sndSs_cons {st : Stmt} {sts : List Stmt} {is : IS} {iss : ISs} (h : SndS M G st is) (hs : SndSs M G sts iss) : SndSs M G (st :: sts) (.cons is iss) := by
  obtain ⟨t, ps, s⟩ := h.ps
  obtain ⟨ts, pss, ss⟩ := hs.ps
  refine ⟨⟨_, fun X h => pss_cons (ps X h) (pss X h), fun fr σ H F fp fr' fl g e De q => ?_⟩⟩
  rw [evSs] at e
  cases e1 : evS G is fr with
  | none => rw [e1] at e; cases e
  | some pr =>
  obtain ⟨fr1, fl1⟩ := pr
  rw [e1] at e
  simp only [Option.bind_some] at e
  have l1 : ∀ i ∈ mutdS is, i ∈ mutdSs (.cons is iss) := fun i z => by rw [mutdSs]; exact List.mem_append_left _ z
  have l2 : ∀ i ∈ asgdS is, i ∈ asgdSs (.cons is iss) := fun i z => by rw [asgdSs]; exact List.mem_append_left _ z
  have l3 : ∀ i ∈ retdS is, i ∈ retdSs (.cons is iss) := fun i z => by rw [retdSs]; exact List.mem_append_left _ z
  have r1 : ∀ i ∈ mutdSs iss, i ∈ mutdSs (.cons is iss) := fun i z => by rw [mutdSs]; exact List.mem_append_right _ z
  have r2 : ∀ i ∈ asgdSs iss, i ∈ asgdSs (.cons is iss) := fun i z => by rw [asgdSs]; exact List.mem_append_right _ z
  have r3 : ∀ i ∈ retdSs iss, i ∈ retdSs (.cons is iss) := fun i z => by rw [retdSs]; exact List.mem_append_right _ z
  refine s fr σ H F fp fr1 fl1 g e1 _ ?_
  cases fl1 with
  | next => exact fun σ1 H1 fp1 ex => ss fr1 σ1 H1 F fp1 fr' fl ex.hf e De ((q.later (ex.weak l1 l2)).weak r1 r2 r3)
  | brk =>
    cases e
    exact fun σ1 H1 fp1 ex => q σ1 H1 fp1 (ex.weak l1 l2)
  | cont =>
    cases e
    exact fun σ1 H1 fp1 ex => q σ1 H1 fp1 (ex.weak l1 l2)
  | ret v m =>
    cases e
    exact ⟨fun x σ1 H1 fp1 fo ex => q.1 x σ1 H1 fp1 fo (ex.weak l1 l2 l3), fun c ns ws e σ1 H1 fp1 d ex n1 n2 hd => q.2 c ns ws e σ1 H1 fp1 d (ex.weak l1 l2) n1 n2 hd⟩

/-! ### slots are shared from now on -/
theorem fpWipe_nil : fpWipe fp [] = fp := by funext i; rfl
theorem fpWipe_cons {i : Nat} {is : List Nat} : fpWipe (fpWipe fp [i]) is = fpWipe fp (i :: is) := by
  funext j
  by_cases q : j ∈ is
  · rw [fpWipe_in q, fpWipe_in (List.mem_cons_of_mem _ q)]
  · rw [fpWipe_out q]
    by_cases q2 : j = i
    · subst q2; rw [fpWipe_in (List.mem_singleton.mpr rfl), fpWipe_in List.mem_cons_self]
    · rw [fpWipe_out (by simpa using q2), fpWipe_out (by simp [q, q2])]
theorem FR.dem1 (g : FR K H F fr σ fp) {i : Nat} {s : Sl} (e : fr[i]? = some (some s)) : FR K H F (fr.set i (some ⟨0, false, s.v⟩)) σ (fpWipe fp [i]) where
  len := by rw [List.length_set]; exact g.len
  slot := fun j u eu => by
    have sub : ∀ a, Ow F (fpWipe fp [i]) a → Ow F fp a := fun a z => z.imp id fun ⟨k, z⟩ => ⟨k, (fpWipe_sub z).2⟩
    by_cases q : j = i
    · subst q
      rw [List.getElem?_set_self (lt_of_some e)] at eu
      cases eu
      obtain ⟨x, ex, r⟩ := g.slot j s e
      refine ⟨x, ex, ?_⟩
      rw [fpWipe_in (List.mem_singleton.mpr rfl), RM.zero]
      refine ⟨rfl, RM.drop sub _ _ _ _ (fun b hb z => ?_) r⟩
      rcases z with z | ⟨k, z⟩
      · exact (g.amb b z).2 j hb
      · obtain ⟨n, z⟩ := fpWipe_sub z
        exact n (List.mem_singleton.mpr (g.disj k j b z hb))
    · rw [List.getElem?_set_ne (Ne.symm q)] at eu
      obtain ⟨x, ex, r⟩ := g.slot j u eu
      exact ⟨x, ex, by rw [fpWipe_out (by simpa using q)]; exact r.mono sub⟩
  emp := fun j h => by
    by_cases q : j = i
    · subst q; exact fpWipe_in (List.mem_singleton.mpr rfl)
    · rw [fpWipe_out (by simpa using q)]
      exact g.emp j fun u eu => h u (by rw [List.getElem?_set_ne (Ne.symm q)]; exact eu)
  nd := fun j => by
    by_cases q : j = i
    · subst q; rw [fpWipe_in (List.mem_singleton.mpr rfl)]; exact .nil
    · rw [fpWipe_out (by simpa using q)]; exact g.nd j
  disj := fun j k a ha hb => g.disj j k a (fpWipe_sub ha).2 (fpWipe_sub hb).2
  amb := fun a ha => ⟨(g.amb a ha).1, fun j hj => (g.amb a ha).2 j (fpWipe_sub hj).2⟩
theorem FR.demF : ∀ {al : List Nat} {fr fr' : Fr} {fp : FP}, FR K H F fr σ fp → dem al fr = some fr' → FR K H F fr' σ (fpWipe fp al)
  | [], fr, fr', fp, g, e => by
    cases e
    rw [fpWipe_nil]; exact g
  | i :: al, fr, fr', fp, g, e => by
    unfold dem at e
    have none' : (∀ s, fr[i]? ≠ some (some s)) → dem al fr = some fr' → FR K H F fr' σ (fpWipe fp (i :: al)) := fun hn e => by
      have : fpWipe fp [i] = fp := by
        funext j
        by_cases q : j = i
        · subst q; rw [fpWipe_in (List.mem_singleton.mpr rfl)]; exact (g.emp j hn).symm
        · rw [fpWipe_out (by simpa using q)]
      rw [← fpWipe_cons, this]
      exact FR.demF g e
    split at e
    · rename_i s es
      split at e
      · cases e
      · rw [← fpWipe_cons]
        exact FR.demF (g.dem1 es) e
    · rename_i hn
      exact none' (fun s es => hn s es) e
theorem OR.dem {o : Od} {x : V} {fo : List Addr} (h : OR K H F fp o x fo) : OR K H F (fpWipe fp o.al) ⟨o.v, o.m, [], false⟩ x fo where
  rep := h.rep.mono fun a z => by
    rcases z with z | ⟨i, z, _⟩
    · exact .inl z
    · obtain ⟨n, z⟩ := fpWipe_sub z
      exact .inr ⟨i, z, n⟩
  nd := h.nd
  ap := fun b hb z => h.ap b hb (z.imp id fun ⟨i, z⟩ => ⟨i, (fpWipe_sub z).2⟩)
  tp := fun z => nomatch z
theorem OR.owned {v : PV} {m : Nat} {t : Bool} {x : V} {fo : List Addr} (h : OR K H F fp ⟨v, m, [], t⟩ x fo) : RM K H (Ow (plus F fo) fp) m v x fo := h.rep.mono fun a z => OwA.nil z
theorem OR.shared {v : PV} {m : Nat} {t : Bool} {x : V} {fo : List Addr} (h : OR K H F fp ⟨v, m, [], t⟩ x fo) : R K H (Ow F fp) v x := h.r.mono fun a z => OwA.nil z

/-- name = e, behind e -/
theorem Ex.asg {De : List Nat} {fo : List Addr} {o : Od} {x : V} {i : Nat} (ex : Ex K H F σ fr fp D H1 fr1 fp1 fo o x) (ed : dem o.al fr1 = some fr2) (es : setS i o.m o.v fr2 = some fr3) :
    ExS K H F σ fp D [i] H1 fr3 (σ.set i (some x)) (fpSet (fpWipe fp1 o.al) i fo) := by
  obtain ⟨hi, rfl⟩ := setS_some es
  have g2 := ex.hf.demF ed
  have o2 := ex.od.dem
  refine ⟨FR.bind g2 hi o2.owned o2.nd fun b hb z => o2.ap b hb (.inl z), ⟨ex.st.eff, fun j a ha => ?_, ex.st.there⟩, fun j hj => List.getElem?_set_ne (fun z => hj (by rw [z]; exact List.mem_singleton.mpr rfl)), List.length_set⟩
  by_cases q : j = i
  · subst q; rw [fpSet_same] at ha; exact .inr (ex.nw a ha)
  · rw [fpSet_ne q] at ha
    exact ex.st.sub j a (fpWipe_sub ha).2
/-- the slots' value V, for what is bound -/
theorem sat_asg {xw : XW} {e : IE} {i : Nat} {te : TE} (s : Sat K (evE G e) (mutd e) te) : SatS K xw (evS G (.asg i e)) (mutdS (.asg i e)) (asgdS (.asg i e)) (retdS (.asg i e)) (tAsg te (gName i)) := by
  intro fr σ H F fp fr' fl g ev De q
  rw [evS] at ev
  cases ee : evE G e fr with
  | none => rw [ee] at ev; cases ev
  | some pr =>
  obtain ⟨fr1, o⟩ := pr
  rw [ee] at ev
  simp only [Option.bind_some] at ev
  cases ed : dem o.al fr1 with
  | none => rw [ed] at ev; cases ev
  | some fr2 =>
  rw [ed] at ev
  simp only [Option.bind_some] at ev
  cases es : setS i o.m o.v fr2 with
  | none => rw [es] at ev; cases ev
  | some fr3 =>
  rw [es] at ev
  cases ev
  refine s fr σ H F fp fr1 o g ee _ fun x H1 fp1 fo ex => ?_
  have r := ex.asg (De := []) ed es
  exact q _ _ _ (r.weak (fun i z => by rw [mutdS]; exact z) (fun i z => by rw [asgdS]; exact z))
/-- name = e -/
theorem sndS_asg {e : Expr} {ie : IE} {i : Nat} {x : Str} {p pos : Pos} (h : Snd M G e ie) (hp : ∀ te, PEu M e te → ∀ X, M.C X → PS X (.Assign [.Name x p] e pos) (tAsg te (gName i))) : SndS M G (.Assign [.Name x p] e pos) (.asg i ie) := by
  obtain ⟨te, pe, s⟩ := h.pe
  exact ⟨⟨_, hp te pe, sat_asg s⟩⟩
/-- a, b = e -/
theorem sndS_asgT {e tg : Expr} {ie : IE} {p : Pat} {pos : Pos} (h : Snd M G e ie) (hp : SndP M tg p) (hs : ∀ X, M.C X → swapsWithSole [tg] e pos.line X.env = pure false) (hw : ∀ X, M.C X → swappedStores [tg] e X.env = pure none)
    (h1 : ∀ X, M.C X → (assignEach [tg] X.env).map (·.2) = [assign tg X.env]) : SndS M G (.Assign [tg] e pos) (.asgT p ie) := by
  obtain ⟨te, pe, s⟩ := h.pe
  obtain ⟨t, pg, sp⟩ := hp.pg
  refine ⟨⟨_, fun X hX => ps_asg (pe X hX) (pg X hX) (hs X hX) (hw X hX) (h1 X hX), fun fr σ H F fp fr' fl g ev De q => ?_⟩⟩
  rw [evS] at ev
  cases ee : evE G ie fr with
  | none => rw [ee] at ev; cases ev
  | some pr =>
  obtain ⟨fr1, o⟩ := pr
  rw [ee] at ev
  simp only [Option.bind_some] at ev
  cases ed : dem o.al fr1 with
  | none => rw [ed] at ev; cases ev
  | some fr2 =>
  rw [ed] at ev
  simp only [Option.bind_some] at ev
  cases es : asgP p o.v fr2 with
  | none => rw [es] at ev; cases ev
  | some fr3 =>
  rw [es] at ev
  cases ev
  refine s fr σ H F fp fr1 o g ee _ fun x H1 fp1 fo ex => ?_
  have g2 : FR K H1 F fr2 σ (fpWipe fp1 o.al) := (ex.hf.demF ed).monoF fun a z => .inl z
  refine sp o.v fr2 σ H1 F _ _ x g2 es ex.od.dem.shared _ fun σ2 fp2 e2 => ?_
  refine q σ2 H1 fp2 ⟨e2.hf, ⟨fun b u eb n => ex.st.eff b u eb fun i hi => n i (by rw [mutdS]; exact hi), fun j a ha => ex.st.sub j a (fpWipe_sub (e2.sub j a ha)).2, ex.st.there⟩, fun i hi => (e2.keep i fun z => hi (by rw [asgdS]; exact z)).2.2, e2.len⟩
end
end VI
namespace VI
open PySem PySem.Spec PyProof.Rows L2

section
variable {K : PySem.W.Frag} {M Mb : Fam K} {G : GE} {H H' H1 H2 H4 : Hp} {F F' O O' : Addr → Prop} {fr fr' fr1 fr2 fr3 fr5 : Fr} {σ σ' σ1 σ2 : L2.St} {fp fp' fp1 fp2 fp4 : FP} {D D' A A' B B' : List Nat}
/-- a list that a slot owns is rewritten -/
theorem FR.put {fo fs' : List Addr} {i : Nat} {s : Sl} {k : Nat} {vs' : List PV} {a : Addr} {fs : List Addr} {ys' : List V} (g : FR K H (plus F fo) fr σ fp) (e : fr[i]? = some (some s)) (ex : σ[i]? = some (some (.ref a))) (em : s.m = k + 1)
    (ef : fp i = a :: fs) (hs : ∀ b ∈ fs', b ∈ fs ∨ b ∈ fo) (nd : fs'.Nodup) (ap : ∀ b ∈ fo, ¬ F b) (r : RMs K H (Ow (plus F fo) fp) k vs' ys' fs') :
    FR K (upd H a (.lst ys')) F (fr.set i (some ⟨s.m, s.pin, .lst vs'⟩)) σ (fpSet fp i (a :: fs')) := by
  have ai : a ∈ fp i := by rw [ef]; exact List.mem_cons_self
  have ndi := g.nd i
  rw [ef] at ndi
  have afo : a ∉ fo := fun z => (g.amb a (.inr z)).2 i ai
  have nafs : a ∉ fs' := fun z => (hs a z).elim (List.nodup_cons.mp ndi).1 afo
  have sub : ∀ b, Ow F (fpSet fp i (a :: fs')) b → Ow (plus F fo) fp b := fun b z => by
    rcases z with z | ⟨j, z⟩
    · exact .inl (.inl z)
    · by_cases q : j = i
      · subst q
        rw [fpSet_same] at z
        rcases List.mem_cons.mp z with z | z
        · rw [z]; exact .inr ⟨j, ai⟩
        · rcases hs b z with z | z
          · exact .inr ⟨j, by rw [ef]; exact List.mem_cons_of_mem _ z⟩
          · exact .inl (.inr z)
      · rw [fpSet_ne q] at z; exact .inr ⟨j, z⟩
  have eff : ∀ b o, H b = some o → ¬ Ow (plus F fo) fp b → upd H a (.lst ys') b = some o := fun b o eb n => by
    rw [upd_ne (fun z => n (.inr ⟨i, by rw [z]; exact ai⟩))]; exact eb
  refine ⟨by rw [List.length_set]; exact g.len, fun j u eu => ?_, fun j hj => ?_, fun j => ?_, fun j l b hb hc => ?_, fun b hb => ?_⟩
  · by_cases q : j = i
    · subst q
      rw [List.getElem?_set_self (lt_of_some e)] at eu
      cases eu
      refine ⟨_, ex, ?_⟩
      rw [fpSet_same]
      show RM K _ _ s.m (.lst vs') _ _
      rw [em]
      exact ⟨a, ys', fs', rfl, upd_same, rfl, RMs.step eff (fun b z => .inl (sub b z)) _ _ _ _ (fun b hb o eb => by
        rw [upd_ne (fun z => nafs (by rw [← z]; exact hb))]; exact eb) r⟩
    · rw [List.getElem?_set_ne (Ne.symm q)] at eu
      obtain ⟨x, ex, r⟩ := g.slot j u eu
      refine ⟨x, ex, ?_⟩
      rw [fpSet_ne q]
      exact RM.step eff (fun b z => .inl (sub b z)) _ _ _ _ (fun b hb o eb => by
        rw [upd_ne (fun z => q (g.disj j i b hb (by rw [z]; exact ai)))]; exact eb) r
  · by_cases q : j = i
    · subst q
      exact absurd (List.getElem?_set_self (lt_of_some e)) (hj _)
    · rw [fpSet_ne q]
      exact g.emp j fun u eu => hj u (by rw [List.getElem?_set_ne (Ne.symm q)]; exact eu)
  · by_cases q : j = i
    · subst q; rw [fpSet_same]; exact List.nodup_cons.mpr ⟨nafs, nd⟩
    · rw [fpSet_ne q]; exact g.nd j
  · have key : ∀ {j b}, b ∈ fpSet fp i (a :: fs') j → b ∈ fp j ∨ (j = i ∧ b ∈ fo) := fun {j b} h => by
      by_cases q : j = i
      · subst q
        rw [fpSet_same] at h
        rcases List.mem_cons.mp h with h | h
        · rw [h]; exact .inl ai
        · rcases hs b h with h | h
          · exact .inl (by rw [ef]; exact List.mem_cons_of_mem _ h)
          · exact .inr ⟨rfl, h⟩
      · rw [fpSet_ne q] at h; exact .inl h
    rcases key hb with h1 | ⟨h1, h1'⟩
    · rcases key hc with h2 | ⟨h2, h2'⟩
      · exact g.disj j l b h1 h2
      · exact absurd h1 ((g.amb b (.inr h2')).2 j)
    · rcases key hc with h2 | ⟨h2, h2'⟩
      · exact absurd h2 ((g.amb b (.inr h1')).2 l)
      · rw [h1, h2]
  · obtain ⟨⟨o, eo⟩, n⟩ := g.amb b (.inl hb)
    refine ⟨?_, fun j hj => ?_⟩
    · by_cases q : b = a
      · rw [q]; exact ⟨_, upd_same⟩
      · exact ⟨o, by rw [upd_ne q]; exact eo⟩
    · by_cases q : j = i
      · subst q
        rw [fpSet_same] at hj
        rcases List.mem_cons.mp hj with hj | hj
        · rw [hj] at n; exact n j ai
        · rcases hs b hj with hj | hj
          · exact n j (by rw [ef]; exact List.mem_cons_of_mem _ hj)
          · exact ap b hj hb
      · rw [fpSet_ne q] at hj; exact n j hj
/-- what changed: only that list -/
theorem StepD.put {fo fs fs' : List Addr} {i : Nat} {a : Addr} {u : HO} (st : StepD D H fp H1 fp1) (hi : i ∈ D') (hD : ∀ j ∈ D, j ∈ D') (ef : fp1 i = a :: fs) (hs : ∀ b ∈ fs', b ∈ fs ∨ b ∈ fo) (nw : ∀ b ∈ fo, H b = none) :
    StepD D' H fp (upd H1 a u) (fpSet fp1 i (a :: fs')) where
  eff := fun b o eb n => by
    have h1 := st.eff b o eb fun j hj => n j (hD j hj)
    refine (upd_ne fun z => ?_).trans h1
    rcases st.sub i a (by rw [ef]; exact List.mem_cons_self) with q | q
    · exact n i hi (by rw [z]; exact q)
    · rw [← z, eb] at q; cases q
  sub := fun j b hb => by
    by_cases q : j = i
    · subst q
      rw [fpSet_same] at hb
      rcases List.mem_cons.mp hb with hb | hb
      · exact st.sub j b (by rw [ef, hb]; exact List.mem_cons_self)
      · rcases hs b hb with hb | hb
        · exact st.sub j b (by rw [ef]; exact List.mem_cons_of_mem _ hb)
        · exact .inr (nw b hb)
    · rw [fpSet_ne q] at hb; exact st.sub j b hb
  there := fun b o eb => by
    obtain ⟨o', e'⟩ := st.there b o eb
    by_cases q : b = a
    · rw [q]; exact ⟨_, upd_same⟩
    · exact ⟨o', by rw [upd_ne q]; exact e'⟩
/-- a slot that owns a list -/
theorem FR.own (g : FR K H F fr σ fp) {i : Nat} {s : Sl} {vs : List PV} {k : Nat} (e : fr[i]? = some (some s)) (em : s.m = k + 1) (ev : s.v = .lst vs) :
    ∃ a ys fs, σ[i]? = some (some (.ref a)) ∧ fp i = a :: fs ∧ H a = some (.lst ys) ∧ fs.Nodup ∧ RMs K H (Ow F fp) k vs ys fs := by
  obtain ⟨x, ex, r⟩ := g.slot i s e
  rw [em, ev] at r
  obtain ⟨a, ys, fs, rfl, h, ef, r⟩ := r
  have nd := g.nd i
  rw [ef] at nd
  exact ⟨a, ys, fs, ex, ef, h, (List.nodup_cons.mp nd).2, r⟩
theorem RMs.setM {n : Nat} : ∀ {vs : List PV} {ys : List V} {fs : List Addr} {v : PV} {y : V} {fo : List Addr} (i : Nat), RMs K H O n vs ys fs → RM K H O n v y fo → i < vs.length →
    ∃ fs', RMs K H O n (vs.set i v) (ys.set i y) fs' ∧ (∀ b ∈ fs', b ∈ fs ∨ b ∈ fo) ∧ (fs.Nodup → fo.Nodup → (∀ b ∈ fo, b ∉ fs) → fs'.Nodup)
  | w :: vs, ys, fs, v, y, fo, 0, h, r, hi => by
    obtain ⟨z, ys', f1, f2, e, ef, r1, q⟩ := h
    subst e ef
    refine ⟨fo ++ f2, ⟨y, ys', fo, f2, rfl, rfl, r, q⟩, fun b hb => ?_, fun n1 n2 d => ?_⟩
    · rcases List.mem_append.mp hb with hb | hb
      · exact .inr hb
      · exact .inl (List.mem_append_right _ hb)
    · exact List.nodup_append.mpr ⟨n2, (List.nodup_append.mp n1).2.1, fun a ha b hb eab => d a ha (by rw [eab]; exact List.mem_append_right _ hb)⟩
  | w :: vs, ys, fs, v, y, fo, i + 1, h, r, hi => by
    obtain ⟨z, ys', f1, f2, e, ef, r1, q⟩ := h
    subst e ef
    obtain ⟨f2', q', s', n'⟩ := RMs.setM i q r (by simpa using hi)
    refine ⟨f1 ++ f2', ⟨z, ys'.set i y, f1, f2', rfl, rfl, r1, q'⟩, fun b hb => ?_, fun n1 n2 d => ?_⟩
    · rcases List.mem_append.mp hb with hb | hb
      · exact .inl (List.mem_append_left _ hb)
      · exact (s' b hb).imp (fun z => List.mem_append_right _ z) id
    · obtain ⟨m1, m2, m3⟩ := List.nodup_append.mp n1
      refine List.nodup_append.mpr ⟨m1, n' m2 n2 (fun b hb z => d b hb (List.mem_append_right _ z)), fun a ha b hb eab => ?_⟩
      rcases s' b hb with z | z
      · exact m3 a ha b z eab
      · exact d b z (by rw [← eab]; exact List.mem_append_left _ ha)
/-- an operand is put at place n of a slot's list -/
theorem FR.setAt {fo : List Addr} {o : Od} {x : V} {i : Nat} {s : Sl} {vs : List PV} {n : Nat} (g : FR K H (plus F fo) fr σ fp) (e : fr[i]? = some (some s)) (m0 : s.m ≠ 0) (ev : s.v = .lst vs) (hn : n < vs.length) (ho : putOk s.m o = true)
    (od : OR K H F fp ⟨o.v, o.m, [], false⟩ x fo) : ∃ a ys fs', σ[i]? = some (some (.ref a)) ∧ H a = some (.lst ys) ∧ ys.length = vs.length ∧ (∃ fs, fp i = a :: fs ∧ ∀ b ∈ fs', b ∈ fs ∨ b ∈ fo) ∧
    FR K (upd H a (.lst (ys.set n x))) F (fr.set i (some ⟨s.m, s.pin, .lst (vs.set n o.v)⟩)) σ (fpSet fp i (a :: fs')) := by
  unfold putOk at ho
  rw [Bool.or_eq_true] at ho
  obtain ⟨k, ek⟩ : ∃ k, s.m = k + 1 := ⟨s.m - 1, by omega⟩
  rcases ho with ho | ho
  · have m1 : s.m = 1 := by simpa using ho
    have k0 : k = 0 := by omega
    subst k0
    have g0 : FR K H F fr σ fp := g.monoF fun a z => .inl z
    obtain ⟨a, ys, fs, ex, ef, h, nd, r⟩ := g0.own e ek ev
    obtain ⟨e0, r0⟩ := RMs.to0 r
    subst e0
    refine ⟨a, ys, [], ex, h, r0.length, ⟨[], ef, fun _ z => nomatch z⟩, FR.put g0.plusNil e ex ek ef (fun _ z => nomatch z) .nil (fun _ z => nomatch z) (RMs.of0 ((r0.set n od.shared).mono fun a z => ?_))⟩
    exact z.imp (fun z => z.elim id fun z => nomatch z) id
  · simp only [Bool.and_eq_true, beq_iff_eq] at ho
    obtain ⟨a, ys, fs, ex, ef, h, nd, r⟩ := g.own e ek ev
    have rm := od.owned
    have : o.m = k := by omega
    rw [show (⟨o.v, o.m, [], false⟩ : Od).m = k from this] at rm
    obtain ⟨fs', r', s', n'⟩ := RMs.setM n r rm hn
    refine ⟨a, ys, fs', ex, h, r.length, ⟨fs, ef, s'⟩, FR.put g e ex ek ef s' (n' nd od.nd fun b hb z => od.ap b hb (.inr ⟨i, by rw [ef]; exact List.mem_cons_of_mem _ z⟩)) (fun b hb z => od.ap b hb (.inl z)) r'⟩
/-- an operand is appended -/
theorem FR.appAt {fo : List Addr} {o : Od} {x : V} {i : Nat} {s : Sl} {vs : List PV} (g : FR K H (plus F fo) fr σ fp) (e : fr[i]? = some (some s)) (m0 : s.m ≠ 0) (ev : s.v = .lst vs) (ho : putOk s.m o = true)
    (od : OR K H F fp ⟨o.v, o.m, [], false⟩ x fo) : ∃ a ys fs', σ[i]? = some (some (.ref a)) ∧ H a = some (.lst ys) ∧ ys.length = vs.length ∧ (∃ fs, fp i = a :: fs ∧ ∀ b ∈ fs', b ∈ fs ∨ b ∈ fo) ∧
    FR K (upd H a (.lst (ys ++ [x]))) F (fr.set i (some ⟨s.m, s.pin, .lst (vs ++ [o.v])⟩)) σ (fpSet fp i (a :: fs')) := by
  unfold putOk at ho
  rw [Bool.or_eq_true] at ho
  obtain ⟨k, ek⟩ : ∃ k, s.m = k + 1 := ⟨s.m - 1, by omega⟩
  rcases ho with ho | ho
  · have m1 : s.m = 1 := by simpa using ho
    have k0 : k = 0 := by omega
    subst k0
    have g0 : FR K H F fr σ fp := g.monoF fun a z => .inl z
    obtain ⟨a, ys, fs, ex, ef, h, nd, r⟩ := g0.own e ek ev
    obtain ⟨e0, r0⟩ := RMs.to0 r
    subst e0
    refine ⟨a, ys, [], ex, h, r0.length, ⟨[], ef, fun _ z => nomatch z⟩, FR.put g0.plusNil e ex ek ef (fun _ z => nomatch z) .nil (fun _ z => nomatch z) (RMs.of0 ((r0.append (Rs.cons od.shared Rs.nil)).mono fun a z => ?_))⟩
    exact z.imp (fun z => z.elim id fun z => nomatch z) id
  · simp only [Bool.and_eq_true, beq_iff_eq] at ho
    obtain ⟨a, ys, fs, ex, ef, h, nd, r⟩ := g.own e ek ev
    have rm := od.owned
    have : o.m = k := by omega
    rw [show (⟨o.v, o.m, [], false⟩ : Od).m = k from this] at rm
    refine ⟨a, ys, fs ++ fo, ex, h, r.length, ⟨fs, ef, fun b hb => List.mem_append.mp hb⟩, FR.put g e ex ek ef (fun b hb => List.mem_append.mp hb) (List.nodup_append.mpr ⟨nd, od.nd, fun a ha b hb z => od.ap b hb (.inr ⟨i, by rw [ef, ← z]; exact List.mem_cons_of_mem _ ha⟩)⟩) (fun b hb z => od.ap b hb (.inl z)) (RMs.append r rm)⟩
/-- an item leaves a slot's list -/
theorem FR.delAt {i : Nat} {s : Sl} {vs : List PV} {n : Nat} {y : PV} (g : FR K H F fr σ fp) (e : fr[i]? = some (some s)) (m1 : s.m = 1) (ev : s.v = .lst vs) (hy : vs[n]? = some y) :
    ∃ a ys z, σ[i]? = some (some (.ref a)) ∧ H a = some (.lst ys) ∧ ys.length = vs.length ∧ ys[n]? = some z ∧ fp i = [a] ∧ R K (upd H a (.lst (ys.eraseIdx n))) (Ow F (fpSet fp i [a])) y z ∧
    FR K (upd H a (.lst (ys.eraseIdx n))) F (fr.set i (some ⟨1, s.pin, .lst (vs.eraseIdx n)⟩)) σ (fpSet fp i [a]) := by
  have ek : s.m = 0 + 1 := m1
  obtain ⟨a, ys, fs, ex, ef, h, nd, r⟩ := g.own e ek ev
  obtain ⟨e0, r0⟩ := RMs.to0 r
  subst e0
  obtain ⟨z, hz, rz⟩ := r0.get hy
  have g3 := FR.put g.plusNil e ex ek ef (fs' := []) (fun _ z => nomatch z) .nil (fun _ z => nomatch z) (RMs.of0 ((r0.eraseIdx n).mono fun a z => z.imp (fun z => z.elim id fun z => nomatch z) id))
  have fe : fpSet fp i [a] = fp := by
    funext j
    by_cases q : j = i
    · subst q; rw [fpSet_same, ef]
    · rw [fpSet_ne q]
  have oa : Ow F fp a := .inr ⟨i, by rw [ef]; exact List.mem_cons_self⟩
  refine ⟨a, ys, z, ex, h, r0.length, hz, ef, ?_, by rw [← m1]; exact g3⟩
  rw [fe]
  exact R.step (fun b o q hb => (upd_ne fun z => hb (z ▸ oa)).trans q) (fun b hb => .inl hb) _ _ rz
end
end VI
namespace VI
open PySem PySem.Spec PyProof.Rows L2

section
variable {X : Cx}
/-- xs[i] of a list, by values -/
theorem get_list : PGet X (rIxL X.K) := by
  intro pins s σ H x y v u Q I rx ry h
  obtain ⟨p, xs, i, z, rfl, rfl, hq, he, q⟩ := h
  cases rx
  obtain ⟨t, rfl⟩ := ry
  obtain ⟨its, r, pl, hz⟩ := I.list hq
  obtain ⟨j, h1, h2, h3, h4, h5⟩ := atI_get he
  obtain ⟨w, ew, rw'⟩ := r.get h2
  have hl := r.length
  have hn := line63
  have fin : EP X pins σ Q w s := ⟨z, H, I, rw', q⟩
  by_cases h0 : 0 ≤ i
  · have hj : i.toNat = j := by
      rw [seqIndex_of h0 h5] at h1
      exact Option.some.inj h1
    exact wpAny_getItem_list pl.isList h0 (by omega) (by rw [hj]; simpa using ew) fin
  · have hj : (i + (its.toArray.size : Int)).toNat = j := by
      rw [seqIndex_neg (by omega) h4] at h1
      rw [List.size_toArray, ← hl]
      exact Option.some.inj h1
    exact wpAny_getItem_list_neg pl.isList (by omega) (by rw [List.size_toArray] <;> omega) (by omega) (by rw [hj]; simpa using ew) fin
end
section
variable {K : PySem.W.Frag} {M Mb : Fam K} {G : GE} {H H' H1 H2 H4 : Hp} {F F' O O' : Addr → Prop} {fr fr' fr1 fr2 fr3 fr5 : Fr} {σ σ' σ1 σ2 : L2.St} {fp fp' fp1 fp2 fp4 : FP} {D D' A A' B B' : List Nat}
theorem StepD.less (st : StepD D H fp H1 fp1) (h : ∀ j b, b ∈ fp2 j → b ∈ fp1 j) : StepD D H fp H1 fp2 := ⟨st.eff, fun j b hb => st.sub j b (h j b hb), st.there⟩
theorem wipe_less {al : List Nat} : ∀ j b, b ∈ fpWipe fp al j → b ∈ fp j := fun j b h => (fpWipe_sub h).2
/-- what is added in place, by values -/
def ASat (p : Prim) (t : TIp) : Prop := ∀ (K : PySem.W.Frag) H O O2 v w x y z, RT K H O v x → RT K H O2 w y → augF p v w = some z → ∀ Q, (∀ x', (∀ H' O', R K H' O' z x') → Q x' H) → t x y H Q
theorem aug_inv {p : Prim} {v w z : PV} (h : augF p v w = some z) : ∃ i j, v = .int i ∧ w = .int j ∧ ((p = .add ∧ z = .int (i + j)) ∨ (p = .sub ∧ z = .int (i - j))) := by
  unfold augF at h
  split at h <;> cases h
  · exact ⟨_, _, rfl, rfl, .inl ⟨rfl, rfl⟩⟩
  · exact ⟨_, _, rfl, rfl, .inr ⟨rfl, rfl⟩⟩
theorem asat_add : ASat .add (rI0 fun i j => .int (i + j)) := by
  intro K H O O2 v w x y z rx ry e Q q
  obtain ⟨i, j, rfl, rfl, h⟩ := aug_inv e
  rcases h with ⟨_, rfl⟩ | ⟨h, _⟩
  · exact ⟨i, j, rx, ry, q _ fun _ _ => rfl⟩
  · cases h
theorem asat_sub : ASat .sub (rI0 fun i j => .int (i - j)) := by
  intro K H O O2 v w x y z rx ry e Q q
  obtain ⟨i, j, rfl, rfl, h⟩ := aug_inv e
  rcases h with ⟨h, _⟩ | ⟨_, rfl⟩
  · cases h
  · exact ⟨i, j, rx, ry, q _ fun _ _ => rfl⟩
theorem RT.ofRM (g : FR K H F fr σ fp) {i : Nat} {s : Sl} (e : fr[i]? = some (some s)) : ∃ x, σ[i]? = some (some x) ∧ RT K H (OwA F fp (elal (varOd i s))) s.v x := by
  obtain ⟨x, ex, od⟩ := g.varOd e
  refine ⟨x, ex, ?_⟩
  have := od.rt
  have e2 : (varOd i s).v = s.v := by unfold varOd; split <;> rfl
  rw [e2] at this
  exact this
/-- name op= e -/
theorem sndS_aug {i : Nat} {p : Prim} {ti : TIp} {st : Stmt} {e : Expr} {ie : IE} (h : Snd M G e ie) (ha : ASat p ti) (hp : ∀ te, PEu M e te → ∀ X, M.C X → PS X st (tAug i te ti)) : SndS M G st (.aug i p ie) := by
  obtain ⟨te, pe, s⟩ := h.pe
  refine ⟨⟨_, hp te pe, fun fr σ H F fp fr' fl g ev De q => ?_⟩⟩
  rw [evS] at ev
  cases ee : evE G ie fr with
  | none => rw [ee] at ev; cases ev
  | some pr =>
  obtain ⟨fr1, o⟩ := pr
  rw [ee] at ev
  simp only [Option.bind_some] at ev
  split at ev
  case h_2 => cases ev
  rename_i s0 es
  cases ea : augF p s0.v o.v with
  | none => rw [ea] at ev; cases ev
  | some z =>
  rw [ea] at ev
  simp only [Option.bind_some] at ev
  cases et : setS i 0 z fr1 with
  | none => rw [et] at ev; cases ev
  | some fr3 =>
  rw [et] at ev
  cases ev
  obtain ⟨x, ex, rx⟩ := RT.ofRM g es
  refine ⟨x, ex, s fr σ H F fp fr1 o g ee _ fun y H1 fp1 fo exx => ?_⟩
  have rx1 : RT K H1 (OwA F fp (elal (varOd i s0))) s0.v x := by
    obtain ⟨a, b, e1, _⟩ := aug_inv ea
    rw [e1] at rx ⊢
    exact rx
  refine ha K H1 _ _ _ _ _ _ _ rx1 exx.od.rt ea _ fun x' rx' => ?_
  have ep := FR.set0 exx.hf0 et (rx' _ _)
  exact q _ _ _ ⟨ep.hf, (exx.st.mono fun i z => by rw [mutdS]; exact z).less ep.sub, fun j hj => (ep.keep j fun z => hj (by rw [asgdS]; exact z)).2.2, ep.len⟩
theorem isLAt_of (g : FR K H F fr σ fp) {i : Nat} (h : isLAt fr i = true) : ∃ x, σ[i]? = some (some x) ∧ ∃ a ys, x = .ref a ∧ H a = some (.lst ys) := by
  unfold isLAt at h
  split at h
  case h_2 => cases h
  rename_i s es
  obtain ⟨vs, ev⟩ := isL_lst h
  obtain ⟨x, ex, r⟩ := RT.ofRM g es
  rw [ev] at r
  obtain ⟨a, ys, e1, e2, _⟩ := r
  exact ⟨x, ex, a, ys, e1, e2⟩
theorem ixN_lt {n : Nat} {z : Int} {k : Nat} (h : ixN n z = some k) : k < n := (ixN_seq h).2.1
/-- xs[i] = e -/
theorem sndS_seti {i : Nat} {st : Stmt} {e ix : Expr} {ie iix : IE} (h : Snd M G e ie) (hi : Snd M G ix iix) (hp : ∀ te ti, PEu M e te → PEu M ix ti → ∀ X, M.C X → PS X st (tAsg te (gSub (tVar i) ti rSetL))) : SndS M G st (.seti i iix ie) := by
  obtain ⟨te, pe, s⟩ := h.pe
  obtain ⟨ti, pi, si⟩ := hi.pe
  refine ⟨⟨_, hp te ti pe pi, fun fr σ H F fp fr' fl g ev De q => ?_⟩⟩
  rw [evS] at ev
  cases ee : evE G ie fr with
  | none => rw [ee] at ev; cases ev
  | some pr =>
  obtain ⟨fr1, o⟩ := pr
  rw [ee] at ev
  simp only [Option.bind_some] at ev
  split at ev
  case isFalse => cases ev
  rename_i dj
  cases ei : evE G iix fr1 with
  | none => rw [ei] at ev; cases ev
  | some pr =>
  obtain ⟨fr2, oi⟩ := pr
  rw [ei] at ev
  simp only [Option.bind_some] at ev
  cases ed : dem o.al fr2 with
  | none => rw [ed] at ev; cases ev
  | some fr3 =>
  rw [ed] at ev
  simp only [Option.bind_some] at ev
  split at ev
  case h_2 => cases ev
  rename_i s0 z es ez
  split at ev
  case h_2 => cases ev
  rename_i vs evs
  split at ev
  case h_2 => cases ev
  rename_i n en
  split at ev
  case isFalse => cases ev
  rename_i cond
  cases ev
  simp only [Bool.and_eq_true, bne_iff_ne] at cond
  rw [Bool.and_eq_true] at dj
  refine s fr σ H F fp fr1 o g ee _ fun x H1 fp1 fo ex => ?_
  -- the name's value is read, then the index
  obtain ⟨xv, hxv, _⟩ := isLAt_of ex.hf0 dj.2
  refine ⟨xv, hxv, si fr1 σ H1 (plus F fo) fp1 fr2 oi ex.hf ei _ fun y H2 fp2 f2 ey => ?_⟩
  have od2 := (ex.od.later ex.hf (fun i hi => (ey.keep i hi).2) ey.st dj.1).dem
  have g2 : FR K H2 (plus F fo) fr3 σ (fpWipe fp2 o.al) := FR.demF (ey.hf.monoF fun a z => .inl z) ed
  obtain ⟨a, ys, fs', exa, ha, hl, ⟨fs, ef, hs⟩, g3⟩ := g2.setAt es cond.1 evs (ixN_lt en) cond.2 od2
  rw [hxv] at exa
  cases exa
  have ry := ey.od.rt
  rw [ez] at ry
  have ry : y = .int z := ry
  refine ⟨a, ys, z, n, rfl, ry, ha, by rw [hl]; exact en, ?_⟩
  have st2 : StepD (mutd ie ++ mutd iix) H fp H2 (fpWipe fp2 o.al) := ((ex.st.mono fun j z => List.mem_append_left _ z).trans (ey.st.mono fun j z => List.mem_append_right _ z)).less wipe_less
  exact q _ _ _ ⟨g3, st2.put (by rw [mutdS]; simp) (fun j hj => by rw [mutdS]; rw [List.mem_append] at hj; simp only [List.mem_append]; exact hj.imp id .inl) ef hs ex.nw, fun _ _ => rfl, rfl⟩
/-! ### xs[i][j] = e -/
theorem RMs.setIn {ws : List PV} : ∀ {vs : List PV} {ys : List V} {fs : List Addr} {n : Nat}, RMs K H O 1 vs ys fs → fs.Nodup → vs[n]? = some (.lst ws) → (∀ b ∈ fs, O b) →
    ∃ b zs, ys[n]? = some (.ref b) ∧ b ∈ fs ∧ H b = some (.lst zs) ∧ Rs K H O ws zs ∧
      ∀ (H' : Hp) (ws' : List PV) (zs' : List V), H' b = some (.lst zs') → (∀ c o, c ≠ b → H c = some o → H' c = some o) → Rs K H' O ws' zs' → RMs K H' O 1 (vs.set n (.lst ws')) ys fs
  | [], ys, fs, n, h, nd, e, ho => by simp at e
  | v :: vs, ys, fs, 0, h, nd, e, ho => by
    obtain ⟨y, ys', f1, f2, rfl, rfl, r1, q⟩ := h
    cases e
    obtain ⟨a, zs, fs0, rfl, ha, rfl, r0⟩ := r1
    obtain ⟨rfl, r00⟩ := RMs.to0 r0
    have hO : O a := ho a (by simp)
    refine ⟨a, zs, rfl, by simp, ha, r00, fun H' ws' zs' h1 h2 h3 => ?_⟩
    refine ⟨.ref a, ys', [a], f2, rfl, rfl, ⟨a, zs', [], rfl, h1, rfl, RMs.of0 h3⟩, ?_⟩
    exact RMs.step (fun c o ec nc => h2 c o (fun z => nc (by rw [z]; exact hO)) ec) (fun c z => .inl z) _ _ _ _ (fun c hc o ec => h2 c o (fun z => (List.nodup_append.mp nd).2.2 a (by simp) c hc z.symm) ec) q
  | v :: vs, ys, fs, n + 1, h, nd, e, ho => by
    obtain ⟨y, ys', f1, f2, rfl, rfl, r1, q⟩ := h
    obtain ⟨n1, n2, n3⟩ := List.nodup_append.mp nd
    obtain ⟨b, zs, e1, e2, e3, e4, key⟩ := RMs.setIn (n := n) q n2 (by simpa using e) (fun b hb => ho b (List.mem_append_right _ hb))
    refine ⟨b, zs, by simpa using e1, List.mem_append_right _ e2, e3, e4, fun H' ws' zs' h1 h2 h3 => ⟨y, ys', f1, f2, rfl, rfl, ?_, key H' ws' zs' h1 h2 h3⟩⟩
    exact RM.step (fun c o ec nc => h2 c o (fun z => nc (by rw [z]; exact ho b (List.mem_append_right _ e2))) ec) (fun c z => .inl z) _ _ _ _ (fun c hc o ec => h2 c o (fun z => n3 c hc b e2 z) ec) r1
theorem FR.setIn {i n k : Nat} {s : Sl} {vs ws : List PV} {v : PV} {x : V} (g : FR K H F fr σ fp) (e : fr[i]? = some (some s)) (em : s.m = 2) (ev : s.v = .lst vs) (hv : vs[n]? = some (.lst ws)) (rx : R K H (Ow F fp) v x) :
    ∃ a ys b zs, σ[i]? = some (some (.ref a)) ∧ H a = some (.lst ys) ∧ ys.length = vs.length ∧ ys[n]? = some (.ref b) ∧ H b = some (.lst zs) ∧ zs.length = ws.length ∧ b ∈ fp i ∧
      FR K (upd H b (.lst (zs.set k x))) F (fr.set i (some ⟨s.m, s.pin, .lst (vs.set n (.lst (ws.set k v)))⟩)) σ fp := by
  obtain ⟨a, ys, fs, ex, ef, ha, nd, r⟩ := g.own e (k := 1) em ev
  have ndi := g.nd i
  rw [ef] at ndi
  obtain ⟨b, zs, e1, e2, e3, e4, key⟩ := RMs.setIn r nd hv (fun b hb => .inr ⟨i, by rw [ef]; exact List.mem_cons_of_mem _ hb⟩)
  have bi : b ∈ fp i := by rw [ef]; exact List.mem_cons_of_mem _ e2
  have ab : a ≠ b := fun z => (List.nodup_cons.mp ndi).1 (by rw [z]; exact e2)
  have oth : ∀ c o, c ≠ b → H c = some o → upd H b (.lst (zs.set k x)) c = some o := fun c o n z => by rw [upd_ne n]; exact z
  have eff : ∀ c o, H c = some o → ¬ Ow F fp c → upd H b (.lst (zs.set k x)) c = some o := fun c o ec n => oth c o (fun z => n (.inr ⟨i, by rw [z]; exact bi⟩)) ec
  have zl : zs.length = ws.length := by
    have := RMs.length (RMs.of0 e4)
    exact this
  refine ⟨a, ys, b, zs, ex, ha, r.length, e1, e3, zl, bi, by rw [List.length_set]; exact g.len, fun j u eu => ?_, fun j hj => ?_, g.nd, g.disj, fun c hc => ?_⟩
  · by_cases q : j = i
    · subst q
      rw [List.getElem?_set_self (lt_of_some e)] at eu
      cases eu
      refine ⟨_, ex, ?_⟩
      rw [ef]
      show RM K _ _ s.m (.lst _) _ _
      rw [em]
      exact ⟨a, ys, fs, rfl, oth a _ ab ha, rfl, key _ _ _ upd_same oth (Rs.step eff (fun c z => .inl z) _ _ (e4.set k rx))⟩
    · rw [List.getElem?_set_ne (Ne.symm q)] at eu
      obtain ⟨x, ex, r⟩ := g.slot j u eu
      refine ⟨x, ex, ?_⟩
      exact RM.step eff (fun b z => .inl z) _ _ _ _ (fun c hc o ec => oth c o (fun z => q (g.disj j i c hc (by rw [z]; exact bi))) ec) r
  · by_cases q : j = i
    · subst q
      exact absurd (List.getElem?_set_self (lt_of_some e)) (hj _)
    · exact g.emp j fun u eu => hj u (by rw [List.getElem?_set_ne (Ne.symm q)]; exact eu)
  · obtain ⟨⟨o, eo⟩, n⟩ := g.amb c hc
    refine ⟨?_, n⟩
    by_cases q : c = b
    · rw [q]; exact ⟨_, upd_same⟩
    · exact ⟨o, by rw [upd_ne q]; exact eo⟩
theorem dem_back {i : Nat} {s : Sl} : ∀ {al : List Nat} {fr fr' : Fr}, dem al fr = some fr' → fr'[i]? = some (some s) → ∃ s', fr[i]? = some (some s') ∧ s'.v = s.v
  | [], fr, fr', e, h => by
    rw [dem] at e
    cases e
    exact ⟨s, h, rfl⟩
  | j :: al, fr, fr', e, h => by
    rw [dem] at e
    split at e
    · rename_i s1 e1
      split at e
      · cases e
      obtain ⟨s', h', ev⟩ := dem_back e h
      by_cases q : i = j
      · subst q
        rw [List.getElem?_set_self (lt_of_some e1)] at h'
        cases h'
        exact ⟨s1, e1, ev⟩
      · rw [List.getElem?_set_ne (Ne.symm q)] at h'
        exact ⟨s', h', ev⟩
    · exact dem_back e h
theorem atI_ix {n : Nat} {z : Int} {ys : List V} {v : V} (h : ixN ys.length z = some n) (e : ys[n]? = some v) : atI ys z = some v := by
  unfold atI
  rw [h]
  exact e
theorem sndS_setij {i : Nat} {st : Stmt} {e ix jx : Expr} {ie iix ijx : IE} (h : Snd M G e ie) (hi : Snd M G ix iix) (hj : Snd M G jx ijx) (hp : ∀ te ti tj, PEu M e te → PEu M ix ti → PEu M jx tj → ∀ X, M.C X → PS X st (tAsg te (gSub (tOp (rIx K) (tVar i) ti) tj rSetL))) (hpu : pureI ijx = true) : SndS M G st (.setij i iix ijx ie) := by
  obtain ⟨te, pe, s⟩ := h.pe
  obtain ⟨ti, pi, si⟩ := hi.pe
  obtain ⟨tj, pj, sj⟩ := hj.pe
  refine ⟨⟨_, hp te ti tj pe pi pj, fun fr σ H F fp fr' fl g ev De q => ?_⟩⟩
  rw [evS] at ev
  cases ee : evE G ie fr with
  | none => rw [ee] at ev; cases ev
  | some pr =>
  obtain ⟨fr1, o⟩ := pr
  rw [ee] at ev
  simp only [Option.bind_some] at ev
  split at ev
  case isFalse => cases ev
  rename_i dj
  cases ei : evE G iix fr1 with
  | none => rw [ei] at ev; cases ev
  | some pr =>
  obtain ⟨fr2, oi⟩ := pr
  rw [ei] at ev
  simp only [Option.bind_some] at ev
  split at ev
  case isFalse => cases ev
  rename_i mj
  have mj : mutd ijx = [] := List.isEmpty_iff.mp mj
  cases ej : evE G ijx fr2 with
  | none => rw [ej] at ev; cases ev
  | some pr =>
  obtain ⟨fr3, oj⟩ := pr
  rw [ej] at ev
  simp only [Option.bind_some] at ev
  cases ed : dem o.al fr3 with
  | none => rw [ed] at ev; cases ev
  | some fr4 =>
  rw [ed] at ev
  simp only [Option.bind_some] at ev
  split at ev
  case h_2 => cases ev
  rename_i s0 z y es ez ey0
  split at ev
  case h_2 => cases ev
  rename_i vs evs
  split at ev
  case h_2 => cases ev
  rename_i n en
  split at ev
  case h_2 => cases ev
  rename_i ws ew
  split at ev
  case h_2 => cases ev
  rename_i k ek
  split at ev
  case isFalse => cases ev
  rename_i m2
  cases ev
  rw [Bool.and_eq_true, mj, List.append_nil] at dj
  refine s fr σ H F fp fr1 o g ee _ fun x H1 fp1 fo ex => ?_
  obtain ⟨xv, hxv, _⟩ := isLAt_of ex.hf0 dj.2
  refine ⟨xv, hxv, si fr1 σ H1 (plus F fo) fp1 fr2 oi ex.hf ei _ fun yv H2 fp2 f2 ey => ?_⟩
  have g2 : FR K H2 (plus F fo) fr2 σ fp2 := ey.hf.monoF fun a z => .inl z
  have od2 := ex.od.later ex.hf (fun i hi => (ey.keep i hi).2) ey.st dj.1
  -- the list as it stands before the second index
  obtain ⟨s3, es3, ev3⟩ := dem_back ed es
  -- the second index
  have run := sj fr2 σ H2 (plus F fo) fp2 fr3 oj g2 ej
  rw [mj] at run
  have ry := ey.od.rt
  rw [ez] at ry
  have ry : yv = .int z := ry
  -- what the name holds
  have c : fr2[i]? = some (some s3) := by rw [← pureI_ok ijx hpu ej]; exact es3
  · obtain ⟨x2, ex2, rx2⟩ := RT.ofRM g2 c
    rw [hxv] at ex2
    cases ex2
    rw [ev3, evs] at rx2
    obtain ⟨a, ys, rfl, ha, ry2⟩ := rx2
    have hl : ys.length = vs.length := ry2.length
    obtain ⟨v2, ev2, _⟩ := ry2.get ew
    refine .inl ⟨a, ys, z, v2, rfl, ry, SqL.of ha, atI_ix (by rw [hl]; exact en) ev2, ?_⟩
    refine run _ fun y2 H3 fp3 f3 ex3 => ?_
    have st3 : StepD [] H2 fp2 H3 fp3 := ex3.st
    have od3 := (od2.later g2 (fun i hi => (ex3.keep i hi).2) st3 (by unfold disj; simp)).dem
    have g3 : FR K H3 F fr4 σ (fpWipe fp3 o.al) := (FR.demF (ex3.hf.monoF fun a z => .inl z) ed).monoF fun a z => .inl z
    obtain ⟨a', ys', b, zs, exa, ha', hl', eb, hb, hzl, bi, g4⟩ := g3.setIn (k := k) es m2 evs ew od3.shared
    rw [hxv] at exa
    cases exa
    have ha3 : H3 a = some (.lst ys) := st3.eff a _ ha (fun i hi => nomatch hi)
    rw [ha'] at ha3
    cases ha3
    rw [ev2] at eb
    cases eb
    have rj := ex3.od.rt
    rw [ey0] at rj
    have rj : y2 = .int y := rj
    refine ⟨b, zs, y, k, rfl, rj, hb, by rw [hzl]; exact ek, ?_⟩
    have st2 : StepD (mutd ie ++ mutd iix) H fp H3 (fpWipe fp3 o.al) := (((ex.st.mono fun j z => List.mem_append_left _ z).trans (ey.st.mono fun j z => List.mem_append_right _ z)).trans (st3.mono fun j z => nomatch z)).less wipe_less
    have st4 : StepD (mutdS (.setij i iix ijx ie)) H fp (upd H3 b (.lst (zs.set k x))) (fpWipe fp3 o.al) := by
      rw [mutdS, mj, List.nil_append]
      refine ⟨fun c u ec nc => ?_, st2.sub, fun c u ec => ?_⟩
      · have h1 := st2.eff c u ec fun j hj => nc j (by rw [List.mem_append] at hj; simp only [List.mem_append]; exact hj.imp id .inl)
        refine (upd_ne fun z => ?_).trans h1
        rcases st2.sub i b bi with q | q
        · exact nc i (by simp) (by rw [z]; exact q)
        · rw [← z, ec] at q
          cases q
      · by_cases q : c = b
        · rw [q]; exact ⟨_, upd_same⟩
        · obtain ⟨o', h'⟩ := st2.there c u ec
          exact ⟨o', by rw [upd_ne q]; exact h'⟩
    exact q _ _ _ ⟨g4, st4, fun _ _ => rfl, rfl⟩
end
end VI
namespace VI
open PySem PySem.Spec PyProof.Rows L2

section
variable {K : PySem.W.Frag} {M Mb : Fam K} {G : GE} {H H' H1 H2 H4 : Hp} {F F' O O' : Addr → Prop} {fr fr' fr1 fr2 fr3 fr5 : Fr} {σ σ' σ1 σ2 : L2.St} {fp fp' fp1 fp2 fp4 : FP} {D D' A A' B B' : List Nat}
theorem Rs.atIx {vs : List PV} {ys : List V} {i : Int} {v : PV} (h : Rs K H O vs ys) (e : L2.atI vs i = some v) : ∃ y, L2.atI ys i = some y ∧ R K H O v y := h.atI e
/-- xs[i] op= e -/
theorem sndS_augi {i : Nat} {p : Prim} {ti : TIp} {st : Stmt} {e ix : Expr} {ie iix : IE} (h : Snd M G e ie) (hi : Snd M G ix iix) (ha : ASat p ti)
    (hp : ∀ te tj, PEu M e te → PEu M ix tj → ∀ X, M.C X → PS X st (tAugS (tVar i) tj te (rIxL K) ti rSetL)) : SndS M G st (.augi i p iix ie) := by
  obtain ⟨te, pe, s⟩ := h.pe
  obtain ⟨tj, pj, sj⟩ := hi.pe
  refine ⟨⟨_, hp te tj pe pj, fun fr σ H F fp fr' fl g ev De q => ?_⟩⟩
  rw [evS] at ev
  split at ev
  case isTrue => cases ev
  rename_i l0
  cases ei : evE G iix fr with
  | none => rw [ei] at ev; cases ev
  | some pr =>
  obtain ⟨fr1, oi⟩ := pr
  rw [ei] at ev
  simp only [Option.bind_some] at ev
  split at ev
  case isTrue => cases ev
  rename_i l1
  split at ev
  case h_2 => cases ev
  rename_i s1 es1
  cases ex0 : pvIdx s1.v oi.v with
  | none => rw [ex0] at ev; cases ev
  | some xv =>
  rw [ex0] at ev
  simp only [Option.bind_some] at ev
  cases ee : evE G ie fr1 with
  | none => rw [ee] at ev; cases ev
  | some pr =>
  obtain ⟨fr2, o⟩ := pr
  rw [ee] at ev
  simp only [Option.bind_some] at ev
  cases ea : augF p xv o.v with
  | none => rw [ea] at ev; cases ev
  | some y =>
  rw [ea] at ev
  simp only [Option.bind_some] at ev
  split at ev
  case h_2 => cases ev
  rename_i s0 z es ez
  split at ev
  case h_2 => cases ev
  rename_i vs evs
  split at ev
  case h_2 => cases ev
  rename_i n en
  split at ev
  case isFalse => cases ev
  rename_i m1
  cases ev
  obtain ⟨a0, ha0, _⟩ := isLAt_of g (i := i) (by simpa using l0)
  refine ⟨a0, ha0, sj fr σ H F fp fr1 oi g ei _ fun yi H1 fp1 fo ex => ?_⟩
  have ryi := ex.od.rt
  rw [ez] at ryi
  have ryi : yi = .int z := ryi
  have l1 : isLAt fr1 i = true := by simpa using l1
  unfold isLAt at l1
  rw [es1] at l1
  obtain ⟨ws, ews⟩ := isL_lst l1
  obtain ⟨x1, hx1, r1⟩ := RT.ofRM ex.hf0 es1
  rw [ha0] at hx1
  cases hx1
  rw [ews] at r1
  obtain ⟨a, ys1, rfl, h1, rs1⟩ := r1
  rw [ews, ez] at ex0
  have ex0 : L2.atI ws z = some xv := ex0
  obtain ⟨y1, ey1, ry1⟩ := rs1.atIx ex0
  refine ⟨a, ys1, z, y1, rfl, ryi, SqL.of h1, ey1, ?_⟩
  refine s fr1 σ H1 F fp1 fr2 o ex.hf0 ee _ fun y2 H2 fp2 f2 ey => ?_
  have rx1 : RT K H2 (OwA F fp1 (elal (varOd i s1))) xv y1 := by
    obtain ⟨u, v, e1, _⟩ := aug_inv ea
    rw [e1] at ry1 ⊢
    exact ry1
  refine ha K H2 _ _ _ _ _ _ _ rx1 ey.od.rt ea _ fun x' rx' => ?_
  have od : OR K H2 F fp2 ⟨y, 0, [], false⟩ x' [] := ⟨by rw [RM.zero]; exact ⟨rfl, rx' _ _⟩, .nil, fun _ z => (nomatch z), fun z => nomatch z⟩
  obtain ⟨a', ys, fs', exa, h2, hl, ⟨fs, ef, hs⟩, g3⟩ := FR.setAt (o := ⟨y, 0, [], false⟩) ey.hf0.plusNil es (by omega) evs (ixN_lt en) (by unfold putOk; rw [m1]; rfl) od
  rw [ha0] at exa
  cases exa
  refine ⟨a, ys, z, n, rfl, ryi, h2, by rw [hl]; exact en, ?_⟩
  have st2 : StepD (mutd iix ++ mutd ie) H fp H2 fp2 := (ex.st.mono fun j z => List.mem_append_left _ z).trans (ey.st.mono fun j z => List.mem_append_right _ z)
  exact q _ _ _ ⟨g3, st2.put (by rw [mutdS]; simp) (fun j hj => by rw [mutdS]; rw [List.mem_append] at hj; simp only [List.mem_append]; exact hj.imp id .inl) ef hs (fun _ z => nomatch z), fun _ _ => rfl, rfl⟩
/-- xs.append(e) -/
theorem sndS_app {i : Nat} {st : Stmt} {e : Expr} {ie : IE} (h : Snd M G e ie) (hp : ∀ te, PEu M e te → ∀ X, M.C X → PS X st (tDrop (tBM K "list" rAppend (tVar i) (tCons te tNil)))) : SndS M G st (.app i ie) := by
  obtain ⟨te, pe, s⟩ := h.pe
  refine ⟨⟨_, hp te pe, fun fr σ H F fp fr' fl g ev De q => ?_⟩⟩
  rw [evS] at ev
  split at ev
  case isTrue => cases ev
  rename_i l0
  cases ee : evE G ie fr with
  | none => rw [ee] at ev; cases ev
  | some pr =>
  obtain ⟨fr1, o⟩ := pr
  rw [ee] at ev
  simp only [Option.bind_some] at ev
  cases ed : dem o.al fr1 with
  | none => rw [ed] at ev; cases ev
  | some fr2 =>
  rw [ed] at ev
  simp only [Option.bind_some] at ev
  split at ev
  case h_2 => cases ev
  rename_i s0 es
  split at ev
  case h_2 => cases ev
  rename_i vs evs
  split at ev
  case isFalse => cases ev
  rename_i cond
  simp only [Bool.and_eq_true, bne_iff_ne, decide_eq_true_eq] at cond
  cases ev
  obtain ⟨a0, ha0, a, ys0, rfl, h0⟩ := isLAt_of g (i := i) (by simpa using l0)
  refine ⟨.ref a, ha0, .inl ⟨rfl, ys0, SqL.of h0⟩, ?_⟩
  refine s fr σ H F fp fr1 o g ee _ fun x H1 fp1 fo ex => ?_
  have g2 : FR K H1 (plus F fo) fr2 σ (fpWipe fp1 o.al) := ex.hf.demF ed
  obtain ⟨a', ys, fs', exa, ha, hl, ⟨fs, ef, hs⟩, g3⟩ := g2.appAt es cond.1.1 evs cond.1.2 ex.od.dem
  rw [ha0] at exa
  cases exa
  refine ⟨a, ys, x, rfl, rfl, ha, by rw [hl]; exact cond.2, ?_⟩
  exact q _ _ _ ⟨g3, (ex.st.less wipe_less).put (by rw [mutdS]; simp) (fun j hj => by rw [mutdS]; exact List.mem_append_left _ hj) ef hs ex.nw, fun _ _ => rfl, rfl⟩
/-- xs.pop(e) -/
theorem snd_pop1 {i : Nat} {c e : Expr} {ie : IE} (h : Snd M G e ie) (hp : ∀ te, PEu M e te → PEu M c (tBM K "list" rPopAt (tVar i) (tCons te tNil))) : Snd M G c (.pop1 i ie) := by
  obtain ⟨te, pe, s⟩ := h.pe
  refine ⟨⟨_, hp te pe, fun fr σ H F fp fr' o g ev Q q => ?_⟩, fun _ z => nomatch z⟩
  rw [evE] at ev
  split at ev
  case isTrue => cases ev
  rename_i l0
  cases ee : evE G ie fr with
  | none => rw [ee] at ev; cases ev
  | some pr =>
  obtain ⟨fr1, o1⟩ := pr
  rw [ee] at ev
  simp only [Option.bind_some] at ev
  split at ev
  case h_2 => cases ev
  rename_i s0 z es ez
  split at ev
  case isFalse => cases ev
  rename_i cond
  split at ev
  case h_2 => cases ev
  rename_i vs evs
  split at ev
  case h_2 => cases ev
  rename_i n en
  split at ev
  case h_2 => cases ev
  rename_i y ey
  cases ev
  obtain ⟨a0, ha0, a, ys0, rfl, h0⟩ := isLAt_of g (i := i) (by simpa using l0)
  refine ⟨.ref a, ha0, .inl ⟨rfl, ys0, SqL.of h0⟩, ?_⟩
  refine s fr σ H F fp fr1 o1 g ee _ fun x H1 fp1 fo ex => ?_
  have rx := ex.od.rt
  rw [ez] at rx
  have rx : x = .int z := rx
  obtain ⟨a', ys, w, exa, ha, hl, hw, ef, ry, g3⟩ := ex.hf0.delAt es cond.1 evs ey
  rw [ha0] at exa
  cases exa
  refine ⟨a, ys, z, n, w, rfl, by rw [rx], ha, cond.2.1, cond.2.2, by rw [hl]; exact (ixN_seq en).1, hw, ?_⟩
  refine q _ _ _ [] ⟨g3.plusNil, fun j hj => ?_, ?_, (fun _ z => nomatch z), (by rw [RM.zero]; exact ⟨rfl, ry.mono fun a z => z.elim (fun z => z.elim .inl fun z => nomatch z) fun ⟨i, q, _⟩ => .inr ⟨i, q⟩⟩), .nil, (fun _ z => nomatch z), (fun z => nomatch z)⟩
  · rw [mutd] at hj
    have hji : j ≠ i := fun z => hj (List.mem_append_right _ (z ▸ List.mem_singleton.mpr rfl))
    obtain ⟨k1, k2⟩ := ex.keep j fun z => hj (List.mem_append_left _ z)
    exact ⟨by rw [List.getElem?_set_ne (Ne.symm hji)]; exact k1, by rw [fpSet_ne hji]; exact k2⟩
  · exact StepD.put (fo := []) ex.st (by rw [mutd]; exact List.mem_append_right _ (List.mem_singleton.mpr rfl)) (fun j hj => by rw [mutd]; exact List.mem_append_left _ hj) ef (fun _ z => nomatch z) (fun _ z => nomatch z)
theorem popLast {α : Type} : ∀ (l : List α), l.eraseIdx (l.length - 1) = l.dropLast
  | [] => rfl
  | [_] => rfl
  | a :: b :: l => by
    have := popLast (b :: l)
    show a :: (b :: l).eraseIdx ((b :: l).length - 1) = a :: (b :: l).dropLast
    rw [this]
/-- xs.pop() -/
theorem snd_pop0 {i : Nat} {c : Expr} (hp : PEu M c (tBM0 K "list" rPop (tVar i))) : Snd M G c (.pop0 i) := by
  refine ⟨⟨_, hp, fun fr σ H F fp fr' o g ev Q q => ?_⟩, fun _ z => nomatch z⟩
  rw [evE] at ev
  split at ev
  case h_2 => cases ev
  rename_i s0 es
  split at ev
  case isFalse => cases ev
  rename_i m1
  split at ev
  case h_2 => cases ev
  rename_i vs evs
  split at ev
  case h_2 => cases ev
  rename_i y ey
  cases ev
  obtain ⟨a, ys, w, exa, ha, hl, hw, ef, ry, g3⟩ := g.delAt es m1 evs ey
  have e1 : ∀ {α : Type} (l : List α), l.eraseIdx (l.length - 1) = l.dropLast := popLast
  refine ⟨.ref a, exa, .inl ⟨rfl, ys, SqL.of ha⟩, a, ys, w, rfl, rfl, ha, by rw [hl]; exact hw, ?_⟩
  rw [e1 vs] at g3
  rw [← hl, e1 ys] at g3 ry
  refine q _ _ _ [] ⟨g3.plusNil, fun j hj => ?_, ?_, (fun _ z => nomatch z), (by rw [RM.zero]; exact ⟨rfl, ry.mono fun a z => z.elim (fun z => z.elim .inl fun z => nomatch z) fun ⟨i, q, _⟩ => .inr ⟨i, q⟩⟩), .nil, (fun _ z => nomatch z), (fun z => nomatch z)⟩
  · rw [mutd] at hj
    have hji : j ≠ i := fun z => hj (z ▸ List.mem_singleton.mpr rfl)
    exact ⟨by rw [List.getElem?_set_ne (Ne.symm hji)], by rw [fpSet_ne hji]⟩
  · exact StepD.put (fo := []) (.refl _ _ _) (by rw [mutd]; exact List.mem_singleton.mpr rfl) (fun j hj => hj) ef (fun _ z => nomatch z) (fun _ z => nomatch z)
/-- an expression whose value is dropped -/
theorem sndS_ex {e : Expr} {ie : IE} {pos : Pos} (h : Snd M G e ie) (hs : ∀ X, M.C X → swapsWith e none pos.line X.env = pure false) : SndS M G (.Expr e pos) (.ex ie) := by
  obtain ⟨te, pe, s⟩ := h.pe
  refine ⟨⟨_, fun X hX => ps_expr (pe X hX) (hs X hX), fun fr σ H F fp fr' fl g ev De q => ?_⟩⟩
  rw [evS] at ev
  cases ee : evE G ie fr with
  | none => rw [ee] at ev; cases ev
  | some pr =>
  obtain ⟨fr1, o⟩ := pr
  rw [ee] at ev
  cases ev
  refine s fr σ H F fp fr' o g ee _ fun x H1 fp1 fo ex => ?_
  exact q _ _ _ ⟨ex.hf0, ex.st.mono fun j hj => by rw [mutdS]; exact hj, fun _ _ => rfl, rfl⟩
theorem sndS_pass {st : Stmt} (hp : ∀ X, M.C X → PS X st tNext) : SndS M G st .pass := ⟨⟨_, hp, fun fr σ H F fp fr' fl g ev De q => by
  rw [evS] at ev
  cases ev
  exact q _ _ _ (.refl g)⟩⟩
theorem sndS_brk {pos : Pos} : SndS M G (.Break pos) .brk := ⟨⟨_, fun _ _ => ps_break, fun fr σ H F fp fr' fl g ev De q => by
  rw [evS] at ev
  cases ev
  exact q _ _ _ (.refl g)⟩⟩
theorem sndS_cont {pos : Pos} : SndS M G (.Continue pos) .cont := ⟨⟨_, fun _ _ => ps_continue, fun fr σ H F fp fr' fl g ev De q => by
  rw [evS] at ev
  cases ev
  exact q _ _ _ (.refl g)⟩⟩
theorem OR.non : OR K H F fp ⟨.non, 0, [], false⟩ .non [] := ⟨by rw [RM.zero]; exact ⟨rfl, rfl⟩, .nil, fun _ z => (nomatch z), fun z => nomatch z⟩
theorem sndS_retN {pos : Pos} : SndS M G (.Return none pos) .retN := ⟨⟨_, fun _ _ => ps_retN, fun fr σ H F fp fr' fl g ev De q => by
  rw [evS] at ev
  cases ev
  exact q.1 _ σ H fp [] ⟨g.plusNil, .refl _ _ _, fun _ _ => rfl, rfl, fun _ z => (nomatch z), OR.non⟩⟩⟩
theorem evS_ret {ie : IE} (nv : ∀ i, ie ≠ .var i) (fr : Fr) : evS G (.ret ie) fr = (evE G ie fr).bind fun (fr1, o) => (dem o.al fr1).bind fun fr2 => some (fr2, .ret o.v o.m) := by
  cases ie with
  | var i => exact absurd rfl (nv i)
  | _ => rw [evS]; intro i z; cases z
theorem sndS_ret {e : Expr} {ie : IE} {pos : Pos} (h : Snd M G e ie) (nv : ∀ i, ie ≠ .var i) : SndS M G (.Return (some e) pos) (.ret ie) := by
  obtain ⟨te, pe, s⟩ := h.pe
  refine ⟨⟨_, fun X hX => ps_ret (pe X hX), fun fr σ H F fp fr' fl g ev De q => ?_⟩⟩
  rw [evS_ret nv] at ev
  cases ee : evE G ie fr with
  | none => rw [ee] at ev; cases ev
  | some pr =>
  obtain ⟨fr1, o⟩ := pr
  rw [ee] at ev
  simp only [Option.bind_some] at ev
  cases ed : dem o.al fr1 with
  | none => rw [ed] at ev; cases ev
  | some fr2 =>
  rw [ed] at ev
  cases ev
  refine s fr σ H F fp fr1 o g ee _ fun x H1 fp1 fo ex => ?_
  exact q.1 x σ H1 _ fo ⟨ex.hf.demF ed, (ex.st.mono fun j hj => by rw [mutdS]; exact hj).less wipe_less, fun _ _ => rfl, rfl, fun b hb => .inl (ex.nw b hb), ex.od.dem⟩
theorem sndS_retV {e : Expr} {i : Nat} {pos : Pos} (pe : PEu M e (tVar i)) : SndS M G (.Return (some e) pos) (.ret (.var i)) := by
  refine ⟨⟨_, fun X hX => ps_ret (pe X hX), fun fr σ H F fp fr' fl g ev De q => ?_⟩⟩
  rw [evS] at ev
  split at ev
  case h_2 => cases ev
  rename_i s es
  obtain ⟨x, ex, r⟩ := g.slot i s es
  split at ev
  · rename_i m0
    cases ev
    rw [m0, RM.zero] at r
    have r0 : R K H (OwA (plus F []) fp []) s.v x := r.2.mono fun a z => by
      rcases z with (z | z) | ⟨j, z, _⟩
      · exact .inl z
      · cases z
      · exact .inr ⟨j, z⟩
    exact ⟨x, ex, q.1 x σ H fp [] ⟨g.plusNil, .refl _ _ _, fun _ _ => rfl, rfl, fun _ z => (nomatch z), ⟨by rw [RM.zero]; exact ⟨rfl, r0⟩, .nil, fun _ z => (nomatch z), fun z => nomatch z⟩⟩⟩
  · split at ev
    · cases ev
    cases ev
    have sub : ∀ a, Ow (plus F (fp i)) (fpWipe fp [i]) a → Ow F fp a := fun a z => by
      rcases z with (z | z) | ⟨j, z⟩
      · exact .inl z
      · exact .inr ⟨i, z⟩
      · exact .inr ⟨j, (fpWipe_sub z).2⟩
    refine ⟨x, ex, q.1 x σ H (fpWipe fp [i]) (fp i) ⟨⟨by rw [List.length_set]; exact g.len, fun j u eu => ?_, fun j hj => ?_, fun j => ?_, fun j k a ha hb => g.disj j k a (fpWipe_sub ha).2 (fpWipe_sub hb).2, fun a ha => ?_⟩, (StepD.refl _ _ _).less wipe_less, fun _ _ => rfl, rfl,
      fun b hb => .inr ⟨i, by rw [retdS]; exact List.mem_singleton.mpr rfl, hb⟩, ⟨r.mono fun a z => ?_, g.nd i, fun b hb z => ?_, fun z => nomatch z⟩⟩⟩
    · by_cases e : j = i
      · subst e; rw [List.getElem?_set_self (lt_of_some es)] at eu; cases eu
      · rw [List.getElem?_set_ne (Ne.symm e)] at eu
        obtain ⟨y, ey, ry⟩ := g.slot j u eu
        exact ⟨y, ey, by rw [fpWipe_out (by simpa using e)]; exact ry.mono sub⟩
    · by_cases e : j = i
      · subst e; exact fpWipe_in (List.mem_singleton.mpr rfl)
      · rw [fpWipe_out (by simpa using e)]
        exact g.emp j fun u eu => hj u (by rw [List.getElem?_set_ne (Ne.symm e)]; exact eu)
    · by_cases e : j = i
      · subst e; rw [fpWipe_in (List.mem_singleton.mpr rfl)]; exact .nil
      · rw [fpWipe_out (by simpa using e)]; exact g.nd j
    · rcases ha with ha | ha
      · exact ⟨(g.amb a ha).1, fun j hj => (g.amb a ha).2 j (fpWipe_sub hj).2⟩
      · exact ⟨g.tracked ha, fun j hj => by
          obtain ⟨n, hj⟩ := fpWipe_sub hj
          exact n (List.mem_singleton.mpr (g.disj j i a hj ha))⟩
    · exact sub a (z.imp id fun ⟨j, z, _⟩ => ⟨j, z⟩)
    · rcases z with z | ⟨j, z⟩
      · exact (g.amb b z).2 i hb
      · obtain ⟨n, z⟩ := fpWipe_sub z
        exact n (List.mem_singleton.mpr (g.disj j i b z hb))
/-- if -/
theorem sndS_ite {c : Expr} {a b : List Stmt} {ic : IE} {ia ib : ISs} {pos : Pos} (hc : SndT M G c ic) (ha : SndSs M G a ia) (hb : SndSs M G b ib) : SndS M G (.If c a b pos) (.ite ic ia ib) := by
  obtain ⟨tc, pc, sc⟩ := hc
  obtain ⟨ta, pa, sa⟩ := ha.ps
  obtain ⟨tb, pb, sb⟩ := hb.ps
  refine ⟨⟨_, fun X hX => ps_if (pc X hX) (pa X hX) (pb X hX), fun fr σ H F fp fr' fl g ev De q => ?_⟩⟩
  rw [evS] at ev
  cases ee : evE G ic fr with
  | none => rw [ee] at ev; cases ev
  | some pr =>
  obtain ⟨fr1, o⟩ := pr
  rw [ee] at ev
  simp only [Option.bind_some] at ev
  have mc : ∀ i ∈ mutd ic, i ∈ mutdS (.ite ic ia ib) := fun i z => by rw [mutdS]; exact List.mem_append_left _ z
  have go : ∀ {H1 fp1 fo x}, Ex K H F σ fr fp (mutd ic) H1 fr1 fp1 fo o x → ExS K H F σ fp (mutdS (.ite ic ia ib)) (asgdS (.ite ic ia ib)) H1 fr1 σ fp1 := fun {H1 fp1 fo x} ex => ⟨ex.hf0, ex.st.mono mc, fun _ _ => rfl, rfl⟩
  split at ev
  · rename_i ek
    refine sc fr σ H F fp fr1 o true g ee ek _ fun H1 fp1 fo ex => ?_
    rw [if_pos rfl]
    exact sa fr1 σ H1 F fp1 fr' fl ex.hf0 ev De ((q.later (go ex)).weak (fun i z => by rw [mutdS]; exact List.mem_append_right _ (List.mem_append_left _ z)) (fun i z => by rw [asgdS]; exact List.mem_append_left _ z) (fun i z => by rw [retdS]; exact List.mem_append_left _ z))
  · rename_i ek
    refine sc fr σ H F fp fr1 o false g ee ek _ fun H1 fp1 fo ex => ?_
    rw [if_neg Bool.false_ne_true]
    exact sb fr1 σ H1 F fp1 fr' fl ex.hf0 ev De ((q.later (go ex)).weak (fun i z => by rw [mutdS]; exact List.mem_append_right _ (List.mem_append_right _ z)) (fun i z => by rw [asgdS]; exact List.mem_append_right _ z) (fun i z => by rw [retdS]; exact List.mem_append_right _ z))
  · cases ev
end
end VI
namespace VI
open PySem PySem.Spec PyProof.Rows L2
section
variable {K : PySem.W.Frag} {M : Fam K} {G : GE} {H H' H1 H2 : Hp} {F O O' : Addr → Prop} {fr fr1 fr2 : Fr} {σ : L2.St} {fp fp1 fp2 : FP}
/-- shared items behind a slot's list -/
theorem FR.extAt {i : Nat} {s : Sl} {vs ws : List PV} {zs : List V} (g : FR K H F fr σ fp) (e : fr[i]? = some (some s)) (m1 : s.m = 1) (ev : s.v = .lst vs) (rz : Rs K H (Ow F fp) ws zs) :
    ∃ a ys, σ[i]? = some (some (.ref a)) ∧ H a = some (.lst ys) ∧ ys.length = vs.length ∧ fp i = [a] ∧ FR K (upd H a (.lst (ys ++ zs))) F (fr.set i (some ⟨s.m, s.pin, .lst (vs ++ ws)⟩)) σ (fpSet fp i [a]) := by
  have ek : s.m = 0 + 1 := m1
  obtain ⟨a, ys, fs, ex, ef, h, nd, r⟩ := g.own e ek ev
  obtain ⟨e0, r0⟩ := RMs.to0 r
  subst e0
  exact ⟨a, ys, ex, h, r0.length, ef, FR.put g.plusNil e ex ek ef (fs' := []) (fun _ z => nomatch z) .nil (fun _ z => nomatch z) (RMs.of0 ((r0.append rz).mono fun a z => z.imp (fun z => z.elim id fun z => nomatch z) id))⟩
/-- xs.extend(e) -/
theorem sndS_ext {i : Nat} {st : Stmt} {e : Expr} {ie : IE} (h : Snd M G e ie) (hp : ∀ te, PEu M e te → ∀ X, M.C X → PS X st (tDrop (tBM K "list" rExtend (tVar i) (tCons te tNil)))) : SndS M G st (.ext i ie) := by
  obtain ⟨te, pe, s⟩ := h.pe
  refine ⟨⟨_, hp te pe, fun fr σ H F fp fr' fl g ev De q => ?_⟩⟩
  rw [evS] at ev
  split at ev
  case isTrue => cases ev
  rename_i l0
  cases ee : evE G ie fr with
  | none => rw [ee] at ev; cases ev
  | some pr =>
  obtain ⟨fr1, o⟩ := pr
  rw [ee] at ev
  simp only [Option.bind_some] at ev
  split at ev
  case isFalse => cases ev
  rename_i cal
  split at ev
  case h_2 => cases ev
  rename_i s0 es
  split at ev
  case h_2 => cases ev
  rename_i vs ws evs ews
  split at ev
  case isFalse => cases ev
  rename_i cond
  cases ev
  obtain ⟨a0, ha0, a, ys0, rfl, h0⟩ := isLAt_of g (i := i) (by simpa using l0)
  refine ⟨.ref a, ha0, .inl ⟨rfl, ys0, SqL.of h0⟩, ?_⟩
  refine s fr σ H F fp fr1 o g ee _ fun x H1 fp1 fo ex => ?_
  obtain ⟨b, zs, rfl, hb, rz, _⟩ := ex.od.lst ews
  have el : elal o = [] := by
    unfold elal
    rcases cal with c | c
    · rw [if_pos c]
    · rw [c]; split <;> rfl
  rw [el] at rz
  have rz' := rz.mono (O' := Ow F fp1) fun a z => OwA.nil z
  obtain ⟨a', ys, exa, ha, hl, ef, g3⟩ := ex.hf0.extAt es cond.1 evs rz'
  rw [ha0] at exa
  cases exa
  refine ⟨a, b, ys, zs, rfl, rfl, ha, hb, by rw [hl, rz.length]; exact cond.2, ?_⟩
  exact q _ _ _ ⟨g3, StepD.put (fo := []) ex.st (by rw [mutdS]; simp) (fun j hj => by rw [mutdS]; exact List.mem_append_left _ hj) ef (fun _ z => nomatch z) (fun _ z => nomatch z), fun _ _ => rfl, rfl⟩
end
end VI
namespace VI
open PySem PySem.Spec PyProof.Rows L2

section
variable {K : PySem.W.Frag} {M Mb : Fam K} {G : GE} {H H' H1 H2 H4 : Hp} {F F' O O' : Addr → Prop} {fr fr' fr1 fr2 fr3 fr5 : Fr} {σ σ' σ1 σ2 : L2.St} {fp fp' fp1 fp2 fp4 : FP} {D D' A A' B B' : List Nat}
theorem whN_succ (c : Fr → Option (Fr × Bool)) (b : Fr → Option (Fr × Fl)) (n : Nat) (fr : Fr) : whN c b (n + 1) fr = (c fr).bind fun (fr1, k) => match k with
    | false => some (fr1, .next)
    | true => (b fr1).bind fun (fr2, fl) => match fl with
      | .next => whN c b n fr2
      | .cont => whN c b n fr2
      | .brk => some (fr2, .next)
      | .ret v m => some (fr2, .ret v m) := rfl
/-- while -/
theorem sndS_whl {c : Expr} {body : List Stmt} {ic : IE} {ib : ISs} {pos : Pos} (hp : ∀ X, M.C X → PassesOwn (model X.prog X.w) X.A X.env X.xe) (hc : SndT M G c ic) (hb : SndSs M G body ib) : SndS M G (.While c body [] pos) (.whl ic ib) := by
  obtain ⟨tc, pc, sc⟩ := hc
  obtain ⟨tb, pb, sb⟩ := hb.ps
  refine ⟨⟨_, fun X hX => ps_while (hp X hX) (pc X hX) (pb X hX), fun fr σ H F fp fr' fl g ev De q => ?_⟩⟩
  rw [evS] at ev
  obtain ⟨n0, ev⟩ := wh_some ev
  have mc : ∀ i ∈ mutd ic, i ∈ mutdS (.whl ic ib) := fun i z => by rw [mutdS]; exact List.mem_append_left _ z
  have mb : ∀ i ∈ mutdSs ib, i ∈ mutdS (.whl ic ib) := fun i z => by rw [mutdS]; exact List.mem_append_right _ z
  have ab : ∀ i ∈ asgdSs ib, i ∈ asgdS (.whl ic ib) := fun i z => by rw [asgdS]; exact z
  have rb : ∀ i ∈ retdSs ib, i ∈ retdS (.whl ic ib) := fun i z => by rw [retdS]; exact z
  generalize hcv : (fun fr => (evE G ic fr).bind fun ((fr1, o) : Fr × Od) => match o.v with | .bl k => some (fr1, k) | _ => none) = cv at ev
  refine ⟨fun m σ1 H1 => ∃ fr1 fp1, ExS K H F σ fp (mutdS (.whl ic ib)) (asgdS (.whl ic ib)) H1 fr1 σ1 fp1 ∧ whN cv (evSs G ib) m fr1 = some (fr', fl), ⟨n0, fr, fp, .refl g, ev⟩, ?_⟩
  rintro m σ1 H1 ⟨fr1, fp1, ex, ew⟩
  cases m with
  | zero => cases ew
  | succ n =>
  rw [whN_succ] at ew
  cases ec : cv fr1 with
  | none => rw [ec] at ew; cases ew
  | some pr =>
  obtain ⟨fr2, k⟩ := pr
  rw [ec] at ew
  simp only [Option.bind_some] at ew
  have ec2 : ∃ o, evE G ic fr1 = some (fr2, o) ∧ o.v = .bl k := by
    rw [← hcv] at ec
    cases ee : evE G ic fr1 with
    | none => simp only [ee] at ec; cases ec
    | some pr =>
      obtain ⟨fr3, o⟩ := pr
      simp only [ee, Option.bind_some] at ec
      split at ec
      · rename_i ek
        cases ec
        exact ⟨o, rfl, ek⟩
      · cases ec
  obtain ⟨o, ee, ek⟩ := ec2
  refine sc fr1 σ1 H1 F fp1 fr2 o k ex.hf ee ek _ fun H2 fp2 fo ex2 => ?_
  have ex3 : ExS K H F σ fp (mutdS (.whl ic ib)) (asgdS (.whl ic ib)) H2 fr2 σ1 fp2 := ex.trans ⟨ex2.hf0, ex2.st.mono mc, fun _ _ => rfl, rfl⟩
  cases k with
  | false =>
    simp only at ew
    cases ew
    rw [if_neg Bool.false_ne_true]
    exact q _ _ _ ex3
  | true =>
    simp only at ew
    rw [if_pos rfl]
    refine ⟨fun σ' H' => ∃ fr1 fp1, ExS K H F σ fp (mutdS (.whl ic ib)) (asgdS (.whl ic ib)) H' fr1 σ' fp1 ∧ whN cv (evSs G ib) n fr1 = some (fr', fl), fun σ' H' h => ⟨n, Nat.lt_succ_self _, h⟩, ?_⟩
    cases eb : evSs G ib fr2 with
    | none => rw [eb] at ew; cases ew
    | some pr =>
    obtain ⟨fr3, fl3⟩ := pr
    rw [eb] at ew
    simp only [Option.bind_some] at ew
    refine sb fr2 σ1 H2 F fp2 fr3 fl3 ex3.hf eb _ ?_
    cases fl3 with
    | next => exact fun σ' H' fp' e => ⟨fr3, fp', ex3.trans (e.weak mb ab), ew⟩
    | cont => exact fun σ' H' fp' e => ⟨fr3, fp', ex3.trans (e.weak mb ab), ew⟩
    | brk =>
      cases ew
      exact fun σ' H' fp' e => q _ _ _ (ex3.trans (e.weak mb ab))
    | ret v m =>
      cases ew
      exact ⟨fun x σ' H' fp' fo e => q.1 _ _ _ _ _ (ex3.ret (e.weak mb ab rb)), fun c ns ws ev σ' H' fp' d e n1 n2 hd => q.2 c ns ws ev _ _ _ _ (ex3.trans (e.weak mb ab)) (ex3.st.old n1) n2 hd⟩
theorem forGo_cons (asg : PV → Fr → Option Fr) (b : Fr → Option (Fr × Fl)) (v : PV) (vs : List PV) (fr : Fr) : forGo asg b (v :: vs) fr = (asg v fr).bind fun fr1 => (b fr1).bind fun (fr2, fl) => match fl with
    | .next => forGo asg b vs fr2
    | .cont => forGo asg b vs fr2
    | .brk => some (fr2, .next)
    | .ret v m => some (fr2, .ret v m) := rfl
/-- for -/
theorem sndS_for {tg iter : Expr} {body : List Stmt} {pt : Pat} {it : IT} {ib : ISs} {pos : Pos} (hp : ∀ X, M.C X → PassesOwn (model X.prog X.w) X.A X.env X.xe) (hc : ∀ X, M.C X → X.calm = true) (hi : SndI M G tg iter it) (ht : SndP M tg pt) (hb : SndSs M G body ib) :
    SndS M G (.For tg iter body [] pos) (.for pt it ib) := by
  obtain ⟨wi, pi, si⟩ := hi.pi
  obtain ⟨tg', pg, sg⟩ := ht.pg
  obtain ⟨tb, pb, sb⟩ := hb.ps
  refine ⟨⟨_, fun X hX => ps_for (hp X hX) (hc X hX) (pi X hX) (pg X hX) (pb X hX) (hi.hs X hX), fun fr σ H F fp fr' fl g ev De q => ?_⟩⟩
  rw [evS] at ev
  cases ei : evI G it fr with
  | none => rw [ei] at ev; cases ev
  | some pr =>
  obtain ⟨fr1, im⟩ := pr
  rw [ei] at ev
  simp only [Option.bind_some] at ev
  split at ev
  case isFalse => cases ev
  rename_i djs
  cases ed : dem im.al fr1 with
  | none => rw [ed] at ev; cases ev
  | some fr2 =>
  rw [ed] at ev
  simp only [Option.bind_some] at ev
  have mi : ∀ i ∈ mutdI it, i ∈ mutdS (.for pt it ib) := fun i z => by rw [mutdS]; exact List.mem_append_left _ z
  have mb : ∀ i ∈ mutdSs ib, i ∈ mutdS (.for pt it ib) := fun i z => by rw [mutdS]; exact List.mem_append_right _ z
  have ap : ∀ i ∈ patSl pt, i ∈ asgdS (.for pt it ib) := fun i z => by rw [asgdS]; exact List.mem_append_left _ z
  have ab : ∀ i ∈ asgdSs ib, i ∈ asgdS (.for pt it ib) := fun i z => by rw [asgdS]; exact List.mem_append_right _ z
  have rb : ∀ i ∈ retdSs ib, i ∈ retdS (.for pt it ib) := fun i z => by rw [retdS]; exact z
  refine si fr σ H F fp fr1 im g ei _ fun J H1 fp1 S B ex => ?_
  have g2 := ex.hf.demF ed
  have al2 : ∀ a, Ow F (fpWipe fp1 im.al) a → OwA F fp1 im.al a := fun a z => z.imp id fun ⟨i, z⟩ => ⟨i, (fpWipe_sub z).2, (fpWipe_sub z).1⟩
  generalize hfp2 : fpWipe fp1 im.al = fp2 at g2 al2
  have hB : B H1 (Ow F fp2) := ex.wk.base _ _ _ _ ex.b (fun _ _ e _ => e) fun a z => .inl (al2 a z)
  have hS2 : ∀ a, S a → ∀ i, a ∈ fp2 i → i ∈ im.src := fun a sa i hi => ex.s a sa i (by rw [← hfp2] at hi; exact (fpWipe_sub hi).2)
  have ex0 : ExS K H F σ fp (mutdS (.for pt it ib)) (asgdS (.for pt it ib)) H1 fr2 σ fp2 := ⟨g2, (ex.st.mono mi).less (by rw [← hfp2]; exact wipe_less), fun _ _ => rfl, rfl⟩
  refine ⟨fun i m σ' H' => m = im.vs.length - i ∧ i ≤ im.vs.length ∧ ∃ frx fpx, ExS K H1 F σ fp2 (mutdSs ib) (asgdS (.for pt it ib)) H' frx σ' fpx ∧ forGo (asgP pt) (evSs G ib) (im.vs.drop i) frx = some (fr', fl), ⟨_, rfl, Nat.zero_le _, fr2, fp2, .refl g2, ev⟩, ?_⟩
  rintro i m σ2 H2 ⟨rfl, hil, frx, fpx, L, eg⟩
  have hS : ∀ b o, S b → H1 b = some o → H2 b = some o := fun b o sb e => L.st.eff b o e fun i hi hb => mem_disj djs (hS2 b sb i hb) hi
  have tot : ExS K H F σ fp (mutdS (.for pt it ib)) (asgdS (.for pt it ib)) H2 frx σ2 fpx := ex0.trans (L.weak mb fun _ z => z)
  by_cases hin : i < im.vs.length
  case neg =>
    have : i = im.vs.length := by omega
    subst this
    refine .inl ⟨ex.wk.stop H2 hS, ?_⟩
    rw [List.drop_length] at eg
    have eg : some (frx, Fl.next) = some (fr', fl) := eg
    cases eg
    exact q _ _ _ tot
  obtain ⟨v, hv⟩ : ∃ v, im.vs[i]? = some v := ⟨_, List.getElem?_eq_getElem hin⟩
  rw [List.drop_eq_getElem_cons hin] at eg
  have hv' : im.vs[i] = v := by rw [List.getElem?_eq_getElem hin] at hv; exact Option.some.inj hv
  rw [hv', forGo_cons] at eg
  refine .inr ⟨ex.wk.go i H2 hS hin, fun σ' H' => ∃ frx fpx, ExS K H1 F σ fp2 (mutdSs ib) (asgdS (.for pt it ib)) H' frx σ' fpx ∧ forGo (asgP pt) (evSs G ib) (im.vs.drop (i + 1)) frx = some (fr', fl), fun σ' H' ⟨frx, fpx, L, eg⟩ => ⟨im.vs.length - (i + 1), by omega, rfl, hin, frx, fpx, L, eg⟩, fun x H3 hy => ?_⟩
  obtain ⟨ext, hr⟩ := ex.wk.yld i H2 x H3 hS hin hy
  have hB2 : B H2 (Ow F fpx) := by
    refine ex.wk.base _ _ _ _ hB (fun b o e n => L.st.eff b o e fun i _ hb => n (.inr ⟨i, hb⟩)) fun a z => ?_
    rcases z with z | ⟨j, z⟩
    · exact .inl (.inl z)
    · rcases L.st.sub j a z with z | z
      · exact .inl (.inr ⟨j, z⟩)
      · exact .inr z
  have rx := hr _ v hv hB2 fun a z => L.hf.owTracked z
  have g3 : FR K H3 F frx σ2 fpx := L.hf.same ext
  have st3 : StepD (mutdSs ib) H2 fpx H3 fpx := ⟨fun b o e _ => ext b o e, fun _ _ z => .inl z, fun b o e => ⟨o, ext b o e⟩⟩
  cases ea : asgP pt v frx with
  | none => rw [ea] at eg; cases eg
  | some fr3 =>
  rw [ea] at eg
  simp only [Option.bind_some] at eg
  cases eb : evSs G ib fr3 with
  | none => rw [eb] at eg; cases eg
  | some pr =>
  obtain ⟨fr4, fl4⟩ := pr
  rw [eb] at eg
  simp only [Option.bind_some] at eg
  refine sg v frx σ2 H3 F fpx fr3 x g3 ea rx _ fun σ4 fp4 e4 => ?_
  have L4 : ExS K H1 F σ fp2 (mutdSs ib) (asgdS (.for pt it ib)) H3 fr3 σ4 fp4 := L.trans ⟨e4.hf, st3.less e4.sub, fun j hj => (e4.keep j fun z => hj (ap j z)).2.2, e4.len⟩
  have tot4 : ExS K H F σ fp (mutdS (.for pt it ib)) (asgdS (.for pt it ib)) H3 fr3 σ4 fp4 := ex0.trans (L4.weak mb fun _ z => z)
  refine sb fr3 σ4 H3 F fp4 fr4 fl4 e4.hf eb _ ?_
  cases fl4 with
  | next => exact fun σ' H' fp' e => ⟨fr4, fp', L4.trans (e.weak (fun _ z => z) ab), eg⟩
  | cont => exact fun σ' H' fp' e => ⟨fr4, fp', L4.trans (e.weak (fun _ z => z) ab), eg⟩
  | brk =>
    cases eg
    exact fun σ' H' fp' e => q _ _ _ (tot4.trans (e.weak mb ab))
  | ret v m =>
    cases eg
    exact ⟨fun x σ' H' fp' fo e => q.1 _ _ _ _ _ (tot4.ret (e.weak mb ab rb)), fun c ns ws ev σ' H' fp' d e n1 n2 hd => q.2 c ns ws ev _ _ _ _ (tot4.trans (e.weak mb ab)) (tot4.st.old n1) n2 hd⟩
/-- a, b = e, f with plain local names -/
theorem sndS_par {i j : Nat} {st : Stmt} {a b : Expr} {ies : IEs} (h : SndL M G [a, b] ies) (hij : i ≠ j) (hp : ∀ ta, PAu M [a, b] ta → ∀ X, M.C X → PS X st (tPar i j ta)) : SndS M G st (.asgT (.tp (.cons (.nm i) (.cons (.nm j) .nil))) (.prim .tupD ies)) := by
  obtain ⟨ta, pa, s⟩ := h.pa
  refine ⟨⟨_, hp ta pa, fun fr σ H F fp fr' fl g ev De q => ?_⟩⟩
  rw [evS, evE] at ev
  cases el : evL G ies fr with
  | none => rw [el] at ev; cases ev
  | some pr =>
  obtain ⟨fr1, os⟩ := pr
  rw [el] at ev
  simp only [Option.bind_some] at ev
  cases ep : primF .tupD (os.map (·.v)) with
  | none => rw [ep] at ev; cases ev
  | some v =>
  rw [ep] at ev
  simp only [Option.bind_some] at ev
  have hv : v = .tup (os.map (·.v)) := by
    have ep : (if (os.map (·.v)).length ≤ sizeLine then some (PV.tup (os.map (·.v))) else none) = some v := ep
    split at ep <;> cases ep
    rfl
  subst hv
  cases ed : dem (primAl .tupD os) fr1 with
  | none => rw [ed] at ev; cases ev
  | some fr2 =>
  rw [ed] at ev
  simp only [Option.bind_some] at ev
  cases es : asgP (.tp (.cons (.nm i) (.cons (.nm j) .nil))) (.tup (os.map (·.v))) fr2 with
  | none => rw [es] at ev; cases ev
  | some fr3 =>
  rw [es] at ev
  cases ev
  refine s fr σ H F fp fr1 os g el _ fun xs H1 fp1 fo ex => ?_
  have rs : Rs K H1 (OwA F fp1 (primAl .tupD os)) (os.map (·.v)) xs := ex.od.rs fun r => r.r
  have g2 : FR K H1 F fr2 σ (fpWipe fp1 (primAl .tupD os)) := FR.demF (ex.hf.monoF fun a z => .inl z) ed
  have rs2 : Rs K H1 (Ow F (fpWipe fp1 (primAl .tupD os))) (os.map (·.v)) xs := rs.mono fun a z => z.imp id fun ⟨i, z⟩ => ⟨i, (fpWipe_sub z).2, (fpWipe_sub z).1⟩
  rw [asgP, asgPs_cons] at es
  cases hvs : os.map (·.v) with
  | nil => rw [hvs] at es; cases es
  | cons v1 r1 =>
  rw [hvs] at es rs2
  simp only at es
  obtain ⟨fa, e1, es⟩ := Option.bind_eq_some_iff.mp es
  rw [asgPs_cons] at es
  cases r1 with
  | nil => cases es
  | cons v2 r2 =>
  simp only at es
  obtain ⟨fb, e2, es⟩ := Option.bind_eq_some_iff.mp es
  cases r2 with
  | cons _ _ => rw [asgPs] at es; cases es; all_goals simp
  | nil =>
  rw [asgPs] at es
  cases es
  obtain ⟨x1, xr, rfl, q1, rr⟩ := rs2
  obtain ⟨x2, xr2, rfl, q2, rr2⟩ := rr
  have hr2 : xr2 = [] := rr2
  subst hr2
  rw [asgP] at e1 e2
  have p1 := g2.set0 e1 q1
  have p2 := p1.hf.set0 e2 (q2.mono p1.ow)
  refine ⟨x1, x2, rfl, ?_⟩
  have pp := (p1.weak (D' := [i, j]) fun k z => by simp at z; simp [z]).trans (p2.weak (D' := [i, j]) fun k z => by simp at z; simp [z])
  refine q _ H1 _ ⟨pp.hf, ⟨fun b u eb n => ex.st.eff b u eb fun k hk => n k (by rw [mutdS, mutd]; exact hk), fun k a ha => ex.st.sub k a (fpWipe_sub (pp.sub k a ha)).2, ex.st.there⟩, fun k hk => (pp.keep k fun z => hk (by rw [asgdS]; unfold patSl patSls patSl patSls patSl patSls; simpa using z)).2.2, pp.len⟩

end
section
variable {K : PySem.W.Frag} {M : Fam K} {G : GE} {H H' H1 H2 : Hp} {F F' : Addr → Prop} {fr fr' fr1 fr2 : Fr} {σ σ' : L2.St} {fp fp' fp1 : FP} {D D' A A' B B' : List Nat}
/-! ### statements with calls that may raise -/
theorem OR.noExn {c : Nat} {ns : List Str} {vs : List PV} {m : Nat} {al : List Nat} {t : Bool} {x : V} {fo : List Addr} (h : OR K H F fp ⟨.exn c ns vs, m, al, t⟩ x fo) : False := h.r
theorem OR.noExn' {o : Od} {c : Nat} {ns : List Str} {vs : List PV} {x : V} {fo : List Addr} (h : OR K H F fp o x fo) (e : o.v = .exn c ns vs) : False := by
  obtain ⟨v, m, al, t⟩ := o
  subst e
  exact h.noExn
theorem Ex.toS {o : Od} {x : V} {fo : List Addr} (ex : Ex K H F σ fr fp D H1 fr1 fp1 fo o x) : ExS K H F σ fp D A H1 fr1 σ fp1 := ⟨ex.hf0, ex.st, fun _ _ => rfl, rfl⟩
theorem dropX_ok {e : Expr} {ie : IE} {pos : Pos} (h : SndX M G e ie) (hs : ∀ X, M.C X → swapsWith e none pos.line X.env = pure false) : SndS M G (.Expr e pos) (.xex ie) := by
  obtain ⟨te, pe, s⟩ := h.pe
  refine ⟨⟨_, fun X hX => ps_expr (pe X hX) (hs X hX), fun fr σ H F fp fr' fl g ev De q => ?_⟩⟩
  rw [evS] at ev
  cases ee : evE G ie fr with
  | none => rw [ee] at ev; cases ev
  | some pr =>
  obtain ⟨fr1, o⟩ := pr
  rw [ee] at ev
  simp only [Option.bind_some] at ev
  have mD : mutdS (.xex ie) = mutd ie := by rw [mutdS]
  refine s fr σ H F fp fr1 o g ee _ (fun x H1 fp1 fo ex => ?_) (fun c ns ws e H1 fp1 d ex n1 n2 hd => ?_)
  · split at ev
    · rename_i c ns vs e
      exact (ex.od.noExn' e).elim
    · cases ev
      exact q _ _ _ (by rw [mD]; exact ex.toS)
  · rw [e] at ev
    cases ev
    exact q.2 c ns ws rfl _ _ _ d (by rw [mD]; exact ex.toS) n1 n2 hd
theorem satS_xasg {ie : IE} {i : Nat} {te : TE} {xw : XW} (s : SatX K xw (evE G ie) (mutd ie) te) : SatS K xw (evS G (.xasg i ie)) (mutdS (.xasg i ie)) (asgdS (.xasg i ie)) (retdS (.xasg i ie)) (tAsg te (gName i)) := by
  intro fr σ H F fp fr' fl g ev De q
  rw [evS] at ev
  cases ee : evE G ie fr with
  | none => rw [ee] at ev; cases ev
  | some pr =>
  obtain ⟨fr1, o⟩ := pr
  rw [ee] at ev
  simp only [Option.bind_some] at ev
  have mD : mutdS (.xasg i ie) = mutd ie := by rw [mutdS]
  refine s fr σ H F fp fr1 o g ee _ (fun x H1 fp1 fo ex => ?_) (fun c ns ws e H1 fp1 d ex n1 n2 hd => ?_)
  · split at ev
    · rename_i c ns vs e
      exact (ex.od.noExn' e).elim
    · cases ed : dem o.al fr1 with
      | none => rw [ed] at ev; cases ev
      | some fr2 =>
      rw [ed] at ev
      simp only [Option.bind_some] at ev
      cases es : setS i o.m o.v fr2 with
      | none => rw [es] at ev; cases ev
      | some fr3 =>
      rw [es] at ev
      cases ev
      exact q _ _ _ ((ex.asg (De := []) ed es).weak (fun j z => by rw [mD]; exact z) (fun j z => by rw [asgdS]; exact z))
  · rw [e] at ev
    cases ev
    exact q.2 c ns ws rfl _ _ _ d (by rw [mD]; exact ex.toS) n1 n2 hd
theorem asgX_ok {e : Expr} {ie : IE} {i : Nat} {x : Str} {p pos : Pos} (h : SndX M G e ie) (hp : ∀ te, PEu M e te → ∀ X, M.C X → PS X (.Assign [.Name x p] e pos) (tAsg te (gName i))) : SndS M G (.Assign [.Name x p] e pos) (.xasg i ie) := by
  obtain ⟨te, pe, s⟩ := h.pe
  exact ⟨⟨_, hp te pe, satS_xasg s⟩⟩
theorem retX_ok {e : Expr} {ie : IE} {pos : Pos} (h : SndX M G e ie) : SndS M G (.Return (some e) pos) (.xret ie) := by
  obtain ⟨te, pe, s⟩ := h.pe
  refine ⟨⟨_, fun X hX => ps_ret (pe X hX), fun fr σ H F fp fr' fl g ev De q => ?_⟩⟩
  rw [evS] at ev
  cases ee : evE G ie fr with
  | none => rw [ee] at ev; cases ev
  | some pr =>
  obtain ⟨fr1, o⟩ := pr
  rw [ee] at ev
  simp only [Option.bind_some] at ev
  have mD : mutdS (.xret ie) = mutd ie := by rw [mutdS]
  refine s fr σ H F fp fr1 o g ee _ (fun x H1 fp1 fo ex => ?_) (fun c ns ws e H1 fp1 d ex n1 n2 hd => ?_)
  · split at ev
    · rename_i c ns vs e
      exact (ex.od.noExn' e).elim
    · cases ed : dem o.al fr1 with
      | none => rw [ed] at ev; cases ev
      | some fr2 =>
      rw [ed] at ev
      cases ev
      exact q.1 x σ H1 _ fo ⟨ex.hf.demF ed, (ex.st.mono fun j hj => by rw [mD]; exact hj).less wipe_less, fun _ _ => rfl, rfl, fun b hb => .inl (ex.nw b hb), ex.od.dem⟩
  · rw [e] at ev
    cases ev
    exact q.2 c ns ws rfl _ _ _ d (by rw [mD]; exact ex.toS) n1 n2 hd
/-- if f(..) is not None: b -/
theorem nnX_ok {e : Expr} {ie : IE} {b : List Stmt} {ib : ISs} {j : Nat} {p p2 pos : Pos} (h : SndX M G e ie) (hb : SndSs M G b ib) : SndS M G (.If (.Compare e [.IsNot] [.Constant .none j p] p2) b [] pos) (.xnn ie ib) := by
  obtain ⟨te, pe, s⟩ := h.pe
  obtain ⟨tb, pb, sb⟩ := hb.ps
  refine ⟨⟨_, fun X hX => ps_if (pt_notNU pe X hX) (pb X hX) pss_nil, fun fr σ H F fp fr' fl g ev De q => ?_⟩⟩
  rw [evS] at ev
  cases ee : evE G ie fr with
  | none => rw [ee] at ev; cases ev
  | some pr =>
  obtain ⟨fr1, o⟩ := pr
  rw [ee] at ev
  simp only [Option.bind_some] at ev
  have m1 : ∀ k ∈ mutd ie, k ∈ mutdS (.xnn ie ib) := fun k z => by rw [mutdS]; exact List.mem_append_left _ z
  have go : ∀ {H1 fp1 fo o' fr1 x}, Ex K H F σ fr fp (mutd ie) H1 fr1 fp1 fo o' x → ExS K H F σ fp (mutdS (.xnn ie ib)) (asgdS (.xnn ie ib)) H1 fr1 σ fp1 := fun {H1 fp1 fo o' fr1 x} ex => ⟨ex.hf0, ex.st.mono m1, fun _ _ => rfl, rfl⟩
  refine s fr σ H F fp fr1 o g ee _ (fun x H1 fp1 fo ex => ?_) (fun c ns ws e H1 fp1 d ex n1 n2 hd => ?_)
  · have hx : decide (x = .non) = isNon o.v := by
      obtain ⟨v, m, al, t⟩ := o
      exact R.non_iff (.of ex.od.r)
    refine ⟨!decide (x = .non), rfl, ?_⟩
    rw [hx]
    split at ev
    · rename_i c ns vs e
      exact (ex.od.noExn' e).elim
    · cases hv : isNon o.v with
      | true =>
        rw [if_pos hv] at ev
        cases ev
        rw [if_neg (by decide)]
        exact q _ _ _ (go ex)
      | false =>
        rw [if_neg (by rw [hv]; decide)] at ev
        rw [if_pos (by decide)]
        exact sb fr1 σ H1 F fp1 fr' fl ex.hf0 ev De ((q.later (go ex)).weak (fun i z => by rw [mutdS]; exact List.mem_append_right _ z) (fun i z => by rw [asgdS]; exact z) (fun i z => by rw [retdS]; exact z))
  · rw [e] at ev
    cases ev
    exact q.2 c ns ws rfl _ _ _ d (go ex) n1 n2 hd
/-! ### try -/
theorem takes0N {X : Cx} : L2N.Takes X (fun _ _ _ _ => False) := fun _ _ x => by
  obtain ⟨_, _, _, _, _, _, _, _, _, _, _, _, _, _, _, _, z⟩ := x
  exact z.elim
theorem ExS.unset {i : Nat} (h : ExS K H F σ fp D A H1 fr1 σ' fp1) (hi : i ∈ A) : ExS K H F σ fp D A H1 (fr1.set i none) (σ'.set i none) (fpWipe fp1 [i]) :=
  ⟨h.hf.wipe [i] fun a z => .inl z, h.st.less wipe_less, fun j hj => (List.getElem?_set_ne (fun z => hj (by rw [← z]; exact hi))).trans (h.keep j hj), by rw [List.length_set]; exact h.len⟩
theorem ExR.unset {i : Nat} {fo : List Addr} {v : PV} {m : Nat} {x : V} (h : ExR K H F σ fp D A B H1 fr1 σ' fp1 fo v m x) (hi : i ∈ A) : ExR K H F σ fp D A B H1 (fr1.set i none) (σ'.set i none) (fpWipe fp1 [i]) fo v m x :=
  ⟨h.hf.wipe [i] fun a z => .inl z, h.st.less wipe_less, fun j hj => (List.getElem?_set_ne (fun z => hj (by rw [← z]; exact hi))).trans (h.keep j hj), by rw [List.length_set]; exact h.len, h.nw, ⟨h.od.rep.mono fun a z => by
    rcases z with z | ⟨j, z, n⟩
    · exact .inl z
    · exact .inr ⟨j, (fpWipe_sub z).2, n⟩, h.od.nd, fun b hb z => h.od.ap b hb (z.imp id fun ⟨j, z⟩ => ⟨j, (fpWipe_sub z).2⟩), fun z => nomatch z⟩⟩
theorem try_ok {body : List Stmt} {b0 : Stmt} {suite : List Stmt} {x nm : Str} {cV : Value} {i n : Nat} {l : List Nat} {o : Bool} {b h : ISs} {np pos pos' : Pos}
    (hs : ∀ X, M.C X → X.stack = X.env :: X.outer ∧ X.env.frame = some X.env.locals) (hn : ∀ X, M.C X → X.N.Nodup ∧ X.N[i]? = some nm ∧ X.env.kindOf nm = some .local) (hc : ∀ X, M.C X → Names X x cV)
    (hem : ∀ X, M.C X → ∀ c, c < n → PySem.W.exmOne X.K (.ref (M.xw.ca c)) cV = some (l.contains c)) (tk : o = true → ∀ X, M.C X → L2N.Takes X M.xw.W)
    (Mb : WX → Fam K) (hMb : ∀ W, (Mb W).xw = ⟨M.xw.ca, W⟩) (hbX : ∀ X, M.C X → ∀ W pn xe, L2N.Takes (X.tr pn xe) W → PassesOwn (model X.prog X.w) X.A X.env xe → (Mb W).C (X.tr pn xe)) (hb : ∀ W, SndSs (Mb W) G body b)
    (Ms : Addr → Addr → Nat → List Str → List PV → Fam K) (hMs : ∀ a d c ns vs, (Ms a d c ns vs).xw.W = fun _ _ _ _ => True)
    (hsX : ∀ X, M.C X → ∀ a oe d c ns vs pn, c < n → L2N.Zn (.ref (M.xw.ca c)) (some d) oe → (∃ vs, oe.data = .fields vs) → (Ms a d c ns vs).C (X.suite a ((a, oe) :: pn)))
    (hh : ∀ a d c ns vs, SndSs (Ms a d c ns vs) ⟨G.g, some ⟨i, a, d, c, ns, vs⟩⟩ (b0 :: suite) h) :
    SndS M G (.Try body [.ExceptHandler (some (.Name x np)) (some nm) (b0 :: suite) pos'] [] [] pos) (.tryx i n l o b h) := by
  obtain ⟨tb, htb⟩ : ∃ tb : WX → TS, ∀ W, (∀ X, (Mb W).C X → PSs X body (tb W)) ∧ SatS K (Mb W).xw (evSs G b) (mutdSs b) (asgdSs b) (retdSs b) (tb W) := ⟨fun W => Classical.choose (hb W).ps, fun W => Classical.choose_spec (hb W).ps⟩
  obtain ⟨th, hth⟩ : ∃ th : Addr → Addr → Nat → List Str → List PV → TS, ∀ a d c ns vs, (∀ X, (Ms a d c ns vs).C X → PSs X (b0 :: suite) (th a d c ns vs)) ∧ SatS K (Ms a d c ns vs).xw (evSs ⟨G.g, some ⟨i, a, d, c, ns, vs⟩⟩ h) (mutdSs h) (asgdSs h) (retdSs h) (th a d c ns vs) :=
    ⟨fun a d c ns vs => Classical.choose (hh a d c ns vs).ps, fun a d c ns vs => Classical.choose_spec (hh a d c ns vs).ps⟩
  let Wo : WX := if o = true then M.xw.W else fun _ _ _ _ => False
  let W' : Ends → WX := fun D cls d σ H => ∃ c ns vs d', cls = .ref (M.xw.ca c) ∧ d = some d' ∧ c < n ∧
    (l.contains c = true → ∀ a, H a = none → th a d' c ns vs { nx := fun σ' H' => D.nx (σ'.set i none) H', rt := D.rt, bk := fun σ' H' => D.bk (σ'.set i none) H', ct := fun σ' H' => D.ct (σ'.set i none) H' } (σ.set i (some (.ref a))) H) ∧
    (l.contains c = false → Wo cls d σ H)
  refine ⟨⟨fun D σ H => tb (W' D) D σ H, fun X hX => ?_, ?_⟩⟩
  · have r := L2N.ps_try_as (pos := pos) (pos' := pos') (np := np) (b₀ := b0) (suite := suite) (body := body) (tb := fun W D σ H => ∃ W2 : WX, (∀ cls d σ H, W2 cls d σ H → W cls d σ H) ∧ tb W2 D σ H) (ts := fun a cls d D σ H => ∃ c ns vs d', cls = .ref (M.xw.ca c) ∧ d = some d' ∧ c < n ∧ th a d' c ns vs D σ H) (Wout := Wo) (hs X hX).1 (hs X hX).2 (hn X hX).1 (hn X hX).2.1 (hn X hX).2.2 (hc X hX)
      (by
        show L2N.Takes X (if o = true then M.xw.W else fun _ _ _ _ => False)
        by_cases ho : o = true
        · rw [if_pos ho]; exact tk ho X hX
        · rw [if_neg ho]; exact takes0N)
      (fun W pn xe tk po => ⟨fun pins s σ H D I h => by
        obtain ⟨W2, imp, h⟩ := h
        exact ((htb W2).1 _ (hbX X hX W2 pn xe (tk.imp imp) po)).run pins s σ H D I h⟩)
      (fun a oe cls d pn hz hf => ⟨fun pins s σ H D I h => by
        obtain ⟨c, ns, vs, d', rfl, rfl, hc, h⟩ := h
        exact ((hth a d' c ns vs).1 _ (hsX X hX a oe d' c ns vs pn hc hz hf)).run pins s σ H D I h⟩)
    refine ⟨fun pins s σ H D I h => r.run pins s σ H D I ⟨W' D, fun cls d σ H w => ?_, h⟩⟩
    obtain ⟨c, ns, vs, d', rfl, rfl, hcn, h1, h2⟩ := w
    exact ⟨_, hem X hX c hcn, fun hl a ha => ⟨c, ns, vs, d', rfl, rfl, hcn, h1 hl a ha⟩, h2⟩
  · intro fr σ H F fp fr' fl g ev De q
    rw [evS] at ev
    cases eb : evSs G b fr with
    | none => rw [eb] at ev; cases ev
    | some pr =>
    obtain ⟨fr1, fl1⟩ := pr
    rw [eb] at ev
    simp only [Option.bind_some] at ev
    have mb : ∀ j ∈ mutdSs b, j ∈ mutdS (.tryx i n l o b h) := fun j z => by rw [mutdS]; exact List.mem_append_left _ z
    have mh : ∀ j ∈ mutdSs h, j ∈ mutdS (.tryx i n l o b h) := fun j z => by rw [mutdS]; exact List.mem_append_right _ z
    have ab : ∀ j ∈ asgdSs b, j ∈ asgdS (.tryx i n l o b h) := fun j z => by rw [asgdS]; exact List.mem_append_left _ z
    have ah : ∀ j ∈ asgdSs h, j ∈ asgdS (.tryx i n l o b h) := fun j z => by rw [asgdS]; exact List.mem_append_right _ (List.mem_cons_of_mem _ z)
    have ai : i ∈ asgdS (.tryx i n l o b h) := by rw [asgdS]; exact List.mem_append_right _ List.mem_cons_self
    have rb : ∀ j ∈ retdSs b, j ∈ retdS (.tryx i n l o b h) := fun j z => by rw [retdS]; exact List.mem_append_left _ z
    have rh : ∀ j ∈ retdSs h, j ∈ retdS (.tryx i n l o b h) := fun j z => by rw [retdS]; exact List.mem_append_right _ z
    have sb := (htb (W' De)).2
    rw [hMb] at sb
    refine sb fr σ H F fp fr1 fl1 g eb De ?_
    cases fl1 with
    | next =>
      cases ev
      exact fun σ1 H1 fp1 ex => q _ _ _ (ex.weak mb ab)
    | brk =>
      cases ev
      exact fun σ1 H1 fp1 ex => q _ _ _ (ex.weak mb ab)
    | cont =>
      cases ev
      exact fun σ1 H1 fp1 ex => q _ _ _ (ex.weak mb ab)
    | ret v m =>
      by_cases hv : ∃ c ns vs, v = .exn c ns vs
      rotate_left
      · have ev2 : some (fr1, Fl.ret v m) = some (fr', fl) := by
          cases v <;> first | exact ev | exact absurd ⟨_, _, _, rfl⟩ hv
        cases ev2
        exact ⟨fun x σ1 H1 fp1 fo ex => q.1 _ _ _ _ _ (ex.weak mb ab rb), fun c ns ws e => absurd ⟨c, ns, ws, e⟩ hv⟩
      obtain ⟨c, ns, vs, rfl⟩ := hv
      refine ⟨fun x σ1 H1 fp1 fo ex => (ex.od.noExn).elim, fun c' ns' ws e σ1 H1 fp1 d ex n1 n2 hd => ?_⟩
      cases e
      simp only at ev
      split at ev
      rotate_left
      · cases ev
      rename_i hcn
      obtain ⟨hcn, hfree⟩ := hcn
      have ex1 := ex.weak mb ab
      refine ⟨c, ns, vs, d, rfl, rfl, hcn, fun hl a ha => ?_, fun hl => ?_⟩
      · rw [if_pos hl] at ev
        obtain ⟨frh, eh, rfl⟩ := tryR_ok ev a d
        have hset : setS i 0 (.exr a d c ns vs) fr1 = some (fr1.set i (some ⟨0, false, .exr a d c ns vs⟩)) := by
          unfold slFree at hfree
          unfold setS
          split at hfree
          · rename_i e; rw [e]
          · cases hfree
        have g2 := ex.hf.set0 (x := .ref a) hset (show R K H1 (Ow F fp1) (.exr a d c ns vs) (.ref a) from ⟨rfl, hd, n2⟩)
        refine (hth a d c ns vs).2 _ (σ1.set i (some (.ref a))) H1 F (fpSet fp1 i []) frh fl g2.hf eh _ ?_
        have ex2 : ExS K H F σ fp (mutdS (.tryx i n l o b h)) (asgdS (.tryx i n l o b h)) H1 (fr1.set i (some ⟨0, false, .exr a d c ns vs⟩)) (σ1.set i (some (.ref a))) (fpSet fp1 i []) :=
          ⟨g2.hf, ex1.st.less g2.sub, fun j hj => (List.getElem?_set_ne (fun z => hj (by rw [← z]; exact ai))).trans (ex1.keep j hj), by rw [List.length_set]; exact ex1.len⟩
        cases fl with
        | next => exact fun σ2 H2 fp2 e2 => q _ _ _ ((ex2.trans (e2.weak mh ah)).unset ai)
        | brk => exact fun σ2 H2 fp2 e2 => q _ _ _ ((ex2.trans (e2.weak mh ah)).unset ai)
        | cont => exact fun σ2 H2 fp2 e2 => q _ _ _ ((ex2.trans (e2.weak mh ah)).unset ai)
        | ret v m =>
          refine ⟨fun x σ2 H2 fp2 fo e2 => q.1 _ _ _ _ _ ((ex2.ret (e2.weak mh ah rh)).unset ai), fun c' ns' ws' _ σ2 H2 fp2 d' _ _ _ _ => ?_⟩
          rw [hMs]; trivial
      · rw [if_neg (by rw [hl]; decide)] at ev
        show (if o = true then M.xw.W else fun _ _ _ _ => False) _ _ _ _
        by_cases ho : o = true
        · rw [if_pos ho] at ev ⊢
          cases ev
          exact q.2 c ns vs rfl _ _ _ d ex1 n1 n2 hd
        · rw [if_neg ho] at ev; cases ev

/-! ### raise -/
/-- what a class's __init__ promises: the fields are stored, the last one first -/
def spIni (C : Addr) (ns : List Str) : Sp := fun vs H Q _ => ∃ (a : Addr) (us : List V), vs = .ref a :: us ∧ us.length = ns.length ∧ H a = some (exo a C none) ∧
  ∀ d H', H d = none → d ≠ a → H' a = some (exo a C (some d)) → H' d = some (exd d (ns.zip us.reverse)) → (∀ b, b ≠ a → b ≠ d → H' b = H b) → Q .non H'
theorem makeN {X : Cx} {x : Str} {C fI : Addr} {lv : Nat} {fd : FuncData} {ps : List Str} {sp : Sp} {e : Expr} {es : List Expr} {ta : TA} {p pos : Pos} (T : OexC X.K C) (i1 : PySem.W.findIn X.K (.ref C) "__init__" = some (some (.ref fI))) (i2 : PySem.W.typeIn X.K (.ref fI) = some (.type "function"))
    (ok : FnOk X.prog X.w X.K X.mg X.base CX0 lv fI fd ps sp) (room : Room (lv + 1) X.A) (bd : Binds X.K fd ps []) (gl : Gl X x) (mg : X.mg x = some (.ref C)) (args : PA X (e :: es) ta) (dbg : (x == ("__debug__" : Str)) = false)
    (st1 : starEach (e :: es) X.env = (false, eval e X.env) :: starEach es X.env) (st2 : (backTo pos (starEach es X.env)).any (·.1) = false) :
    L2N.PMk X (.Call (.Name x p) (e :: es) [] pos) (tMkO C sp [] ta) := by
  intro pins s σ H Q I want
  obtain ⟨cn, cq, cN, cbs, mro, csn, csub, cab, ccol, cdd, s0, s1, s2, s3, s5, look, base⟩ := T.cls
  refine wpAny_Call_Name_kw (ld_glob I gl mg ?_ dbg)
  refine PySem.W.callWith_K (h₀ := X.base) I.ok.mod.kin T.kC (thn (args.run pos pins s σ H _ I want) fun us t1 got => ?_) st1 st2
  obtain ⟨vs, H1, J, rel, few, next⟩ := got
  refine ⟨J.kIn, ?_⟩
  show wpAny _ _ (call (.ref C) us) _ _ _
  obtain ⟨hp, gs, dr, tk, os⟩ := t1
  -- the new exception stands behind its tuple
  have free : H1 (hp.objs.size + 1) = none := J.hok.fresh (Nat.le_succ hp.objs.size)
  have old : ∀ b o, hp.get? b = some o → ((hp.push (PySem.W.kdv_tup us)).push (PySem.HandSPX.excO C hp.objs.size)).get? b = some o :=
    fun b o z => Heap.get?_push_of_some _ (Heap.get?_push_of_some _ z)
  have at_e : ((hp.push (PySem.W.kdv_tup us)).push (PySem.HandSPX.excO C hp.objs.size)).get? (hp.objs.size + 1) = some (PySem.HandSPX.excO C hp.objs.size) := by
    heap_get
  have J2 : Inv X pins σ (upd H1 (hp.objs.size + 1) (exo (hp.objs.size + 1) C none)) ⟨(hp.push (PySem.W.kdv_tup us)).push (PySem.HandSPX.excO C hp.objs.size), gs, dr, tk, os⟩ :=
    J.laid (t' := tk) (a := hp.objs.size + 1) (o := exo (hp.objs.size + 1) C none) old (Nat.le_succ hp.objs.size) (exo_ok at_e)
  have want2 := next (hp.objs.size + 1) free
  rw [List.append_nil] at want2
  have rel2 : Vals (V.ref (hp.objs.size + 1) :: vs) (Value.ref (hp.objs.size + 1) :: us) := .cons rfl rel
  have len2 : (Value.ref (hp.objs.size + 1) :: us ++ []).length = ps.length := by
    rw [List.append_nil, ← rel2.length]
    exact ok.len _ _ _ _ want2
  have few2 : us.length ≤ sizeLine := by
    have := Paired.length rel
    rw [sizeLine_eq]
    omega
  have bound := bd _ (Value.ref (hp.objs.size + 1) :: us) J2.kIn len2
  rw [List.append_nil] at bound
  have run := ok.run _ X.stack _ _ ⟨Value.ref (hp.objs.size + 1) :: us, []⟩ (Value.ref (hp.objs.size + 1) :: us) _ _ (fun _ _ _ => False) (room.make C us []) (J2.env0.make C us []) bound rel2 want2
  refine wpAny_call (PySem.HandSPX.call_own F.excBase_ValueError (fun Y => PySem.HandSPX.refsVE_contains Y mro base) (J.kIn _ _ look) (PySem.W.looks_findIn J.kIn i1) (fun self => PySem.W.bind_fn J.kIn self i2) few2 (codeAny_mono run fun r s' hq => ?_))
  match r, hq with
  | .error er, hq => exact hq.elim
  | .ok .next, hq => exact hq.elim
  | .ok .brk, hq => exact hq.elim
  | .ok .cont, hq => exact hq.elim
  | .ok (.ret u), hq =>
    obtain ⟨v, H2, eos, bare2, un2, hok2, rv, rfl, d, fs, ea, ed, hd1, last⟩ := hq
    obtain ⟨h2, g2, d2, t2, os'⟩ := s'
    obtain ⟨t0, G2, J3, kG, goneE, atE, freeE⟩ := mk_end0 (d2 := d2) (t2 := t2) J (Nat.le_succ hp.objs.size) old un2 hok2 eos bare2 ea ed hd1
    refine ⟨rv, hp.objs.size + 1, _, _, ⟨G2, g2, d2, t2, os'⟩, _, .ref C, some d, rfl, J3, kG, goneE, atE, ⟨rfl, rfl, ?_⟩, rfl, rfl, freeE, rfl, bare2, raises_own T.exC T.tyC, last⟩
    intro ws ew
    cases ew
    rfl
theorem scV_of {O : Addr → Prop} {v : PV} {x : V} (h : R K H O v x) (hs : scB v = true) : x = scV v := by
  cases v <;> first | exact h | cases hs
theorem ORs.sc : ∀ {os : List Od} {xs : List V} {fo : List Addr}, ORs K H F fp os xs fo → (os.all fun o => scB o.v) = true → xs = (os.map (·.v)).map scV
  | [], xs, _, h, _ => h.1
  | ⟨v, m, al, t⟩ :: os, xs, fo, h, hs => by
    obtain ⟨x, xs', f1, f2, rfl, ef, r, q, d⟩ := h
    rw [List.all_cons, Bool.and_eq_true] at hs
    rw [List.map_cons, List.map_cons, ← q.sc hs.2, ← scV_of r.r hs.1]
theorem raise_ok {x : Str} {c : Nat} {ns : List Str} {e : Expr} {es : List Expr} {ies : IEs} {px p2 pos : Pos} {lv : Nat} (hl : ns.length ≤ 900) (h : SndL M G (e :: es) ies) (nst : NoStaru M e) (hst : Staru M es) (hg : Glu M x) (hdb : (x == ("__debug__" : Str)) = false)
    (hc : ∀ X, M.C X → X.calm = true) (tk : ∀ X, M.C X → L2N.Takes X M.xw.W) (hr : ∀ X, M.C X → Room lv X.A)
    (hX : ∀ X, M.C X → X.mg x = some (.ref (M.xw.ca c)) ∧ OexC X.K (M.xw.ca c) ∧ ∃ fI fd ps k, PySem.W.findIn X.K (.ref (M.xw.ca c)) "__init__" = some (some (.ref fI)) ∧ PySem.W.typeIn X.K (.ref fI) = some (.type "function") ∧ FnOk X.prog X.w X.K X.mg X.base CX0 k fI fd ps (spIni (M.xw.ca c) ns) ∧ k + 1 ≤ lv ∧ Binds X.K fd ps []) :
    SndS M G (.Raise (some (.Call (.Name x px) (e :: es) [] p2)) none pos) (.rse c ns ies) := by
  obtain ⟨ta, pa, sa⟩ := h.pa
  refine ⟨⟨fun _ σ H => tMkO (M.xw.ca c) (spIni (M.xw.ca c) ns) [] ta σ H fun cls d H' => M.xw.W cls d σ H', fun X hm => ?_, fun fr σ H F fp fr' fl g ev De q => ?_⟩⟩
  · obtain ⟨mg, T, fI, fd, ps, k, i1, i2, ok, hk, bd⟩ := hX X hm
    exact L2N.ps_raise (hc X hm) (tk X hm) (makeN T i1 i2 ok ((hr X hm).mono hk) bd (hg X hm) mg (pa X hm) hdb (nst X hm es) (hst X hm p2))
  · rw [evS] at ev
    cases el : evL G ies fr with
    | none => rw [el] at ev; cases ev
    | some pr =>
    obtain ⟨fr1, os⟩ := pr
    rw [el] at ev
    simp only [Option.bind_some] at ev
    split at ev
    rotate_left
    · cases ev
    rename_i hs
    rw [Bool.and_eq_true, beq_iff_eq] at hs
    cases ev
    refine sa fr σ H F fp _ os g el _ fun xs H1 fp1 fo ex => ?_
    have exs := ex.od.sc hs.1
    have lx : xs.length = ns.length := by rw [exs, List.length_map, List.length_map, hs.2]
    refine ⟨by rw [lx]; omega, fun a ha => ?_⟩
    rw [List.append_nil]
    refine ⟨a, xs, rfl, lx, upd_same, fun d H' hd hda e1 e2 e3 => ⟨rfl, d, _, e1, e2, ?_, ?_⟩⟩
    · rw [upd_ne hda] at hd; exact hd
    · have hd1 : H1 d = none := by rw [upd_ne hda] at hd; exact hd
      have eH : upd (L2.del H' a) d (.xd (ns.zip xs.reverse)) = upd H1 d (.xd (ns.zip xs.reverse)) := by
        funext b
        by_cases hb : b = d
        · rw [hb, upd_same, upd_same]
        · rw [upd_ne hb, upd_ne hb]
          by_cases hb2 : b = a
          · rw [hb2, L2.del_same, ha]
          · rw [L2.del_ne hb2, e3 b hb2 hb, upd_ne hb2]
      rw [eH]
      refine q.2 c ns _ rfl σ _ fp1 d ⟨(ex.hf.monoF fun a z => .inl z).same (upd_eff hd1), ?_, fun _ _ => rfl, rfl⟩ (ex.st.old hd1) (fun z => ?_) ?_
      · exact (ex.st.mono fun j hj => by rw [mutdS]; exact hj).trans (.new hd1)
      · obtain ⟨o, eo⟩ := (ex.hf.monoF (F' := F) fun a z => .inl z).owTracked z
        rw [hd1] at eo; cases eo
      · rw [upd_same, exs]
        unfold xdV
        rw [List.map_reverse]
end
end VI
namespace VI
open PySem PySem.Spec PyProof.Rows L2

/-! ### the text into the small syntax -/
/-- what is known of a def's (or a block's) place: its names with their slots, its scope; the defs that it may call (place in the table, marks, whether what they give is flat), the module's constants, the builtins in use -/
structure CC where
  N : List Str
  sc : Scope
  fns : List (Str × (Nat × List Nat × Bool))
  cs : List (Str × PV)
  bt : List Str
  top : Bool
  im : List Str := []
  /-- names whose lists are stored as shared -/
  sh : List Str := []
  /-- where an exception is handled -/
  hot : Bool := false
  /-- exceptions may be let out -/
  rs : Bool := false
  /-- the defs that may raise -/
  xf : List (Str × (Nat × List Nat × Bool)) := []
  /-- the exceptions' classes: name, fields (the last one first), the classes under it -/
  xc : List (Str × List Str × List Nat) := []
  /-- the defs that may be called where an exception is handled -/
  hfs : List (Str × (Nat × List Nat × Bool)) := []
  /-- all fields -/
  xa : List Str := []
  /-- the handled exception's name -/
  ex : Option Str := none
/-- what the written part says of an exception's class -/
structure ClsI (X : Cx) (ca : Nat → Addr) (lv n : Nat) (xa : List Str) (x : Str) (ns : List Str) (l : List Nat) (C : Addr) : Prop where
  mg : X.mg x = some (.ref C)
  xf : XfC X.K C
  cl : (PySem.W.clsIn X.K C).isSome = true
  ha : PySem.W.findIn X.K (.ref C) "__class__" = some (some (.builtin "object.__class__"))
  hn : PySem.W.specialIn X.K (.builtin "object.__class__") "__get__" = some (some (.builtin "getset_descriptor.__get__"))
  ht : PySem.W.takesIn X.K (.builtin "object.__class__") = some true
  hm : PySem.W.mroIn X.K C (.type "object") = some true
  no : ∀ f ∈ xa, PySem.W.findIn X.K (.ref C) f = some none
  is_ : ∀ c, c < n → PySem.W.kitOne X.K (.ref (ca c)) (.ref C) = some (l.contains c)
  em : ∀ c, c < n → PySem.W.exmOne X.K (.ref (ca c)) (.ref C) = some (l.contains c)
  iv : PySem.W.kitOne X.K (.ref C) (.type "ValueError") = some true
  ini : ns ≠ [] → OexC X.K C ∧ ∃ fI fd ps k, PySem.W.findIn X.K (.ref C) "__init__" = some (some (.ref fI)) ∧ PySem.W.typeIn X.K (.ref fI) = some (.type "function") ∧ FnOk X.prog X.w X.K X.mg X.base CX0 k fI fd ps (spIni C ns) ∧ k + 1 ≤ lv ∧ Binds X.K fd ps []
/-- X is where G's exception is handled -/
def HotX (G : GE) (ca : Nat → Addr) (n : Nat) (N : List Str) (x : Str) (X : Cx) : Prop := ∃ h, G.ex = some h ∧ N[h.i]? = some x ∧ h.c < n ∧ ∃ (X0 : Cx) (oe : Obj) (pn : List (Addr × Obj)), X = X0.suite h.a ((h.a, oe) :: pn) ∧ Zc (.ref (ca h.c)) (some h.d) oe ∧ ∃ ws, oe.data = .fields ws
structure FamC (K : PySem.W.Frag) (G : GE) (lv : Nat) (xw : XW) (cc : CC) (X : Cx) : Prop where
  k : X.K = K
  calm : cc.hot = false → X.calm = true
  n : X.N = cc.N
  nd : cc.N.Nodup
  kd : ∀ x k, cc.sc.names.lookup x = some k → k ≠ .free → X.env.scope.names.lookup x = some k
  kf : ∀ x, cc.sc.names.lookup x = some .free → X.env.scope.names.lookup x = some .cell ∨ X.env.scope.names.lookup x = some .free
  fn : ∀ x, cc.sc.names.lookup x = some .cell → X.fn x = true
  room : cc.hot = false → Room lv X.A
  roomH : L2H.RoomH lv X.A
  hotc : cc.hot = true → L2H.HotC X
  fns : cc.hot = false → ∀ x j mu na, cc.fns.lookup x = some (j, mu, na) → FnI X G lv j x mu
  fnsH : cc.hot = true → ∀ x j mu na, cc.fns.lookup x = some (j, mu, na) → FnHI X G lv j x mu
  hfs : ∀ x j mu na, cc.hfs.lookup x = some (j, mu, na) → FnHI X G lv j x mu
  fnsX : cc.hot = false → ∀ x j mu na, cc.xf.lookup x = some (j, mu, na) → FnXI X G xw.ca lv j x mu
  xc : ∀ c x ns l, cc.xc[c]? = some (x, ns, l) → ClsI X xw.ca lv cc.xc.length cc.xa x ns l (xw.ca c)
  hx : ∀ x, cc.ex = some x → HotX G xw.ca cc.xc.length cc.N x X
  tk : cc.rs = true → L2N.Takes X xw.W
  st : cc.top = true → X.stack = X.env :: X.outer ∧ X.env.frame = some X.env.locals
  cs : ∀ x v, cc.cs.lookup x = some v → ∃ u y, X.mg x = some u ∧ RelV y u ∧ ∀ H O, R K H O v y
  bt : ∀ x ∈ cc.bt, X.mg x = none
  im : ∀ x ∈ cc.im, X.mg x = some (.builtin "math.gcd")
  kind : X.env.scope.kind = .function
  po : cc.top = true → PassesOwn (model X.prog X.w) X.A X.env X.xe
abbrev fam (K : PySem.W.Frag) (G : GE) (lv : Nat) (xw : XW) (cc : CC) : Fam K := ⟨FamC K G lv xw cc, fun _ h => h.k, xw⟩

def ixOf (x : Str) : List Str → Nat → Option Nat
  | [], _ => none
  | y :: ys, i => if decide (y = x) = true then some i else ixOf x ys (i + 1)
theorem ixOf_ok {x : Str} : ∀ {l : List Str} {i j : Nat}, ixOf x l i = some j → i ≤ j ∧ l[j - i]? = some x
  | [], i, j, h => nomatch h
  | y :: ys, i, j, h => by
    unfold ixOf at h
    split at h
    · rename_i e
      cases h
      have e := of_decide_eq_true e
      subst e
      rw [Nat.sub_self]
      exact ⟨Nat.le_refl _, rfl⟩
    · obtain ⟨h1, h2⟩ := ixOf_ok h
      refine ⟨by omega, ?_⟩
      rw [show j - i = (j - (i + 1)) + 1 by omega]
      exact h2
theorem ixOf0 {x : Str} {l : List Str} {j : Nat} (h : ixOf x l 0 = some j) : l[j]? = some x := (ixOf_ok h).2
def okName (x : Str) : Bool := !(x == ("__debug__" : Str)) && !(x == ("__classdict__" : Str)) && !decide (x = ("__name__" : Str))
def kindC (cc : CC) (x : Str) : Option NameKind := cc.sc.names.lookup x
def isVisK : Option NameKind → Bool
  | some .local => true | some .cell => true | some .free => true | _ => false
def isLocK : Option NameKind → Bool
  | some .local => true | some .cell => true | _ => false
def isGlK : Option NameKind → Bool
  | some .globalImplicit => true | _ => false
def slotOf (cc : CC) (x : Str) : Option Nat := if (isVisK (kindC cc x) && okName x) = true then ixOf x cc.N 0 else none
def tgtOf (cc : CC) (x : Str) : Option Nat := if (isLocK (kindC cc x) && okName x) = true then ixOf x cc.N 0 else none
def tyOfName (x : Str) : Option String := if decide (x = ("int" : Str)) = true then some "int" else if decide (x = ("bool" : Str)) = true then some "bool" else if decide (x = ("str" : Str)) = true then some "str" else if decide (x = ("tuple" : Str)) = true then some "tuple" else if decide (x = ("list" : Str)) = true then some "list" else none
def useB (cc : CC) (x : Str) : Bool := isGlK (kindC cc x) && (okName x && decide (x ∈ cc.bt))

section
variable {K : PySem.W.Frag} {G : GE} {lv : Nat} {xw : XW} {cc : CC}
theorem okName_ok {x : Str} (h : okName x = true) : (x == ("__debug__" : Str)) = false ∧ (x == ("__classdict__" : Str)) = false ∧ x ≠ "__name__" := by
  unfold okName at h
  simp only [Bool.and_eq_true, Bool.not_eq_true', decide_eq_false_iff_not] at h
  exact ⟨h.1.1, h.1.2, h.2⟩
theorem FamC.vis {X : Cx} (F : FamC K G lv xw cc X) {x : Str} (h : isVisK (kindC cc x) = true) : Vis X.env.scope x := by
  unfold kindC at h
  unfold isVisK at h
  split at h
  · rename_i e; exact .inl (F.kd x _ e (by decide))
  · rename_i e; exact .inr (.inl (F.kd x _ e (by decide)))
  · rename_i e; exact .inr (F.kf x e)
  · cases h
theorem FamC.loc {X : Cx} (F : FamC K G lv xw cc X) {x : Str} (h : isLocK (kindC cc x) = true) : Loc X.env.scope x ∧ (X.fn x = true ∨ X.env.scope.names.lookup x = some .local) := by
  unfold kindC at h
  unfold isLocK at h
  split at h
  · rename_i e; exact ⟨.inl (F.kd x _ e (by decide)), .inr (F.kd x _ e (by decide))⟩
  · rename_i e; exact ⟨.inr (F.kd x _ e (by decide)), .inl (F.fn x e)⟩
  · cases h
theorem FamC.gl {X : Cx} (F : FamC K G lv xw cc X) {x : Str} (h : isGlK (kindC cc x) = true) : Gl X x := by
  unfold kindC at h
  unfold isGlK at h
  split at h
  · rename_i e; exact F.kd x _ e (by decide)
  · cases h
theorem useB_ok {x : Str} (h : useB cc x = true) : Glu (fam K G lv xw cc) x ∧ Mgu (fam K G lv xw cc) x ∧ x ≠ "__name__" ∧ (x == ("__debug__" : Str)) = false := by
  unfold useB at h
  simp only [Bool.and_eq_true, decide_eq_true_eq] at h
  obtain ⟨h1, h2, h3⟩ := h
  have o := okName_ok h2
  exact ⟨fun X F => F.gl h1, fun X F => F.bt x h3, o.2.2, o.1⟩
theorem slotOf_pe {x : Str} {i : Nat} {pos : Pos} (h : slotOf cc x = some i) : PEu (fam K G lv xw cc) (.Name x pos) (tVar i) := by
  unfold slotOf at h
  split at h
  · rename_i c
    rw [Bool.and_eq_true] at c
    have o := okName_ok c.2
    exact fun X F => pe_var (by rw [F.n]; exact ixOf0 h) (F.vis c.1) o.1 o.2.1
  · cases h
theorem tgtOf_pg {x : Str} {i : Nat} {pos : Pos} (h : tgtOf cc x = some i) : PGu (fam K G lv xw cc) (.Name x pos) (gName i) := by
  unfold tgtOf at h
  split at h
  · rename_i c
    rw [Bool.and_eq_true] at c
    exact fun X F => pg_name (by rw [F.n]; exact F.nd) (by rw [F.n]; exact ixOf0 h) (F.loc c.1).1 (F.loc c.1).2
  · cases h
theorem bind_some {α β : Type} {x : Option α} {f : α → Option β} {b : β} (h : x.bind f = some b) : ∃ a, x = some a ∧ f a = some b := by
  cases x with
  | none => cases h
  | some a => exact ⟨a, rfl, h⟩
theorem if_some {α : Type} {c : Bool} {a : Option α} {b : α} (h : (if c = true then a else none) = some b) : c = true ∧ a = some b := by
  cases c with
  | true => exact ⟨rfl, by simpa using h⟩
  | false => simp at h

/-! ### operators -/
def opPrim : Operator → Option Prim
  | .Add => some .add | .Sub => some .sub | .Mult => some .mul | .FloorDiv => some .fdiv | .Mod => some .mod | .Pow => some .pow
  | .LShift => some .shl | .RShift => some .shr | .BitAnd => some .band | _ => none
theorem opK {X : Cx} {f : Value → Value → Sem Value} {r : PySem.W.Frag → R2} (h : X.K = K) (o : OpR X f (r X.K)) : OpR X f (r K) := by subst h; exact o
theorem opPrim_ok {op : Operator} {p : Prim} (h : opPrim op = some p) : ∃ r, PSat K p (fun xs H Q => ∃ x y, xs = [x, y] ∧ r x y H Q) ∧ OpRu (fam K G lv xw cc) (binaryOp op) r := by
  cases op <;> cases h
  · exact ⟨_, sat_add, fun X F => opK (r := fun K => rAddA K) F.k op_addA⟩
  · exact ⟨_, sat_sub, fun X F => op_sub⟩
  · exact ⟨_, sat_mul, fun X F => op_mulA⟩
  · exact ⟨_, sat_mod, fun X F => op_modN⟩
  · exact ⟨_, sat_pow, fun X F => op_pow⟩
  · exact ⟨_, sat_shl, fun X F => op_shl⟩
  · exact ⟨_, sat_shr, fun X F => op_shr⟩
  · exact ⟨_, sat_band, fun X F => op_and⟩
  · exact ⟨_, sat_fdiv, fun X F => op_divA⟩
def cmpPrim : CmpOp → Option Prim
  | .Eq => some .eq | .NotEq => some .ne | .Lt => some .lt | .LtE => some .le | .Gt => some .gt | .GtE => some .ge | .In => some .isIn | .NotIn => some .notIn | .Is => some .isB | .IsNot => some .isNotB
theorem FamC.hu {X : Cx} (F : FamC K G lv xw cc X) : X.A.units + 65 < cLine := by have := F.roomH.un; omega
theorem cmpPrim_ok {op : CmpOp} {p : Prim} (h : cmpPrim op = some p) : ∃ r, PSat K p (fun xs H Q => ∃ x y, xs = [x, y] ∧ r x y H Q) ∧ OpRu (fam K G lv xw cc) (compareOp op) r := by
  cases op <;> cases h
  · exact ⟨_, sat_eq, fun X F => opK (r := fun K => rEqD K) F.k (op_eqD (by have := F.hu; omega))⟩
  · exact ⟨_, sat_ne, fun X F => opK (r := fun K => rNeD K) F.k (op_neD (by have := F.hu; omega))⟩
  · exact ⟨_, sat_lt, fun X F => opK (r := fun K => rLtA K) F.k (op_ltA (by have := F.hu; omega))⟩
  · exact ⟨_, sat_le, fun X F => op_le.or op_le_str⟩
  · exact ⟨_, sat_gt, fun X F => op_gt.or op_gt_str⟩
  · exact ⟨_, sat_ge, fun X F => op_ge.or op_ge_str⟩
  · exact ⟨_, sat_isB, fun X F => op_isBl⟩
  · exact ⟨_, sat_isNotB, fun X F => op_notBl⟩
  · exact ⟨_, sat_in, fun X F => opK (r := fun K => rInA K false) F.k (op_inA F.hu)⟩
  · exact ⟨_, sat_notIn, fun X F => opK (r := fun K => rInA K true) F.k (op_notInA F.hu)⟩
def isCmpr : Prim → Bool
  | .eq => true | .ne => true | .lt => true | .le => true | .gt => true | .ge => true | _ => false

/-! ### builtins -/
def bPrim (x : Str) (n : Nat) : Option Prim :=
  if decide (x = ("len" : Str)) && n == 1 then some .len else if decide (x = ("abs" : Str)) && n == 1 then some .abs else if decide (x = ("int" : Str)) && n == 1 then some .int
  else if decide (x = ("max" : Str)) && n == 2 then some .max2 else if decide (x = ("min" : Str)) && n == 2 then some .min2 else if decide (x = ("sum" : Str)) && n == 1 then some .sum
  else if decide (x = ("any" : Str)) && n == 1 then some .any else if decide (x = ("all" : Str)) && n == 1 then some .all else if decide (x = ("list" : Str)) && n == 1 then some .list
  else if decide (x = ("tuple" : Str)) && n == 1 then some .tuple else if decide (x = ("isinstance" : Str)) && n == 2 then some .isinst
  else if decide (x = ("sorted" : Str)) && n == 1 then some .sorted else if decide (x = ("max" : Str)) && n == 1 then some .max1 else if decide (x = ("min" : Str)) && n == 1 then some .min1 else if decide (x = ("str" : Str)) && n == 1 then some .str1 else none
theorem callK {X : Cx} {f : Value} {r : PySem.W.Frag → List V → Hp → VK → Prop} (h : X.K = K) (o : CallR X f (r X.K)) : CallR X f (r K) := by subst h; exact o
theorem dn {x y : Str} {n m : Nat} (h : (decide (x = y) && n == m) = true) : x = y := by
  rw [Bool.and_eq_true] at h
  exact of_decide_eq_true h.1
/-- builtins that may stand where an exception is handled -/
def calmless : Prim → Bool
  | .len => true | .abs => true | .int => true | .list => true | .tuple => true | .isinst => true | .sorted => true | .str1 => true | _ => false
theorem bPrim_ok {x : Str} {n : Nat} {p : Prim} (hh : cc.hot = false ∨ calmless p = true) (h : bPrim x n = some p) : ∃ r, PSat K p r ∧ ((∃ id, CallRu (fam K G lv xw cc) (.builtin id) r ∧ bootBuiltins x = some (.builtin id)) ∨ (∃ T, CallRu (fam K G lv xw cc) (.type T) r ∧ bootBuiltins x = some (.type T))) := by
  unfold bPrim at h
  by_cases c : (decide (x = ("len" : Str)) && n == 1) = true
  · rw [if_pos c] at h; cases h; cases dn c
    exact ⟨_, sat_len, .inl ⟨_, fun X F => callK (r := fun K => rLenA K) F.k call_lenA, by decide +kernel⟩⟩
  rw [if_neg c] at h; clear c
  by_cases c : (decide (x = ("abs" : Str)) && n == 1) = true
  · rw [if_pos c] at h; cases h; cases dn c
    exact ⟨_, sat_abs, .inl ⟨_, fun X F => call_abs, by decide +kernel⟩⟩
  rw [if_neg c] at h; clear c
  by_cases c : (decide (x = ("int" : Str)) && n == 1) = true
  · rw [if_pos c] at h; cases h; cases dn c
    exact ⟨_, sat_int, .inr ⟨_, fun X F => call_int1, by decide +kernel⟩⟩
  rw [if_neg c] at h; clear c
  by_cases c : (decide (x = ("max" : Str)) && n == 2) = true
  · rw [if_pos c] at h; cases h; cases dn c
    exact ⟨_, sat_max2, .inl ⟨_, fun X F => call_max2 (F.calm (hh.resolve_right (by decide))), by decide +kernel⟩⟩
  rw [if_neg c] at h; clear c
  by_cases c : (decide (x = ("min" : Str)) && n == 2) = true
  · rw [if_pos c] at h; cases h; cases dn c
    exact ⟨_, sat_min2, .inl ⟨_, fun X F => call_min2 (F.calm (hh.resolve_right (by decide))), by decide +kernel⟩⟩
  rw [if_neg c] at h; clear c
  by_cases c : (decide (x = ("sum" : Str)) && n == 1) = true
  · rw [if_pos c] at h; cases h; cases dn c
    exact ⟨_, sat_sum, .inl ⟨_, fun X F => callK (r := fun K => rSum K) F.k (cr_sum (F.calm (hh.resolve_right (by decide)))), by decide +kernel⟩⟩
  rw [if_neg c] at h; clear c
  by_cases c : (decide (x = ("any" : Str)) && n == 1) = true
  · rw [if_pos c] at h; cases h; cases dn c
    exact ⟨_, sat_any, .inl ⟨_, fun X F => callK (r := fun K => rAny K) F.k (cr_any (F.calm (hh.resolve_right (by decide)))), by decide +kernel⟩⟩
  rw [if_neg c] at h; clear c
  by_cases c : (decide (x = ("all" : Str)) && n == 1) = true
  · rw [if_pos c] at h; cases h; cases dn c
    exact ⟨_, sat_all, .inl ⟨_, fun X F => callK (r := fun K => rAll K) F.k (cr_all (F.calm (hh.resolve_right (by decide)))), by decide +kernel⟩⟩
  rw [if_neg c] at h; clear c
  by_cases c : (decide (x = ("list" : Str)) && n == 1) = true
  · rw [if_pos c] at h; cases h; cases dn c
    exact ⟨_, sat_list, .inr ⟨_, fun X F => callK (r := fun K => fun xs H Q => ∃ p ys, xs = [.ref p] ∧ (SqL K H p ys ∨ SqT K H p ys) ∧ ∀ l, H l = none → Q (.ref l) (upd H l (.lst ys))) F.k call_list_of, by decide +kernel⟩⟩
  rw [if_neg c] at h; clear c
  by_cases c : (decide (x = ("tuple" : Str)) && n == 1) = true
  · rw [if_pos c] at h; cases h; cases dn c
    exact ⟨_, sat_tuple, .inr ⟨_, fun X F => callK (r := fun K => fun xs H Q => ∃ p ys, xs = [.ref p] ∧ ((SqL K H p ys ∧ ∀ l, H l = none → Q (.ref l) (upd H l (.tup ys))) ∨ (SqT K H p ys ∧ Q (.ref p) H))) F.k call_tuple_of, by decide +kernel⟩⟩
  rw [if_neg c] at h; clear c
  by_cases c : (decide (x = ("isinstance" : Str)) && n == 2) = true
  · rw [if_pos c] at h; cases h; cases dn c
    exact ⟨_, sat_isinst, .inl ⟨_, fun X F => callK (r := fun K => rIsi K) F.k call_isi, by decide +kernel⟩⟩
  rw [if_neg c] at h; clear c
  by_cases c : (decide (x = ("sorted" : Str)) && n == 1) = true
  · rw [if_pos c] at h; cases h; cases dn c
    exact ⟨_, sat_sorted, .inl ⟨_, fun X F => callK (r := fun K => rSortedA K) F.k (cr_sortedI.or cr_sortedS), by decide +kernel⟩⟩
  rw [if_neg c] at h; clear c
  by_cases c : (decide (x = ("max" : Str)) && n == 1) = true
  · rw [if_pos c] at h; cases h; cases dn c
    exact ⟨_, sat_max1, .inl ⟨_, fun X F => callK (r := fun K => rMax K) F.k (cr_max (F.calm (hh.resolve_right (by decide)))), by decide +kernel⟩⟩
  rw [if_neg c] at h; clear c
  by_cases c : (decide (x = ("min" : Str)) && n == 1) = true
  · rw [if_pos c] at h; cases h; cases dn c
    exact ⟨_, sat_min1, .inl ⟨_, fun X F => callK (r := fun K => rMin K) F.k (cr_min (F.calm (hh.resolve_right (by decide)))), by decide +kernel⟩⟩
  rw [if_neg c] at h; clear c
  by_cases c : (decide (x = ("str" : Str)) && n == 1) = true
  · rw [if_pos c] at h; cases h; cases dn c
    exact ⟨_, sat_str1, .inr ⟨_, fun X F => call_str_int, by decide +kernel⟩⟩
  rw [if_neg c] at h
  cases h
end
end VI
namespace VI
open PySem PySem.Spec PyProof.Rows L2

def noStar : Expr → Bool
  | .Starred _ _ => false
  | _ => true
def noSet : Expr → Bool
  | .Set _ _ _ => false
  | _ => true
def noSlice : Expr → Bool
  | .Slice _ _ _ _ => false
  | _ => true
theorem ns_ok {e : Expr} (h : noStar e = true) (es : List Expr) (env : Env) : starEach (e :: es) env = (false, eval e env) :: starEach es env := by
  cases e <;> first | rfl | cases h
theorem tg_ok {e : Expr} (h : noStar e = true) (es : List Expr) (env : Env) : assignEach (e :: es) env = (false, assign e env) :: assignEach es env := by
  cases e <;> first | rfl | cases h
theorem nst_ok {env : Env} {pos : Pos} : ∀ {es : List Expr}, es.all noStar = true → (backTo pos (starEach es env)).any (·.1) = false
  | [], _ => rfl
  | e :: es, h => by
    rw [List.all_cons, Bool.and_eq_true] at h
    rw [ns_ok h.1]
    show ((false || ((backTo pos (starEach es env)).any (·.1))) = false)
    rw [nst_ok h.2]
    rfl
theorem fs_ok {e : Expr} (h : noSet e = true) (env : Env) (x : Value) : foldedSetIterable e env x = pure x := by
  cases e <;> first | rfl | cases h
theorem hm_ok {e : Expr} {op : CmpOp} (h : noSet e = true) : behindInMarks op e = false := by
  cases e <;> first | rfl | cases h
theorem ix_ok {e : Expr} (h : noSlice e = true) : PlainIx e := by
  cases e <;> first | (intro o i; rfl) | cases h
/-- an expression whose truth is read from its value, or whose reading as a test is known -/
def isT : Expr → Bool
  | .IfExp _ _ _ _ => false
  | _ => true

def cConst : Const → Option PV
  | .none => some .non | .bool b => some (.bl b) | .int i => some (.int i) | .str s => some (.str s) | _ => none
def cName (cc : CC) (x : Str) : Option IE := match slotOf cc x with
  | some i => some (.var i)
  | none => if (isGlK (kindC cc x) && okName x) = true then (match cc.cs.lookup x with
    | some v => some (.cst v)
    | none => if decide (x ∈ cc.bt) = true then (tyOfName x).map fun T => .cst (.ty T) else none) else none
def cArgs (f : Expr → Option IE) : List Expr → Option IEs
  | [] => some .nil
  | e :: es => (f e).bind fun i => (cArgs f es).bind fun is => if noStar e = true then some (.cons i is) else none
def cBool (f : Expr → Option IE) (op : BoolOp) : List Expr → Option IE
  | [] => none
  | [e] => if isT e = true then f e else none
  | e :: e2 :: es => (f e).bind fun a => (cBool f op (e2 :: es)).bind fun b => if isT e = true then some (match op with | .And => .and a b | .Or => .or a b) else none
def isNone : Expr → Bool
  | .Constant .none _ _ => true
  | _ => false
/-- comparisons of numbers -/
def isOrd : Prim → Bool
  | .lt => true | .le => true | .gt => true | .ge => true | _ => false
theorem isOrd_bl {p : Prim} {x y v : PV} (h : isOrd p = true) (e : primF p [x, y] = some v) : ∃ k, v = .bl k := by
  cases p <;> first | (refine absurd h ?_; simp [isOrd]; done) | skip
  all_goals
    rw [primF] at e
    first | unfold pvLt at e | unfold pvLe at e | unfold pvGt at e | unfold pvGe at e
    repeat' split at e
    all_goals first | (cases e; exact ⟨_, rfl⟩) | cases e
theorem isOrd_cmpr {p : Prim} (h : isOrd p = true) : isCmpr p = true := by
  cases p <;> first | rfl | (refine absurd h ?_; simp [isOrd]; done)
def cCmp (f : Expr → Option IE) (a : Expr) : List CmpOp → List Expr → Option IE
  | [op], [b] => if isNone b = true then (match op with
      | .Is => (f a).bind fun ia => some (.prim .isNone (.cons ia .nil))
      | .IsNot => (f a).bind fun ia => some (.prim .notNone (.cons ia .nil))
      | _ => none)
    else (f a).bind fun ia => (f b).bind fun ib => (cmpPrim op).bind fun p => if noSet b = true then some (.prim p (.cons ia (.cons ib .nil))) else none
  | [op, op'], [b, c] => (f a).bind fun ia => (f b).bind fun ib => (f c).bind fun ic => (cmpPrim op).bind fun p => (cmpPrim op').bind fun q =>
    if (noSet c && (isCmpr p && isCmpr q)) = true then some (.chain p q ia ib ic) else none
  | [op, op', op''], [b, c, d] => (f a).bind fun ia => (f b).bind fun ib => (f c).bind fun ic => (f d).bind fun id => (cmpPrim op).bind fun p => (cmpPrim op').bind fun q => (cmpPrim op'').bind fun q3 =>
    if (noSet d && (isCmpr p && (isCmpr q && (isOrd q3 && pureI ic)))) = true then some (.and (.chain p q ia ib ic) (.prim q3 (.cons ic (.cons id .nil)))) else none
  | _, _ => none
def lenEq {α β : Type} : List α → List β → Bool
  | [], [] => true
  | _ :: a, _ :: b => lenEq a b
  | _, _ => false
/-- range(..) as the only argument -/
def isRg : List Expr → Option (List Expr)
  | [.Call (.Name x _) as [] _] => if decide (x = ("range" : Str)) = true then some as else none
  | _ => none
def cLr (f : Expr → Option IE) (cc : CC) (as : List Expr) : Option IE :=
  if (useB cc "list" && (useB cc "range" && (as.all noStar && !cc.hot))) = true then (match as with
    | [a] => (f a).bind fun ia => some (.prim .range1 (.cons ia .nil))
    | [a, b] => (f a).bind fun ia => (f b).bind fun ib => some (.prim .range2 (.cons ia (.cons ib .nil)))
    | _ => none) else none
def cCall0 (f : Expr → Option IE) (cc : CC) (x : Str) (args : List Expr) : Option IE := match cc.fns.lookup x with
  | some (j, mu, na) => (cArgs f args).bind fun is => if (isGlK (kindC cc x) && (okName x && lenEq mu args) && (!cc.hot || !args.isEmpty)) = true then some (.call j mu na is) else none
  | none => match cc.xf.lookup x with
  | some (j, mu, na) => (cArgs f args).bind fun is => if (isGlK (kindC cc x) && (okName x && lenEq mu args) && (!cc.hot && !args.isEmpty)) = true then some (.callx j mu na is) else none
  | none => if decide (x ∈ cc.im) = true then (match args with
      | [a, b] => (cArgs f [a, b]).bind fun is => if (isGlK (kindC cc x) && okName x) = true then some (.prim .gcd is) else none
      | _ => none)
    else (cArgs f args).bind fun is => (bPrim x args.length).bind fun p => if (useB cc x && (!cc.hot || calmless p)) = true then some (.prim p is) else none
/-- the class y among the exceptions' classes: its place, its fields, the classes under it -/
def clsAt (y : Str) : List (Str × List Str × List Nat) → Nat → Option (Nat × List Str × List Nat)
  | [], _ => none
  | (x, ns, l) :: r, k => if decide (x = y) = true then some (k, ns, l) else clsAt y r (k + 1)
theorem clsAt_ok {y : Str} : ∀ {r : List (Str × List Str × List Nat)} {k c : Nat} {ns : List Str} {l : List Nat}, clsAt y r k = some (c, ns, l) → k ≤ c ∧ r[c - k]? = some (y, ns, l)
  | [], _, _, _, _, h => nomatch h
  | (x, ms, m) :: r, k, c, ns, l, h => by
    unfold clsAt at h
    split at h
    · rename_i e
      cases h
      rw [of_decide_eq_true e, Nat.sub_self]
      exact ⟨Nat.le_refl _, rfl⟩
    · obtain ⟨h1, h2⟩ := clsAt_ok h
      refine ⟨by omega, ?_⟩
      rw [show c - k = (c - (k + 1)) + 1 by omega]
      exact h2
/-- isinstance(e, X), e the handled exception -/
def cIsx (cc : CC) : List Expr → Option IE
  | [.Name e _, .Name y _] => if decide (cc.ex = some e) = true then (slotOf cc e).bind fun i => if (decide (y = ("ValueError" : Str)) && (useB cc "isinstance" && useB cc "ValueError")) = true then some (.isx i cc.xc.length (List.range cc.xc.length)) else (clsAt y cc.xc 0).bind fun (_, _, l) => if (useB cc "isinstance" && (isGlK (kindC cc y) && okName y)) = true then some (.isx i cc.xc.length l) else none else none
  | _ => none
/-- e.f -/
def cFld (cc : CC) (f : Str) : Expr → Option IE
  | .Name e _ => if (decide (cc.ex = some e) && decide (f ∈ cc.xa)) = true then (slotOf cc e).bind fun i => some (.fld i f) else none
  | _ => none
/-- max(a, default=b), min(a, default=b) -/
def cKw (f : Expr → Option IE) (cc : CC) (x : Str) (nm : Option Str) (a b : Expr) : Option IE := if (useB cc x && (!cc.hot && (noStar a && decide (nm = some ("default" : Str))))) = true then (f a).bind fun ia => (f b).bind fun ib =>
    if decide (x = ("max" : Str)) = true then some (.prim .max1d (.cons ia (.cons ib .nil))) else if decide (x = ("min" : Str)) = true then some (.prim .min1d (.cons ia (.cons ib .nil))) else none
  else none
/-- x.pop(), x.pop(a) -/
def cPop (f : Expr → Option IE) (cc : CC) (x m : Str) (ok : Bool) (args : List Expr) : Option IE := if (decide (m = ("pop" : Str)) && ok) = true then (slotOf cc x).bind fun i => match args with
    | [] => some (.pop0 i)
    | [a] => if noStar a = true then (f a).bind fun ia => some (.pop1 i ia) else none
    | _ => none
  else none
/-- o.index(a), o.join(a) -/
def cM1 (f : Expr → Option IE) (o : Expr) (m : Str) (ok : Bool) (args : List Expr) : Option IE := match args with
  | [a] => if (ok && noStar a) = true then (f o).bind fun io => (f a).bind fun ia =>
      if decide (m = ("index" : Str)) = true then some (.prim .index (.cons io (.cons ia .nil))) else if decide (m = ("join" : Str)) = true then some (.prim .join (.cons io (.cons ia .nil))) else none
    else none
  | _ => none
def cCall (f : Expr → Option IE) (cc : CC) (x : Str) (args : List Expr) : Option IE := if (decide (x = ("isinstance" : Str)) && (cIsx cc args).isSome) = true then cIsx cc args else if decide (x = ("list" : Str)) = true then (match isRg args with
    | some as => cLr f cc as
    | none => cCall0 f cc x args) else cCall0 f cc x args
def cSub (f : Expr → Option IE) (a : Expr) : Expr → Option IE
  | .Slice none none none _ => (f a).bind fun ia => some (.prim (.sl false false) (.cons ia .nil))
  | .Slice (some b) none none _ => (f a).bind fun ia => (f b).bind fun ib => some (.prim (.sl true false) (.cons ia (.cons ib .nil)))
  | .Slice none (some b) none _ => (f a).bind fun ia => (f b).bind fun ib => some (.prim (.sl false true) (.cons ia (.cons ib .nil)))
  | .Slice (some b) (some c) none _ => (f a).bind fun ia => (f b).bind fun ib => (f c).bind fun ic => some (.prim (.sl true true) (.cons ia (.cons ib (.cons ic .nil))))
  | .Slice none none (some (.UnaryOp .USub (.Constant (.int k) _ _) _)) _ => (f a).bind fun ia => if decide (k = 1) = true then some (.prim .slrev (.cons ia .nil)) else none
  | .Slice _ _ _ _ => none
  | b => (f a).bind fun ia => (f b).bind fun ib => some (.prim .idx (.cons ia (.cons ib .nil)))
/-- targets -/
def cTgs (f : Expr → Option Pat) : List Expr → Option Pats
  | [] => some .nil
  | e :: es => (f e).bind fun p => (cTgs f es).bind fun ps => if noStar e = true then some (.cons p ps) else none
def cTg (cc : CC) : Nat → Expr → Option Pat
  | 0, _ => none
  | n + 1, .Name x _ => (tgtOf cc x).map .nm
  | n + 1, .Tuple es _ _ => if cc.hot = true then none else (cTgs (cTg cc n) es).map .tp
  | _ + 1, _ => none
def isTupE : Expr → Bool
  | .Tuple _ _ _ => true
  | _ => false
def cIter (f : Expr → Option IE) (cc : CC) (tg : Expr) (e : Expr) : Option IT := match e with
  | .Call (.Name x _) [a] [] _ => if (decide (x = ("range" : Str)) && useB cc x && noStar a) = true then (f a).map .rng1
    else if (decide (x = ("reversed" : Str)) && useB cc x && noStar a) = true then (match isRg [a] with
      | some [b] => if (useB cc "range" && noStar b) = true then (f b).map fun ib => .rev (.prim .range1 (.cons ib .nil)) else none
      | some [b, c] => if (useB cc "range" && (noStar b && noStar c)) = true then (f b).bind fun ib => (f c).map fun ic => .rev (.prim .range2 (.cons ib (.cons ic .nil))) else none
      | _ => (f a).map .rev)
    else if (decide (x = ("enumerate" : Str)) && useB cc x && noStar a && isTupE tg) = true then (f a).map .enum
    else (f e).map .seq
  | .Call (.Name x _) [a, b] [] _ => if (decide (x = ("range" : Str)) && useB cc x && noStar a && noStar b) = true then (f a).bind fun ia => (f b).map fun ib => .rng2 ia ib
    else if (decide (x = ("zip" : Str)) && useB cc x && noStar a && noStar b && isTupE tg) = true then (f a).bind fun ia => (f b).map fun ib => .zip ia ib
    else (f e).map .seq
  | e => if noSet e = true then (f e).map .seq else none
/-- a block's own names with their slots -/
def ownOf (N : List Str) : List (Str × NameKind) → List (Str × Nat)
  | [] => []
  | (x, k) :: r => if isLocK (some k) = true then (match ixOf x N 0 with
    | some i => (x, i) :: ownOf N r
    | none => ownOf N r) else ownOf N r
/-- the slots that the items of a comprehension may reach: what a call's unchanged names hold -/
def alsA (cc : CC) : List Nat → List Expr → List Nat
  | 0 :: mu, .Name y _ :: es => (match slotOf cc y with
    | some i => i :: alsA cc mu es
    | none => alsA cc mu es)
  | _ :: mu, _ :: es => alsA cc mu es
  | _, _ => []
def alsC (cc : CC) : Expr → List Nat
  | .Call (.Name x _) args [] _ => (match cc.fns.lookup x with
    | some (_, mu, false) => alsA cc mu args
    | _ => [])
  | _ => []
/-- how many levels of the new list are new -/
def freshK : Expr → Nat
  | .ListComp elt _ _ _ => 1 + freshK elt
  | .List _ _ => 1
  | .BinOp (.List _ _) .Mult _ _ => 1
  | .BinOp _ .Mult (.List _ _) _ => 1
  | .Call (.Name x _) _ _ _ => if decide (x = ("list" : Str)) = true then 1 else 0
  | _ => 0
/-- a test -/
def cT (f : Expr → Option IE) : Nat → Expr → Option IE
  | 0, _ => none
  | n + 1, e => match e with
    | .UnaryOp .Not a _ => (cT f n a).map .not
    | .Compare _ _ _ _ => f e
    | .BoolOp _ _ _ => f e
    | .Constant _ _ _ => f e
    | .IfExp _ _ _ _ => none
    | e => (f e).map fun i => .prim .tru (.cons i .nil)
def cTests (f : Expr → Option IE) : List Expr → Option IEs
  | [] => some .nil
  | [c] => (cT f 40 c).map fun i => .cons i .nil
  | _ => none
def patIn (p : Pat) (own : List (Str × Nat)) : Bool := (patSl p).all fun i => decide (i ∈ own.map (·.2))
def cE : Nat → CC → Expr → Option IE
  | 0, _, _ => none
  | n + 1, cc, e => match e with
    | .Constant c _ _ => (cConst c).map .cst
    | .Name x _ => cName cc x
    | .BinOp a op b _ => (cE n cc a).bind fun ia => (cE n cc b).bind fun ib => (opPrim op).map fun p => .prim p (.cons ia (.cons ib .nil))
    | .UnaryOp .Not a _ => if isT a = true then (cE n cc a).map .not else none
    | .UnaryOp .USub a _ => (cE n cc a).map fun ia => .prim .neg (.cons ia .nil)
    | .BoolOp op (e1 :: e2 :: es) _ => cBool (cE n cc) op (e1 :: e2 :: es)
    | .Compare a ops bs _ => cCmp (cE n cc) a ops bs
    | .IfExp c a b _ => (cT (cE n cc) 40 c).bind fun ic => (cE n cc a).bind fun ia => (cE n cc b).bind fun ib => some (.ife ic ia ib)
    | .Call (.Name x _) args [] _ => cCall (cE n cc) cc x args
    | .Call (.Name x _) [a] [⟨nm, b, _⟩] _ => cKw (cE n cc) cc x nm a b
    | .Call (.Attribute (.Name x px) m apos) args [] cpos => if decide (m = ("pop" : Str)) = true then cPop (cE n cc) cc x m (apos.endLine == cpos.line) args else cM1 (cE n cc) (.Name x px) m (apos.endLine == cpos.line) args
    | .Call (.Attribute (.Constant c k cp) m apos) args [] cpos => cM1 (cE n cc) (.Constant c k cp) m (apos.endLine == cpos.line) args
    | .Subscript a b _ => cSub (cE n cc) a b
    | .Attribute a f _ => cFld cc f a
    | .Tuple es _ _ => (cArgs (cE n cc) es).map fun is => .prim .tupD is
    | .List es _ => (cArgs (cE n cc) es).map fun is => .prim .lstD is
    | .ListComp elt [⟨tg, iter, ifs, as⟩] scope _ => if (!decide (as = 0) || cc.hot) = true then none else (cTg { cc with sc := scope, top := false, rs := false, ex := none } n tg).bind fun pt => (cIter (cE n cc) cc tg iter).bind fun it => (cTests (cE n { cc with sc := scope, top := false, rs := false, ex := none }) ifs).bind fun ts =>
      (cE n { cc with sc := scope, top := false, rs := false, ex := none } elt).bind fun ie => if (blkC cc.N cc.sc scope (ownOf cc.N scope.names) && patIn pt (ownOf cc.N scope.names)) = true then some (.lc ((ownOf cc.N scope.names).map (·.2)) pt it ts ie (1 + freshK elt) (alsC cc elt)) else none
    | _ => none
section
variable {K : PySem.W.Frag} {G : GE} {lv : Nat} {xw : XW} {cc : CC}
abbrev SndOk (K : PySem.W.Frag) (G : GE) (lv : Nat) (xw : XW) (cc : CC) (e : Expr) (ie : IE) : Prop := Snd (fam K G lv xw cc) G e ie ∧ (isT e = true → SndT (fam K G lv xw cc) G e ie)
theorem cArgs_ok {f : Expr → Option IE} (hf : ∀ e i, f e = some i → Snd (fam K G lv xw cc) G e i) : ∀ {es : List Expr} {is : IEs}, cArgs f es = some is → SndL (fam K G lv xw cc) G es is ∧ es.all noStar = true
  | [], is, h => by cases h; exact ⟨sndL_nil, rfl⟩
  | e :: es, is, h => by
    unfold cArgs at h
    obtain ⟨i, h1, h⟩ := bind_some h
    obtain ⟨js, h2, h⟩ := bind_some h
    obtain ⟨h3, h⟩ := if_some h
    cases h
    obtain ⟨s, a⟩ := cArgs_ok hf h2
    exact ⟨sndL_cons (fun X _ es => ns_ok h3 es X.env) (hf e i h1) s, by rw [List.all_cons, h3, a]; rfl⟩
theorem cArgsM_ok {f : Expr → Option IE} (hf : ∀ e i, f e = some i → Snd (fam K G lv xw cc) G e i) : ∀ {es : List Expr} {is : IEs} {mu : List Nat}, cArgs f es = some is → lenEq mu es = true → SndM (fam K G lv xw cc) G mu es is
  | [], is, [], h, _ => by cases h; exact sndM_nil
  | [], is, _ :: _, h, l => by cases l
  | e :: es, is, [], h, l => by cases l
  | e :: es, is, m :: mu, h, l => by
    unfold cArgs at h
    obtain ⟨i, h1, h⟩ := bind_some h
    obtain ⟨js, h2, h⟩ := bind_some h
    obtain ⟨h3, h⟩ := if_some h
    cases h
    exact sndM_cons (fun X _ es => ns_ok h3 es X.env) (hf e i h1) (cArgsM_ok hf h2 l)
theorem cBool_ok {f : Expr → Option IE} {op : BoolOp} (hf : ∀ e i, f e = some i → SndOk K G lv xw cc e i) : ∀ {es : List Expr} {ie : IE}, cBool f op es = some ie → SndB (fam K G lv xw cc) G op es ie
  | [], _, h => nomatch h
  | [e], ie, h => by
    unfold cBool at h
    obtain ⟨h1, h⟩ := if_some h
    exact sndB_one (hf e ie h).1 ((hf e ie h).2 h1)
  | e :: e2 :: es, ie, h => by
    unfold cBool at h
    obtain ⟨a, h1, h⟩ := bind_some h
    obtain ⟨b, h2, h⟩ := bind_some h
    obtain ⟨h3, h⟩ := if_some h
    cases op with
    | And => cases h; exact sndB_and (hf e a h1).1 ((hf e a h1).2 h3) (cBool_ok hf h2)
    | Or => cases h; exact sndB_or (hf e a h1).1 ((hf e a h1).2 h3) (cBool_ok hf h2)
theorem cBool_nv {f : Expr → Option IE} {op : BoolOp} {e e2 : Expr} {es : List Expr} {ie : IE} (h : cBool f op (e :: e2 :: es) = some ie) : ∀ i, ie ≠ .var i := by
  unfold cBool at h
  obtain ⟨a, h1, h⟩ := bind_some h
  obtain ⟨b, h2, h⟩ := bind_some h
  obtain ⟨h3, h⟩ := if_some h
  cases op <;> cases h <;> exact fun i z => nomatch z
theorem isNone_ok {b : Expr} (h : isNone b = true) : ∃ k pos, b = .Constant .none k pos := by
  unfold isNone at h
  split at h
  · exact ⟨_, _, rfl⟩
  · cases h
theorem isCmpr_ok {p : Prim} (h : isCmpr p = true) : Cmpr p := by
  cases p <;> first | exact ⟨rfl, rfl⟩ | (exact absurd h (by simp [isCmpr]))
theorem cCmp_ok {f : Expr → Option IE} (hf : ∀ e i, f e = some i → SndOk K G lv xw cc e i) {a : Expr} {ops : List CmpOp} {bs : List Expr} {pos : Pos} {ie : IE} (h : cCmp f a ops bs = some ie) :
    Snd (fam K G lv xw cc) G (.Compare a ops bs pos) ie ∧ SndT (fam K G lv xw cc) G (.Compare a ops bs pos) ie := by
  unfold cCmp at h
  split at h
  · rename_i op b
    by_cases c : isNone b = true
    · rw [if_pos c] at h
      obtain ⟨k, p2, rfl⟩ := isNone_ok c
      split at h
      · obtain ⟨ia, h1, h⟩ := bind_some h
        cases h
        exact snd_isN (hf a ia h1).1
      · obtain ⟨ia, h1, h⟩ := bind_some h
        cases h
        exact snd_notN (hf a ia h1).1
      · cases h
    · rw [if_neg c] at h
      obtain ⟨ia, h1, h⟩ := bind_some h
      obtain ⟨ib, h2, h⟩ := bind_some h
      obtain ⟨p, h3, h⟩ := bind_some h
      obtain ⟨h4, h⟩ := if_some h
      cases h
      obtain ⟨r, sp, ro⟩ := cmpPrim_ok (K := K) (G := G) (lv := lv) (xw := xw) (cc := cc) h3
      exact snd_cmp (hf a ia h1).1 (hf b ib h2).1 sp ro (hm_ok h4)
  · rename_i op op' b c
    obtain ⟨ia, h1, h⟩ := bind_some h
    obtain ⟨ib, h2, h⟩ := bind_some h
    obtain ⟨ic, h3, h⟩ := bind_some h
    obtain ⟨p, h4, h⟩ := bind_some h
    obtain ⟨q, h5, h⟩ := bind_some h
    obtain ⟨h6, h⟩ := if_some h
    cases h
    simp only [Bool.and_eq_true] at h6
    obtain ⟨r, sp, ro⟩ := cmpPrim_ok (K := K) (G := G) (lv := lv) (xw := xw) (cc := cc) h4
    obtain ⟨r', sp', ro'⟩ := cmpPrim_ok (K := K) (G := G) (lv := lv) (xw := xw) (cc := cc) h5
    exact snd_chain (hf a ia h1).1 (hf b ib h2).1 (hf c ic h3).1 sp sp' (isCmpr_ok h6.2.1) (isCmpr_ok h6.2.2) ro ro' (hm_ok h6.1)
  · rename_i op op' op'' b c d
    obtain ⟨ia, h1, h⟩ := bind_some h
    obtain ⟨ib, h2, h⟩ := bind_some h
    obtain ⟨ic, h3, h⟩ := bind_some h
    obtain ⟨id, h3', h⟩ := bind_some h
    obtain ⟨p, h4, h⟩ := bind_some h
    obtain ⟨q, h5, h⟩ := bind_some h
    obtain ⟨q3, h5', h⟩ := bind_some h
    obtain ⟨h6, h⟩ := if_some h
    cases h
    simp only [Bool.and_eq_true] at h6
    obtain ⟨r, sp, ro⟩ := cmpPrim_ok (K := K) (G := G) (lv := lv) (xw := xw) (cc := cc) h4
    obtain ⟨r', sp', ro'⟩ := cmpPrim_ok (K := K) (G := G) (lv := lv) (xw := xw) (cc := cc) h5
    obtain ⟨r'', sp'', ro''⟩ := cmpPrim_ok (K := K) (G := G) (lv := lv) (xw := xw) (cc := cc) h5'
    exact snd_chain3 (hf a ia h1).1 (hf b ib h2).1 (hf c ic h3).1 (hf d id h3').1 sp sp' sp'' (isCmpr_ok h6.2.1) (isCmpr_ok h6.2.2.1) (isCmpr_ok (isOrd_cmpr h6.2.2.2.1)) ro ro' ro'' (hm_ok h6.1) h6.2.2.2.2 (isOrd_bl h6.2.2.2.1)
  · cases h
theorem cName_ok {x : Str} {ie : IE} {pos : Pos} (h : cName cc x = some ie) : Snd (fam K G lv xw cc) G (.Name x pos) ie := by
  unfold cName at h
  split at h
  · rename_i i e
    cases h
    exact snd_var (slotOf_pe e)
  · obtain ⟨h1, h⟩ := if_some h
    rw [Bool.and_eq_true] at h1
    have o := okName_ok h1.2
    split at h
    · rename_i v e
      cases h
      refine ⟨⟨fun σ H Q => ∀ y, (∀ H O, R K H O v y) → Q y H, fun X F => ?_, ?_⟩, fun i z => nomatch z⟩
      · obtain ⟨u, y, h1', h2', h3'⟩ := F.cs x v e
        refine ⟨fun pins s σ H Q I q => (pe_glob (F.gl h1.1) h1' h2' o.1).run pins s σ H Q I (q y fun H O => by have := F.k; exact h3' H O)⟩
      · intro fr σ H F fp fr' o g ev Q q y hy
        rw [evE] at ev
        cases ev
        refine q y H fp [] ⟨g.plusNil, fun _ _ => ⟨rfl, rfl⟩, .refl _ _ _, fun _ z => (nomatch z), ⟨by rw [RM.zero]; exact ⟨rfl, hy _ _⟩, .nil, fun _ z => (nomatch z), fun z => nomatch z⟩⟩
    · obtain ⟨h2, h⟩ := if_some h
      cases e : tyOfName x with
      | none => rw [e] at h; cases h
      | some T =>
      rw [e] at h
      cases h
      have hb : bootBuiltins x = some (.type T) := by
        unfold tyOfName at e
        by_cases c : decide (x = ("int" : Str)) = true
        · rw [if_pos c] at e; cases e; cases of_decide_eq_true c; decide +kernel
        rw [if_neg c] at e; clear c
        by_cases c : decide (x = ("bool" : Str)) = true
        · rw [if_pos c] at e; cases e; cases of_decide_eq_true c; decide +kernel
        rw [if_neg c] at e; clear c
        by_cases c : decide (x = ("str" : Str)) = true
        · rw [if_pos c] at e; cases e; cases of_decide_eq_true c; decide +kernel
        rw [if_neg c] at e; clear c
        by_cases c : decide (x = ("tuple" : Str)) = true
        · rw [if_pos c] at e; cases e; cases of_decide_eq_true c; decide +kernel
        rw [if_neg c] at e; clear c
        by_cases c : decide (x = ("list" : Str)) = true
        · rw [if_pos c] at e; cases e; cases of_decide_eq_true c; decide +kernel
        rw [if_neg c] at e
        cases e
      exact snd_cst (v := .ty T) (x := .ty T) (fun _ _ => rfl) fun X F => pe_bltn (F.gl h1.1) (F.bt x (of_decide_eq_true h2)) hb rfl o.2.2 o.1
theorem isRg_ok {es as : List Expr} (h : isRg es = some as) : ∃ p pos, es = [.Call (.Name "range" p) as [] pos] := by
  unfold isRg at h
  split at h
  · obtain ⟨e, h⟩ := if_some h
    cases h
    rw [of_decide_eq_true e]
    exact ⟨_, _, rfl⟩
  · cases h
theorem cLr_ok {f : Expr → Option IE} (hf : ∀ e i, f e = some i → Snd (fam K G lv xw cc) G e i) {as : List Expr} {px p2 pos pos2 : Pos} {ie : IE} (h : cLr f cc as = some ie) : Snd (fam K G lv xw cc) G (.Call (.Name "list" px) [.Call (.Name "range" p2) as [] pos2] [] pos) ie := by
  unfold cLr at h
  obtain ⟨c, h⟩ := if_some h
  simp only [Bool.and_eq_true] at c
  obtain ⟨hl, hl2, _⟩ := useB_ok (K := K) (G := G) (lv := lv) (xw := xw) c.1
  obtain ⟨hg, hm, _⟩ := useB_ok (K := K) (G := G) (lv := lv) (xw := xw) c.2.1
  have ca := c.2.2.1
  have nh : cc.hot = false := by simpa using c.2.2.2
  split at h
  · obtain ⟨ia, h1, h⟩ := bind_some h
    cases h
    simp only [List.all_cons, List.all_nil, Bool.and_true] at ca
    exact snd_lrange1 (hf _ _ h1) (fun X _ es => ns_ok ca es X.env) (fun X F => F.calm nh) hl hl2 hg hm
  · obtain ⟨ia, h1, h⟩ := bind_some h
    obtain ⟨ib, h2, h⟩ := bind_some h
    cases h
    simp only [List.all_cons, List.all_nil, Bool.and_true, Bool.and_eq_true] at ca
    exact snd_lrange2 (hf _ _ h1) (hf _ _ h2) (fun X _ es => ns_ok ca.1 es X.env) (fun X _ es => ns_ok ca.2 es X.env) (fun X F => F.calm nh) hl hl2 hg hm
  · cases h
/-- isinstance(e, C), e the exception that is handled -/
def rIsX (a dd C : Addr) (b : Bool) : List V → Hp → VK → Prop := fun xs H Q => ∃ (fs : List (Str × V)), xs = [.ref a, .ref C] ∧ H dd = some (.xd fs) ∧ Q (.bl b) H
theorem call_isX {X : Cx} {a D dd C : Addr} {b : Bool} {oe : Obj} {pn : List (Addr × Obj)} {ca : Nat → Addr} {n : Nat} {xa : List Str} {x : Str} {ns : List Str} {l : List Nat} (T : ClsI (X.suite a ((a, oe) :: pn)) ca lv n xa x ns l D) (hz : Zc (.ref D) (some dd) oe) (hf : ∃ vs, oe.data = .fields vs) (e : PySem.W.kitOne X.K (.ref D) (.ref C) = some b) :
    CallR (X.suite a ((a, oe) :: pn)) (.builtin "isinstance") (rIsX a dd C b) := by
  intro pins s σ H xs us Q I r h
  obtain ⟨fs, rfl, ed, q⟩ := h
  cases r with
  | cons r1 r =>
  cases r with
  | cons r2 r =>
  cases r
  cases r1
  cases r2
  obtain ⟨at_, _⟩ := I.pin (a, oe) (List.mem_append_left _ List.mem_cons_self)
  obtain ⟨vs, hv⟩ := hf
  have hx : ObjOk X.prog X.w H s.heap dd (.xd fs) := I.hok dd _ ed
  obtain ⟨mA, hns, _⟩ := hx
  obtain ⟨od, ho, _⟩ := lookIn_ns hns
  have J : PySem.W.InstAt s.heap a oe D (some od) := ⟨at_, hz.1, by unfold PySem.W.notCls; rw [hv] <;> rfl, by rw [hz.2]; exact ho⟩
  exact PySem.W.kia_one (PySem.W.kitx_exc (od := some od) (x := a) T.cl T.xf.ga T.xf.gg T.xf.exC T.ha T.hn T.ht T.hm) I.kIn J e (fun z => nomatch z) fun tk => ⟨.bl b, H, I.kept (t' := tk) fun _ _ z => z, rfl, q⟩
/-- isinstance(e, ValueError) -/
def rIsT (a dd : Addr) : List V → Hp → VK → Prop := fun xs H Q => ∃ (fs : List (Str × V)), xs = [.ref a, .ty "ValueError"] ∧ H dd = some (.xd fs) ∧ Q (.bl true) H
theorem call_isT {X : Cx} {a D dd : Addr} {oe : Obj} {pn : List (Addr × Obj)} {ca : Nat → Addr} {n : Nat} {xa : List Str} {x : Str} {ns : List Str} {l : List Nat} (T : ClsI (X.suite a ((a, oe) :: pn)) ca lv n xa x ns l D) (hz : Zc (.ref D) (some dd) oe) (hf : ∃ vs, oe.data = .fields vs) :
    CallR (X.suite a ((a, oe) :: pn)) (.builtin "isinstance") (rIsT a dd) := by
  intro pins s σ H xs us Q I r h
  obtain ⟨fs, rfl, ed, q⟩ := h
  cases r with
  | cons r1 r =>
  cases r with
  | cons r2 r =>
  cases r
  cases r1
  cases r2
  obtain ⟨at_, _⟩ := I.pin (a, oe) (List.mem_append_left _ List.mem_cons_self)
  obtain ⟨vs, hv⟩ := hf
  have hx : ObjOk X.prog X.w H s.heap dd (.xd fs) := I.hok dd _ ed
  obtain ⟨mA, hns, _⟩ := hx
  obtain ⟨od, ho, _⟩ := lookIn_ns hns
  have J : PySem.W.InstAt s.heap a oe D (some od) := ⟨at_, hz.1, by unfold PySem.W.notCls; rw [hv] <;> rfl, by rw [hz.2]; exact ho⟩
  exact PySem.W.kia_one (PySem.W.kitx_exc (od := some od) (x := a) T.cl T.xf.ga T.xf.gg T.xf.exC T.ha T.hn T.ht T.hm) I.kIn J T.iv (fun z => nomatch z) fun tk => ⟨.bl true, H, I.kept (t' := tk) fun _ _ z => z, rfl, q⟩
theorem HotX.get {X : Cx} {x : Str} (F : FamC K G lv xw cc X) (h : cc.ex = some x) : ∃ h0, G.ex = some h0 ∧ cc.N[h0.i]? = some x ∧ h0.c < cc.xc.length ∧ ∃ (X0 : Cx) (oe : Obj) (pn : List (Addr × Obj)), X = X0.suite h0.a ((h0.a, oe) :: pn) ∧ Zc (.ref (xw.ca h0.c)) (some h0.d) oe ∧ (∃ ws, oe.data = .fields ws) ∧ ∃ y ns l, ClsI X xw.ca lv cc.xc.length cc.xa y ns l (xw.ca h0.c) := by
  obtain ⟨h0, e1, e2, e3, X0, oe, pn, e4, e5, e6⟩ := F.hx x h
  obtain ⟨⟨y, ns, l⟩, e7⟩ : ∃ p, cc.xc[h0.c]? = some p := ⟨_, List.getElem?_eq_getElem e3⟩
  exact ⟨h0, e1, e2, e3, X0, oe, pn, e4, e5, e6, y, ns, l, F.xc _ _ _ _ e7⟩
theorem exAt_ok {G : GE} {fr : Fr} {i : Nat} {h : HxI} (e : exAt G fr i = some h) : ∃ h0 s, G.ex = some h0 ∧ fr[i]? = some (some s) ∧ s.v = .exr h0.a h0.d h0.c h.ns h.vs ∧ h.c = h0.c := by
  unfold exAt at e
  split at e
  · rename_i x s e1 e2
    split at e
    · rename_i a d c ns vs e3
      split at e
      · rename_i hc
        obtain ⟨c1, c2, c3, c4, c5⟩ := hc
        cases e
        exact ⟨x, s, e1, e2, by rw [e3, c2, c3, c4], c4⟩
      · cases e
    · cases e
  · cases e
theorem exAt_R {H : Hp} {F : Addr → Prop} {fr : Fr} {σ : L2.St} {fp : FP} {i : Nat} {h : HxI} (g : FR K H F fr σ fp) (e : exAt G fr i = some h) : ∃ h0, G.ex = some h0 ∧ h.c = h0.c ∧ σ[i]? = some (some (.ref h0.a)) ∧ H h0.d = some (.xd (xdV h.ns h.vs)) := by
  obtain ⟨h0, s, e1, e2, e3, e4⟩ := exAt_ok e
  obtain ⟨x, ex, r⟩ := g.slot i s e2
  have r : R K H (Ow F fp) (.exr h0.a h0.d h0.c h.ns h.vs) x := by
    obtain ⟨m, p, v⟩ := s
    have e3 : v = .exr h0.a h0.d h0.c h.ns h.vs := e3
    subst e3
    cases m with
    | zero => rw [RM.zero] at r; exact r.2
    | succ m => exact r.2
  obtain ⟨rfl, r2, r3⟩ := r
  exact ⟨h0, e1, e4, ex, r2⟩
theorem lookup_xd {f : Str} {v : PV} : ∀ {ns : List Str} {vs : List PV}, (ns.zip vs).lookup f = some v → (xdV ns vs).lookup f = some (scV v)
  | [], _, h => nomatch h
  | _ :: _, [], h => nomatch h
  | n :: ns, w :: vs, h => by
    unfold xdV
    rw [List.map_cons, List.zip_cons_cons, List.lookup_cons]
    rw [List.zip_cons_cons, List.lookup_cons] at h
    cases e : f == n with
    | true => rw [e] at h; cases h; rfl
    | false => rw [e] at h; exact lookup_xd h
theorem scR {v : PV} (h : scB v = true) (H : Hp) (O : Addr → Prop) : R K H O v (scV v) := by
  cases v <;> first | exact rfl | cases h
theorem cFld_ok {a : Expr} {f : Str} {ie : IE} {pos : Pos} (h : cFld cc f a = some ie) : Snd (fam K G lv xw cc) G (.Attribute a f pos) ie := by
  unfold cFld at h
  split at h
  rotate_left
  · cases h
  rename_i e px
  obtain ⟨hc, h⟩ := if_some h
  rw [Bool.and_eq_true, decide_eq_true_eq, decide_eq_true_eq] at hc
  obtain ⟨i, h1, h⟩ := bind_some h
  cases h
  refine ⟨⟨fun σ H Q => ∃ h0, G.ex = some h0 ∧ tXf h0.a (.ref (xw.ca h0.c)) (some h0.d) (xw.ca h0.c) f (tVar i) σ H Q, fun X F => ⟨fun pins s σ H Q I q => ?_⟩, fun fr σ H F fp fr' o g ev Q q => ?_⟩, fun i z => nomatch z⟩
  · obtain ⟨h0, e1, q⟩ := q
    obtain ⟨h0', e1', e2, _, X0, oe, pn, rfl, hz, hf, y, ns, l, T⟩ := HotX.get F hc.1
    rw [e1] at e1'
    cases e1'
    exact (pe_xf T.xf (T.no f hc.2) hz hf (slotOf_pe h1 _ F)).run pins s σ H Q I q
  · rw [evE] at ev
    cases ex : exAt G fr i with
    | none => rw [ex] at ev; cases ev
    | some h =>
    rw [ex] at ev
    simp only [Option.bind_some] at ev
    obtain ⟨h0, e1, e2, e3, e4⟩ := exAt_R g ex
    split at ev
    · rename_i v ev2
      split at ev
      · rename_i hs
        cases ev
        exact ⟨h0, e1, .ref h0.a, e3, rfl, rfl, h0.d, _, _, rfl, e4, lookup_xd ev2, q _ H fp [] ⟨g.plusNil, fun _ _ => ⟨rfl, rfl⟩, .refl _ _ _, fun _ z => (nomatch z), ⟨by rw [RM.zero]; exact ⟨rfl, scR hs _ _⟩, .nil, fun _ z => (nomatch z), fun z => nomatch z⟩⟩⟩
      · cases ev
    · cases ev
theorem cIsx_ok {args : List Expr} {px pos : Pos} {ie : IE} (h : cIsx cc args = some ie) : Snd (fam K G lv xw cc) G (.Call (.Name "isinstance" px) args [] pos) ie := by
  unfold cIsx at h
  split at h
  rotate_left
  · cases h
  rename_i e p1 y p2
  obtain ⟨hc, h⟩ := if_some h
  have hc := of_decide_eq_true hc
  obtain ⟨i, h1, h⟩ := bind_some h
  split at h
  · rename_i h3
    cases h
    rw [Bool.and_eq_true, Bool.and_eq_true] at h3
    obtain ⟨h3y, h3, h3v⟩ := h3
    cases of_decide_eq_true h3y
    obtain ⟨hg, hm, hn, hd⟩ := useB_ok (K := K) (G := G) (lv := lv) (xw := xw) h3
    obtain ⟨hg2, hm2, hn2, hd2⟩ := useB_ok (K := K) (G := G) (lv := lv) (xw := xw) h3v
    refine ⟨⟨fun σ H Q => ∃ h0, G.ex = some h0 ∧ tCB (rIsT h0.a h0.d) (tCons (tVar i) (tCons (tC (.ty "ValueError")) tNil)) σ H Q, fun X F => ⟨fun pins s σ H Q I q => ?_⟩, fun fr σ H F fp fr' o g ev Q q => ?_⟩, fun i z => nomatch z⟩
    · obtain ⟨h0, e1, q⟩ := q
      have hgX := hg X F
      have hmX := hm X F
      have pX : PE X (.Name e p1) (tVar i) := slotOf_pe h1 X F
      have py : PE X (.Name "ValueError" p2) (tC (.ty "ValueError")) := pe_bltn (hg2 X F) (hm2 X F) (by decide +kernel : bootBuiltins "ValueError" = some (.type "ValueError")) rfl hn2 hd2
      obtain ⟨h0', e1', e2, hlt, X0, oe, pn, rfl, hz, hf, y', ns', l', T⟩ := HotX.get F hc
      rw [e1] at e1'
      cases e1'
      have cr := call_isT T hz hf
      exact (pe_callB cr hgX hmX (by decide +kernel) (pa_cons pX (pa_cons py pa_nil)) hn hd).run pins s σ H Q I q
    · rw [evE] at ev
      cases ex : exAt G fr i with
      | none => rw [ex] at ev; cases ev
      | some h =>
      rw [ex] at ev
      simp only [Option.bind_some] at ev
      obtain ⟨h0, e1, e2, e3, e4⟩ := exAt_R g ex
      split at ev
      · rename_i hs
        cases ev
        refine ⟨h0, e1, .ref h0.a, e3, ⟨_, rfl, e4, ?_⟩⟩
        have q := q
        rw [show (List.range cc.xc.length).contains h.c = true by rw [List.contains_iff_mem]; exact List.mem_range.mpr hs] at q
        exact q _ H fp [] ⟨g.plusNil, fun _ _ => ⟨rfl, rfl⟩, .refl _ _ _, fun _ z => (nomatch z), ⟨by rw [RM.zero]; exact ⟨rfl, rfl⟩, .nil, fun _ z => (nomatch z), fun z => nomatch z⟩⟩
      · cases ev
  obtain ⟨⟨c, ns, l⟩, h2, h⟩ := bind_some h
  obtain ⟨h3, h⟩ := if_some h
  cases h
  rw [Bool.and_eq_true, Bool.and_eq_true] at h3
  obtain ⟨hg, hm, hn, hd⟩ := useB_ok (K := K) (G := G) (lv := lv) (xw := xw) h3.1
  have hcl := (clsAt_ok h2).2
  rw [Nat.sub_zero] at hcl
  have o := okName_ok h3.2.2
  refine ⟨⟨fun σ H Q => ∃ h0, G.ex = some h0 ∧ tCB (rIsX h0.a h0.d (xw.ca c) (l.contains h0.c)) (tCons (tVar i) (tCons (tC (.ref (xw.ca c))) tNil)) σ H Q, fun X F => ⟨fun pins s σ H Q I q => ?_⟩, fun fr σ H F fp fr' o g ev Q q => ?_⟩, fun i z => nomatch z⟩
  · obtain ⟨h0, e1, q⟩ := q
    have Ty := F.xc _ _ _ _ hcl
    have hgX := hg X F
    have hmX := hm X F
    have pX : PE X (.Name e p1) (tVar i) := slotOf_pe h1 X F
    have py : PE X (.Name y p2) (tC (.ref (xw.ca c))) := pe_glob (F.gl h3.2.1) Ty.mg rfl o.1
    have hK := F.k
    obtain ⟨h0', e1', e2, hlt, X0, oe, pn, rfl, hz, hf, y', ns', l', T⟩ := HotX.get F hc
    rw [e1] at e1'
    cases e1'
    have cr := call_isX T hz hf (Ty.is_ _ hlt)
    exact (pe_callB cr hgX hmX (by decide +kernel) (pa_cons pX (pa_cons py pa_nil)) hn hd).run pins s σ H Q I q
  · rw [evE] at ev
    cases ex : exAt G fr i with
    | none => rw [ex] at ev; cases ev
    | some h =>
    rw [ex] at ev
    simp only [Option.bind_some] at ev
    obtain ⟨h0, e1, e2, e3, e4⟩ := exAt_R g ex
    split at ev
    · rename_i hs
      cases ev
      refine ⟨h0, e1, .ref h0.a, e3, ⟨_, rfl, e4, ?_⟩⟩
      rw [← e2]
      exact q _ H fp [] ⟨g.plusNil, fun _ _ => ⟨rfl, rfl⟩, .refl _ _ _, fun _ z => (nomatch z), ⟨by rw [RM.zero]; exact ⟨rfl, rfl⟩, .nil, fun _ z => (nomatch z), fun z => nomatch z⟩⟩
    · cases ev
theorem cCall0_ok {f : Expr → Option IE} (hf : ∀ e i, f e = some i → Snd (fam K G lv xw cc) G e i) {x : Str} {args : List Expr} {px pos : Pos} {ie : IE} (h : cCall0 f cc x args = some ie) : Snd (fam K G lv xw cc) G (.Call (.Name x px) args [] pos) ie := by
  unfold cCall0 at h
  split at h
  · rename_i j mu na e
    obtain ⟨is, h1, h⟩ := bind_some h
    obtain ⟨h2, h⟩ := if_some h
    cases h
    rw [Bool.and_eq_true] at h2
    obtain ⟨h2, h2h⟩ := h2
    simp only [Bool.and_eq_true] at h2
    have o := okName_ok h2.2.1
    have hg : Glu (fam K G lv xw cc) x := fun X F => F.gl h2.1
    by_cases nh : cc.hot = true
    · cases args with
      | nil =>
        rw [nh] at h2h
        exact absurd h2h (by simp)
      | cons a as =>
        obtain ⟨_, al⟩ := cArgs_ok hf h1
        rw [List.all_cons, Bool.and_eq_true] at al
        exact snd_callH (lv := lv) (fun X F => F.fnsH nh x j mu na e) (fun X F => F.roomH) (fun X F => F.hotc nh) hg (cArgsM_ok hf h1 h2.2.2) (fun X _ es => ns_ok al.1 es X.env) (fun X _ pos => nst_ok al.2) o.1
    have nh : cc.hot = false := by simpa using nh
    have fi : FnIu (fam K G lv xw cc) G lv j x mu := fun X F => F.fns nh x j mu na e
    have hr : ∀ X, (fam K G lv xw cc).C X → Room lv X.A := fun X F => F.room nh
    cases args with
    | nil =>
      cases mu with
      | cons _ _ => exact absurd h2.2.2 (by simp [lenEq])
      | nil =>
        cases h1
        exact snd_call0 fi hr hg o.1
    | cons a as =>
      obtain ⟨_, al⟩ := cArgs_ok hf h1
      rw [List.all_cons, Bool.and_eq_true] at al
      exact snd_call fi hr hg (cArgsM_ok hf h1 h2.2.2) (fun X _ es => ns_ok al.1 es X.env) (fun X _ pos => nst_ok al.2) o.1
  · split at h
    · rename_i j mu na e
      obtain ⟨is, h1, h⟩ := bind_some h
      obtain ⟨h2, h⟩ := if_some h
      cases h
      rw [Bool.and_eq_true] at h2
      obtain ⟨h2, h2h⟩ := h2
      simp only [Bool.and_eq_true] at h2
      have o := okName_ok h2.2.1
      have hg : Glu (fam K G lv xw cc) x := fun X F => F.gl h2.1
      rw [Bool.and_eq_true] at h2h
      have nh : cc.hot = false := by simpa using h2h.1
      cases args with
      | nil => exact absurd h2h.2 (by simp)
      | cons a as =>
        obtain ⟨_, al⟩ := cArgs_ok hf h1
        rw [List.all_cons, Bool.and_eq_true] at al
        exact snd_callx (lv := lv) (fun X F => F.fnsX nh x j mu na e) (fun X F => F.room nh) hg (cArgsM_ok hf h1 h2.2.2) (fun X _ es => ns_ok al.1 es X.env) (fun X _ pos => nst_ok al.2) o.1
    split at h
    · rename_i him
      split at h
      · rename_i a b
        obtain ⟨is, h1, h⟩ := bind_some h
        obtain ⟨h2, h⟩ := if_some h
        cases h
        rw [Bool.and_eq_true] at h2
        obtain ⟨sl, al⟩ := cArgs_ok hf h1
        rw [List.all_cons, Bool.and_eq_true] at al
        obtain ⟨tl, pl, sl⟩ := sl.pa
        have o := okName_ok h2.2
        refine ⟨⟨_, fun X F => pe_callBfun cr_gcd (F.gl h2.1) (F.im x (of_decide_eq_true him)) (pl X F) o.1 (ns_ok al.1 _ X.env) (nst_ok al.2), ?_⟩, fun _ z => nomatch z⟩
        exact (Sat.callB sl sat_gcd).congr (by funext fr; rw [evE]) (by rw [mutd])
      · cases h
    obtain ⟨is, h1, h⟩ := bind_some h
    obtain ⟨p, h2, h⟩ := bind_some h
    obtain ⟨h3, h⟩ := if_some h
    cases h
    rw [Bool.and_eq_true] at h3
    obtain ⟨h3, h3h⟩ := h3
    obtain ⟨hg, hm, hn, hd⟩ := useB_ok (K := K) (G := G) (lv := lv) (xw := xw) h3
    obtain ⟨r, sp, c⟩ := bPrim_ok (K := K) (G := G) (lv := lv) (xw := xw) (cc := cc) (by simpa using h3h) h2
    cases args with
    | nil =>
      exfalso
      have e : ([] : List Expr).length = 0 := rfl
      rw [e] at h2
      unfold bPrim at h2
      simp at h2
    | cons a as =>
      obtain ⟨sl, al⟩ := cArgs_ok hf h1
      rw [List.all_cons, Bool.and_eq_true] at al
      rcases c with ⟨id, hc, hv⟩ | ⟨T, hc, hv⟩
      · exact snd_callB sl (fun X _ es => ns_ok al.1 es X.env) (fun X _ pos => nst_ok al.2) sp hc hg hm hv hn hd
      · exact snd_callTy sl (fun X _ es => ns_ok al.1 es X.env) (fun X _ pos => nst_ok al.2) sp hc hg hm hv hn hd
theorem cCall_ok {f : Expr → Option IE} (hf : ∀ e i, f e = some i → Snd (fam K G lv xw cc) G e i) {x : Str} {args : List Expr} {px pos : Pos} {ie : IE} (h : cCall f cc x args = some ie) : Snd (fam K G lv xw cc) G (.Call (.Name x px) args [] pos) ie := by
  unfold cCall at h
  split at h
  · rename_i e
    rw [Bool.and_eq_true, decide_eq_true_eq] at e
    rw [e.1]
    exact cIsx_ok h
  split at h
  · rename_i e
    split at h
    · rename_i as ea
      rw [of_decide_eq_true e]
      obtain ⟨p, pos2, rfl⟩ := isRg_ok ea
      exact cLr_ok hf h
    · exact cCall0_ok hf h
  · exact cCall0_ok hf h
theorem cSub_ok {f : Expr → Option IE} (hf : ∀ e i, f e = some i → Snd (fam K G lv xw cc) G e i) {a b : Expr} {pos : Pos} {ie : IE} (h : cSub f a b = some ie) : Snd (fam K G lv xw cc) G (.Subscript a b pos) ie := by
  unfold cSub at h
  split at h
  · obtain ⟨ia, h1, h⟩ := bind_some h
    cases h
    exact snd_sl0 (hf _ _ h1)
  · obtain ⟨ia, h1, h⟩ := bind_some h
    obtain ⟨ib, h2, h⟩ := bind_some h
    cases h
    exact snd_sl1 true (hf _ _ h1) (hf _ _ h2)
  · obtain ⟨ia, h1, h⟩ := bind_some h
    obtain ⟨ib, h2, h⟩ := bind_some h
    cases h
    exact snd_sl1 false (hf _ _ h1) (hf _ _ h2)
  · obtain ⟨ia, h1, h⟩ := bind_some h
    obtain ⟨ib, h2, h⟩ := bind_some h
    obtain ⟨ic, h3, h⟩ := bind_some h
    cases h
    exact snd_sl2 (hf _ _ h1) (hf _ _ h2) (hf _ _ h3)
  · rename_i k1 j1 p1 p2 p3
    obtain ⟨ia, h1, h⟩ := bind_some h
    obtain ⟨h2, h⟩ := if_some h
    cases h
    cases of_decide_eq_true h2
    exact snd_op1 (hf _ _ h1) sat_slrev fun ta pa X F => by
      have hk : X.K = K := F.k
      subst hk
      exact pe_revL (pa X F)
  · cases h
  · rename_i n1 n2 n3 n4 n5 n6
    obtain ⟨ia, h1, h⟩ := bind_some h
    obtain ⟨ib, h2, h⟩ := bind_some h
    cases h
    refine snd_idx (hf _ _ h1) (hf _ _ h2) ?_
    cases b <;> first | exact absurd rfl (n6 _ _ _ _) | (intro o i; rfl)
theorem cTgs_ok {f : Expr → Option Pat} (hf : ∀ e p, f e = some p → SndP (fam K G lv xw cc) e p) : ∀ {es : List Expr} {ps : Pats}, cTgs f es = some ps → SndPs (fam K G lv xw cc) es ps
  | [], ps, h => by cases h; exact sndPs_nil
  | e :: es, ps, h => by
    unfold cTgs at h
    obtain ⟨p, h1, h⟩ := bind_some h
    obtain ⟨qs, h2, h⟩ := bind_some h
    obtain ⟨h3, h⟩ := if_some h
    cases h
    exact sndPs_cons (fun X _ es => tg_ok h3 es X.env) (hf e p h1) (cTgs_ok hf h2)
theorem cTg_ok : ∀ (n : Nat) {e : Expr} {p : Pat}, cTg cc n e = some p → SndP (fam K G lv xw cc) e p
  | 0, e, p, h => by unfold cTg at h; cases h
  | n + 1, e, p, h => by
    cases e with
    | Name x pos =>
      have h : (tgtOf cc x).map Pat.nm = some p := h
      cases e : tgtOf cc x with
      | none => rw [e] at h; cases h
      | some i =>
      rw [e] at h
      cases h
      exact sndP_nm (tgtOf_pg e)
    | Tuple es k pos =>
      have h : (if cc.hot = true then none else (cTgs (cTg cc n) es).map Pat.tp) = some p := h
      by_cases nh : cc.hot = true
      · rw [if_pos nh] at h; cases h
      rw [if_neg nh] at h
      have nh : cc.hot = false := by simpa using nh
      cases e : cTgs (cTg cc n) es with
      | none => rw [e] at h; cases h
      | some ps =>
      rw [e] at h
      cases h
      exact sndP_tp (fun X F => F.calm nh) (cTgs_ok (fun e p h => cTg_ok n h) e)
    | _ => cases h
theorem map_some' {α β : Type} {x : Option α} {f : α → β} {b : β} (h : x.map f = some b) : ∃ a, x = some a ∧ f a = b := by
  cases x with
  | none => cases h
  | some a => exact ⟨a, rfl, Option.some.inj h⟩
theorem isTupE_ok {e : Expr} (h : isTupE e = true) : ∃ es k pos, e = .Tuple es k pos := by
  unfold isTupE at h
  split at h
  · exact ⟨_, _, _, rfl⟩
  · cases h
theorem isRg1_ok {a : Expr} {as : List Expr} (h : isRg [a] = some as) : ∃ p pos, a = .Call (.Name "range" p) as [] pos := by
  unfold isRg at h
  split at h
  · rename_i e
    obtain ⟨h1, h⟩ := if_some h
    cases h
    cases e
    exact ⟨_, _, by rw [of_decide_eq_true h1]⟩
  · cases h
theorem cIter_ok {f : Expr → Option IE} (hf : ∀ e i, f e = some i → Snd (fam K G lv xw cc) G e i) {tg e : Expr} {it : IT} (h : cIter f cc tg e = some it) : SndI (fam K G lv xw cc) G tg e it := by
  unfold cIter at h
  split at h
  · rename_i x px a pos
    by_cases c : (decide (x = ("range" : Str)) && useB cc x && noStar a) = true
    · rw [if_pos c] at h
      simp only [Bool.and_eq_true] at c
      obtain ⟨ia, h1, rfl⟩ := map_some' h
      cases of_decide_eq_true c.1.1
      obtain ⟨hg, hm, _, _⟩ := useB_ok (K := K) (G := G) (lv := lv) (xw := xw) c.1.2
      exact sndI_rng1 (hf _ _ h1) (fun X _ es => ns_ok c.2 es X.env) hg hm
    rw [if_neg c] at h; clear c
    by_cases c : (decide (x = ("reversed" : Str)) && useB cc x && noStar a) = true
    · rw [if_pos c] at h
      simp only [Bool.and_eq_true] at c
      cases of_decide_eq_true c.1.1
      obtain ⟨hg, hm, _, _⟩ := useB_ok (K := K) (G := G) (lv := lv) (xw := xw) c.1.2
      split at h
      · rename_i b er
        obtain ⟨p2, pos2, rfl⟩ := isRg1_ok er
        obtain ⟨c2, h⟩ := if_some h
        rw [Bool.and_eq_true] at c2
        obtain ⟨hg2, hm2, _, _⟩ := useB_ok (K := K) (G := G) (lv := lv) (xw := xw) c2.1
        obtain ⟨ib, h1, rfl⟩ := map_some' h
        exact sndI_revR1 (hf _ _ h1) (fun X _ es => ns_ok c2.2 es X.env) hg hm hg2 hm2
      · rename_i b b2 er
        obtain ⟨p2, pos2, rfl⟩ := isRg1_ok er
        obtain ⟨c2, h⟩ := if_some h
        simp only [Bool.and_eq_true] at c2
        obtain ⟨hg2, hm2, _, _⟩ := useB_ok (K := K) (G := G) (lv := lv) (xw := xw) c2.1
        obtain ⟨ib, h1, h⟩ := bind_some h
        obtain ⟨ic, h3, rfl⟩ := map_some' h
        exact sndI_revR2 (hf _ _ h1) (hf _ _ h3) (fun X _ es => ns_ok c2.2.1 es X.env) (fun X _ es => ns_ok c2.2.2 es X.env) hg hm hg2 hm2
      obtain ⟨ia, h1, rfl⟩ := map_some' h
      exact sndI_rev (hf _ _ h1) (fun X _ es => ns_ok c.2 es X.env) hg hm
    rw [if_neg c] at h; clear c
    by_cases c : (decide (x = ("enumerate" : Str)) && useB cc x && noStar a && isTupE tg) = true
    · rw [if_pos c] at h
      simp only [Bool.and_eq_true] at c
      obtain ⟨ia, h1, rfl⟩ := map_some' h
      cases of_decide_eq_true c.1.1.1
      obtain ⟨hg, hm, _, _⟩ := useB_ok (K := K) (G := G) (lv := lv) (xw := xw) c.1.1.2
      obtain ⟨es, k, p2, rfl⟩ := isTupE_ok c.2
      exact sndI_enum (hf _ _ h1) (fun X _ es => ns_ok c.1.2 es X.env) hg hm
    rw [if_neg c] at h
    obtain ⟨ia, h1, rfl⟩ := map_some' h
    exact sndI_seq (hf _ _ h1) fun _ _ _ => rfl
  · rename_i x px a b pos
    by_cases c : (decide (x = ("range" : Str)) && useB cc x && noStar a && noStar b) = true
    · rw [if_pos c] at h
      simp only [Bool.and_eq_true] at c
      obtain ⟨ia, h1, h⟩ := bind_some h
      obtain ⟨ib, h2, rfl⟩ := map_some' h
      cases of_decide_eq_true c.1.1.1
      obtain ⟨hg, hm, _, _⟩ := useB_ok (K := K) (G := G) (lv := lv) (xw := xw) c.1.1.2
      exact sndI_rng2 (hf _ _ h1) (hf _ _ h2) (fun X _ es => ns_ok c.1.2 es X.env) (fun X _ es => ns_ok c.2 es X.env) hg hm
    rw [if_neg c] at h; clear c
    by_cases c : (decide (x = ("zip" : Str)) && useB cc x && noStar a && noStar b && isTupE tg) = true
    · rw [if_pos c] at h
      simp only [Bool.and_eq_true] at c
      obtain ⟨ia, h1, h⟩ := bind_some h
      obtain ⟨ib, h2, rfl⟩ := map_some' h
      cases of_decide_eq_true c.1.1.1.1
      obtain ⟨hg, hm, _, _⟩ := useB_ok (K := K) (G := G) (lv := lv) (xw := xw) c.1.1.1.2
      obtain ⟨es, k, p2, rfl⟩ := isTupE_ok c.2
      exact sndI_zip (hf _ _ h1) (hf _ _ h2) (fun X _ es => ns_ok c.1.1.2 es X.env) (fun X _ es => ns_ok c.1.2 es X.env) hg hm
    rw [if_neg c] at h
    obtain ⟨ia, h1, rfl⟩ := map_some' h
    exact sndI_seq (hf _ _ h1) fun _ _ _ => rfl
  · obtain ⟨h1, h⟩ := if_some h
    obtain ⟨ia, h2, rfl⟩ := map_some' h
    exact sndI_seq (hf _ _ h2) fun X _ x => fs_ok h1 X.env x
theorem cT_ok {f : Expr → Option IE} (hf : ∀ e i, f e = some i → SndOk K G lv xw cc e i) : ∀ (n : Nat) {e : Expr} {ie : IE}, cT f n e = some ie → SndT (fam K G lv xw cc) G e ie
  | 0, e, ie, h => nomatch h
  | n + 1, e, ie, h => by
    have go : ∀ {e : Expr} {ie : IE}, (f e).map (fun i => IE.prim .tru (.cons i .nil)) = some ie → (∀ X, (fam K G lv xw cc).C X → ∀ whole, isTrue e X.env whole = (do let v ← whole; standAt e.pos; holding [v] (truthy v))) → SndT (fam K G lv xw cc) G e ie := fun {e ie} h he => by
      obtain ⟨i, h1, rfl⟩ := map_some' h
      exact sndT_tru (hf _ _ h1).1 he
    cases e with
    | UnaryOp op a pos =>
      cases op with
      | Not =>
        have h : (cT f n a).map IE.not = some ie := h
        obtain ⟨i, h1, rfl⟩ := map_some' h
        exact sndT_not (cT_ok hf n h1)
      | _ => exact go h fun _ _ _ => rfl
    | Compare a ops bs pos => exact (hf _ _ h).2 rfl
    | BoolOp op es pos => exact (hf _ _ h).2 rfl
    | Constant c k pos => exact (hf _ _ h).2 rfl
    | IfExp _ _ _ _ => cases h
    | _ => exact go h fun _ _ _ => rfl
end
end VI
namespace VI
open PySem PySem.Spec PyProof.Rows L2

section
variable {K : PySem.W.Frag} {G : GE} {lv : Nat} {xw : XW} {cc : CC}
theorem lookup_relS_free {sc : Scope} : ∀ {names : List (Str × NameKind)} {x : Str}, names.lookup x = some .free →
    (names.map fun (n, k) => if (k == NameKind.free && sc.kind == .function && sc.names.lookup n == some .cell) then (n, NameKind.cell) else (n, k)).lookup x = some .cell ∨
    (names.map fun (n, k) => if (k == NameKind.free && sc.kind == .function && sc.names.lookup n == some .cell) then (n, NameKind.cell) else (n, k)).lookup x = some .free
  | [], _, h => by simp at h
  | (n, k₀) :: r, x, h => by
    have ih := @lookup_relS_free sc r x
    simp only [List.map_cons]
    cases hx : x == n with
    | true =>
      simp only [List.lookup_cons, hx] at h
      cases h
      by_cases hc : ((NameKind.free == NameKind.free && sc.kind == .function && sc.names.lookup n == some .cell)) = true
      · rw [if_pos hc]; simp only [List.lookup_cons, hx]; first | exact .inl rfl | exact .inl trivial
      · rw [if_neg hc]; simp only [List.lookup_cons, hx]; first | exact .inr rfl | exact .inr trivial
    | false =>
      simp only [List.lookup_cons, hx] at h
      by_cases hc : (k₀ == NameKind.free && sc.kind == .function && sc.names.lookup n == some .cell) = true
      · rw [if_pos hc]; simp only [List.lookup_cons, hx]; exact ih h
      · rw [if_neg hc]; simp only [List.lookup_cons, hx]; exact ih h
theorem FamC.blk {X : Cx} (F : FamC K G lv xw cc X) (nh : cc.hot = false) {scope : Scope} (hk : scope.kind = .function) (s : Shared) (H : Hp) (C : Addr) (cl : List (Str × Addr)) (fp : List Addr) :
    FamC K G lv xw { cc with sc := scope, top := false, rs := false, ex := none } (X.blk s H scope (compEnvC scope cl C X.env) fp) where
  k := F.k
  calm := F.calm
  n := F.n
  nd := F.nd
  kd := fun x k h hk => lookup_relS_keep (sc := X.env.scope) hk h
  kf := fun x h => lookup_relS_free (sc := X.env.scope) h
  fn := fun x h => by
    have h : scope.names.lookup x = some .cell := h
    show (scope.names.lookup x == some .cell) = true
    rw [h]; rfl
  room := F.room
  roomH := F.roomH
  hotc := fun h => absurd (nh.symm.trans h) (by decide)
  fns := fun h x j mu na h2 => by
    obtain ⟨f, fd, ps, k, a, b, c, d, e⟩ := F.fns h x j mu na h2
    exact ⟨f, fd, ps, k, a, b, c, d, e⟩
  fnsH := fun h => absurd (nh.symm.trans h) (by decide)
  hfs := fun x j mu na h2 => by
    obtain ⟨f, fd, ps, k, a, b, c, d, e⟩ := F.hfs x j mu na h2
    exact ⟨f, fd, ps, k, a, b, c, d, e⟩
  fnsX := fun h x j mu na h2 => by
    obtain ⟨f, fd, ps, k, a, b, c, d, e⟩ := F.fnsX h x j mu na h2
    exact ⟨f, fd, ps, k, a, b, c, d, e⟩
  xc := fun c x ns l h => by
    have T := F.xc c x ns l h
    exact ⟨T.mg, T.xf, T.cl, T.ha, T.hn, T.ht, T.hm, T.no, T.is_, T.em, T.iv, T.ini⟩
  hx := fun x h => nomatch h
  tk := fun h => nomatch h
  st := fun h => nomatch h
  cs := F.cs
  bt := F.bt
  im := F.im
  kind := hk
  po := fun h => nomatch h
theorem FamC.blkOk {X : Cx} (F : FamC K G lv xw cc X) {scope : Scope} {own : List (Str × Nat)} (h : BlkOk cc.N cc.sc scope own) : BlkOk X.N X.env.scope scope own :=
  ⟨h.kind, h.uniq, fun p hp => by rw [F.n]; exact h.ix p hp, fun y hy e => by
    rcases h.free y hy e with z | z
    · exact .inl (F.kd _ _ z (by decide))
    · exact F.kf _ z, fun y hy e => by rw [F.n]; exact h.own y hy e⟩
theorem cTests_ok {f : Expr → Option IE} (hf : ∀ e i, f e = some i → SndOk K G lv xw cc e i) : ∀ {ifs : List Expr} {ts : IEs}, cTests f ifs = some ts → SndTs (fam K G lv xw cc) G ifs ts
  | [], ts, h => by cases h; exact sndTs_nil
  | [c], ts, h => by
    unfold cTests at h
    obtain ⟨i, h2, rfl⟩ := map_some' h
    exact sndTs_one (cT_ok hf _ h2)
  | _ :: _ :: _, ts, h => by cases h
theorem cKw_ok {f : Expr → Option IE} (hf : ∀ e i, f e = some i → Snd (fam K G lv xw cc) G e i) {x : Str} {nm : Option Str} {a b : Expr} {px kp pos : Pos} {ie : IE} (h : cKw f cc x nm a b = some ie) : Snd (fam K G lv xw cc) G (.Call (.Name x px) [a] [⟨nm, b, kp⟩] pos) ie := by
  unfold cKw at h
  obtain ⟨h0, h5⟩ := if_some h
  clear h
  simp only [Bool.and_eq_true, Bool.not_eq_true', decide_eq_true_eq] at h0
  obtain ⟨hu, nh, hs, rfl⟩ := h0
  obtain ⟨hg, hm, hn, hd⟩ := useB_ok (K := K) (G := G) (lv := lv) (xw := xw) hu
  obtain ⟨ia, h1, h6⟩ := bind_some h5
  clear h5
  obtain ⟨ib, h2, h7⟩ := bind_some h6
  clear h6
  split at h7
  · rename_i e
    have e := of_decide_eq_true e
    cases h7
    subst e
    refine snd_op2 (hf _ _ h1) (hf _ _ h2) sat_max1d fun ta tb pa pb X F => ?_
    have c := cr_maxDef (F.calm nh) (by have := F.hu; omega)
    rw [F.k] at c
    exact pe_callBK (X := X) (pos := pos) c (hg X F) (hm X F) (by decide +kernel) (pa_cons (pa X F) pa_nil (ns_ok hs _ _)) (pk_cons (pb X F) pk_nil) hn hd (by rw [ns_ok hs]; rfl) (by rw [ns_ok hs]; rfl)
  · split at h7
    · rename_i e
      have e := of_decide_eq_true e
      cases h7
      subst e
      refine snd_op2 (hf _ _ h1) (hf _ _ h2) sat_min1d fun ta tb pa pb X F => ?_
      have c := cr_minDef (F.calm nh) (by have := F.hu; omega)
      rw [F.k] at c
      exact pe_callBK (X := X) (pos := pos) c (hg X F) (hm X F) (by decide +kernel) (pa_cons (pa X F) pa_nil (ns_ok hs _ _)) (pk_cons (pb X F) pk_nil) hn hd (by rw [ns_ok hs]; rfl) (by rw [ns_ok hs]; rfl)
    · cases h7
theorem cPop_ok {f : Expr → Option IE} (hf : ∀ e i, f e = some i → Snd (fam K G lv xw cc) G e i) {x m : Str} {args : List Expr} {px apos cpos : Pos} {ie : IE} (h : cPop f cc x m (apos.endLine == cpos.line) args = some ie) : Snd (fam K G lv xw cc) G (.Call (.Attribute (.Name x px) m apos) args [] cpos) ie := by
  unfold cPop at h
  obtain ⟨h0, h5⟩ := if_some h
  rw [Bool.and_eq_true] at h0
  have hm := of_decide_eq_true h0.1
  obtain ⟨i, h1, h6⟩ := bind_some h5
  clear h h5
  subst hm
  have h := h6
  clear h6
  match args, h with
  | [], h =>
    cases h
    refine snd_pop0 fun X F => ?_
    have := pe_bm0 (X := X) (apos := apos) (cpos := cpos) PySem.F.plainAttrs_list PySem.F.slot_list_pop (by rfl) mt_pop (slotOf_pe (pos := px) h1 X F) rfl h0.2
    rw [F.k] at this
    exact this
  | [a], h =>
    obtain ⟨hs, h⟩ := if_some h
    obtain ⟨ia, h2, h⟩ := bind_some h
    cases h
    refine snd_pop1 (hf _ _ h2) fun te pe X F => ?_
    have := pe_bm (X := X) (apos := apos) (cpos := cpos) PySem.F.plainAttrs_list PySem.F.slot_list_pop (by rfl) mt_popAt (slotOf_pe (pos := px) h1 X F) (pa_cons (pe X F) pa_nil (ns_ok hs _ _)) rfl (by rw [ns_ok hs]; rfl) h0.2 (ns_ok hs _ _) rfl
    rw [F.k] at this
    exact this
  | _ :: _ :: _, h => cases h
theorem cM1_ok {f : Expr → Option IE} (hf : ∀ e i, f e = some i → Snd (fam K G lv xw cc) G e i) {o : Expr} {m : Str} {args : List Expr} {apos cpos : Pos} {ie : IE} (hb : ∀ X : Cx, attributeBase o m X.env (eval o X.env) = eval o X.env) (h : cM1 f o m (apos.endLine == cpos.line) args = some ie) : Snd (fam K G lv xw cc) G (.Call (.Attribute o m apos) args [] cpos) ie := by
  unfold cM1 at h
  split at h
  case h_2 => cases h
  rename_i a
  obtain ⟨h0, h⟩ := if_some h
  rw [Bool.and_eq_true] at h0
  obtain ⟨io, h1, h⟩ := bind_some h
  obtain ⟨ia, h2, h⟩ := bind_some h
  by_cases c : decide (m = ("index" : Str)) = true
  · rw [if_pos c] at h
    cases h
    have c := of_decide_eq_true c
    subst c
    refine snd_meth (hf _ _ h1) (hf _ _ h2) sat_index index_ty fun to te po pe X F => ?_
    have := pe_bm (X := X) (apos := apos) (cpos := cpos) PySem.F.plainAttrs_list PySem.F.slot_list_index (by rfl) mt_index (po X F) (pa_cons (pe X F) pa_nil (ns_ok h0.2 _ _)) (hb X) (by rw [ns_ok h0.2]; rfl) h0.1 (ns_ok h0.2 _ _) rfl
    rw [F.k] at this
    exact this
  · rw [if_neg c] at h
    obtain ⟨c, h⟩ := if_some h
    cases h
    have c := of_decide_eq_true c
    subst c
    refine snd_meth (hf _ _ h1) (hf _ _ h2) sat_join join_ty fun to te po pe X F => ?_
    have := pe_bm (X := X) (apos := apos) (cpos := cpos) PySem.F.plainAttrs_str PySem.F.slot_str_join (by rfl) (r := rJoinV X.K) mt_join (po X F) (pa_cons (pe X F) pa_nil (ns_ok h0.2 _ _)) (hb X) (by rw [ns_ok h0.2]; rfl) h0.1 (ns_ok h0.2 _ _) rfl
    rw [F.k] at this
    exact this
theorem valT {e : Expr} {ie : IE} (h : Snd (fam K G lv xw cc) G e ie) (he : ∀ X, (fam K G lv xw cc).C X → ∀ whole, isTrue e X.env whole = (do let v ← whole; standAt e.pos; holding [v] (truthy v))) : SndOk K G lv xw cc e ie := ⟨h, fun _ => sndT_val h he⟩
theorem cE_ok : ∀ (n : Nat) {cc : CC} {e : Expr} {ie : IE}, cE n cc e = some ie → SndOk K G lv xw cc e ie
  | 0, _, _, _, h => nomatch h
  | n + 1, cc, e, ie, h => by
    have ih : ∀ e i, cE n cc e = some i → SndOk K G lv xw cc e i := fun e i h => cE_ok n h
    have ih1 : ∀ e i, cE n cc e = some i → Snd (fam K G lv xw cc) G e i := fun e i h => (ih e i h).1
    cases e with
    | Constant c k pos =>
      have h : (cConst c).map IE.cst = some ie := h
      obtain ⟨v, h1, rfl⟩ := map_some' h
      refine valT ?_ fun _ _ _ => rfl
      cases c <;> cases h1
      · exact snd_cst (v := .non) (x := .non) (fun _ _ => rfl) fun X F => pe_non
      · exact snd_cst (v := .bl _) (x := .bl _) (fun _ _ => rfl) fun X F => pe_bl
      · exact snd_cst (v := .int _) (x := .int _) (fun _ _ => rfl) fun X F => pe_int
      · exact snd_cst (v := .str _) (x := .str _) (fun _ _ => rfl) fun X F => pe_str
    | Name x pos => exact valT (cName_ok h) fun _ _ _ => rfl
    | BinOp a op b pos =>
      have h : ((cE n cc a).bind fun ia => (cE n cc b).bind fun ib => (opPrim op).map fun p => IE.prim p (.cons ia (.cons ib .nil))) = some ie := h
      obtain ⟨ia, h1, h⟩ := bind_some h
      obtain ⟨ib, h2, h⟩ := bind_some h
      obtain ⟨p, h3, rfl⟩ := map_some' h
      obtain ⟨r, sp, ro⟩ := opPrim_ok (K := K) (G := G) (lv := lv) (xw := xw) (cc := cc) h3
      exact valT (snd_op2 (ih1 _ _ h1) (ih1 _ _ h2) sp fun ta tb ha hb => pe_opU ro ha hb) fun _ _ _ => rfl
    | UnaryOp op a pos =>
      cases op with
      | Not =>
        have h : (if isT a = true then (cE n cc a).map IE.not else none) = some ie := h
        obtain ⟨h1, h⟩ := if_some h
        obtain ⟨ia, h2, rfl⟩ := map_some' h
        have s := snd_not (pos := pos) (ih1 _ _ h2) ((ih _ _ h2).2 h1)
        exact ⟨s.1, fun _ => s.2⟩
      | USub =>
        have h : ((cE n cc a).map fun ia => IE.prim .neg (.cons ia .nil)) = some ie := h
        obtain ⟨ia, h2, rfl⟩ := map_some' h
        exact valT (snd_op1 (ih1 _ _ h2) sat_neg fun ta ha => pe_unU (fun X F => un_neg) ha) fun _ _ _ => rfl
      | _ => cases h
    | BoolOp op es pos =>
      match es, h with
      | [], h => cases h
      | [_], h => cases h
      | e1 :: e2 :: es, h =>
        have h : cBool (cE n cc) op (e1 :: e2 :: es) = some ie := h
        have b := cBool_ok ih h
        exact ⟨b.snd (cBool_nv h), fun _ => b.sndT⟩
    | Compare a ops bs pos =>
      have h : cCmp (cE n cc) a ops bs = some ie := h
      have s := cCmp_ok (pos := pos) ih h
      exact ⟨s.1, fun _ => s.2⟩
    | IfExp c a b pos =>
      have h : ((cT (cE n cc) 40 c).bind fun ic => (cE n cc a).bind fun ia => (cE n cc b).bind fun ib => some (IE.ife ic ia ib)) = some ie := h
      obtain ⟨ic, h1, h⟩ := bind_some h
      obtain ⟨ia, h2, h⟩ := bind_some h
      obtain ⟨ib, h3, h⟩ := bind_some h
      cases h
      exact ⟨snd_ife (cT_ok ih _ h1) (ih1 _ _ h2) (ih1 _ _ h3), fun z => nomatch z⟩
    | Call fn args kws pos =>
      cases fn with
      | Name x px =>
        cases kws with
        | nil => exact valT (cCall_ok ih1 h) fun _ _ _ => rfl
        | cons kw ks =>
          obtain ⟨nm, b, kp⟩ := kw
          rcases args with _ | ⟨a, _ | ⟨a2, as⟩⟩ <;> rcases ks with _ | ⟨k2, ks⟩ <;> first | cases h; done | exact valT (cKw_ok ih1 h) fun _ _ _ => rfl
      | Attribute b m apos =>
        cases b with
        | Name x px =>
          cases kws with
          | nil =>
            by_cases c : decide (m = ("pop" : Str)) = true
            · have h : (if decide (m = ("pop" : Str)) = true then cPop (cE n cc) cc x m (apos.endLine == pos.line) args else cM1 (cE n cc) (.Name x px) m (apos.endLine == pos.line) args) = some ie := h
              rw [if_pos c] at h
              exact valT (cPop_ok ih1 h) fun _ _ _ => rfl
            · have h : (if decide (m = ("pop" : Str)) = true then cPop (cE n cc) cc x m (apos.endLine == pos.line) args else cM1 (cE n cc) (.Name x px) m (apos.endLine == pos.line) args) = some ie := h
              rw [if_neg c] at h
              exact valT (cM1_ok ih1 (fun _ => rfl) h) fun _ _ _ => rfl
          | cons _ _ => cases h
        | Constant c k cp =>
          cases kws with
          | nil => exact valT (cM1_ok ih1 (fun _ => rfl) h) fun _ _ _ => rfl
          | cons _ _ => cases h
        | _ => cases h
      | _ => cases h
    | Subscript a b pos =>
      exact valT (cSub_ok ih1 h) fun _ _ _ => rfl
    | Tuple es k pos =>
      have h : ((cArgs (cE n cc) es).map fun is => IE.prim .tupD is) = some ie := h
      obtain ⟨is, h1, rfl⟩ := map_some' h
      exact valT (snd_tup (cArgs_ok ih1 h1).1) fun _ _ _ => rfl
    | Attribute a f pos => exact valT (cFld_ok h) fun _ _ _ => rfl
    | List es pos =>
      have h : ((cArgs (cE n cc) es).map fun is => IE.prim .lstD is) = some ie := h
      obtain ⟨is, h1, rfl⟩ := map_some' h
      exact valT (snd_lst (cArgs_ok ih1 h1).1) fun _ _ _ => rfl
    | ListComp elt gs scope pos =>
      match gs, h with
      | [], h => cases h
      | [⟨tg, iter, ifs, as⟩], h =>
        by_cases a0 : as = 0
        · subst a0
          have h : (if (!decide ((0 : Int) = 0) || cc.hot) = true then none else (cTg { cc with sc := scope, top := false, rs := false, ex := none } n tg).bind fun pt => (cIter (cE n cc) cc tg iter).bind fun it => (cTests (cE n { cc with sc := scope, top := false, rs := false, ex := none }) ifs).bind fun ts =>
            (cE n { cc with sc := scope, top := false, rs := false, ex := none } elt).bind fun ie => if (blkC cc.N cc.sc scope (ownOf cc.N scope.names) && patIn pt (ownOf cc.N scope.names)) = true then some (IE.lc ((ownOf cc.N scope.names).map (·.2)) pt it ts ie (1 + freshK elt) (alsC cc elt)) else none) = some ie := h
          by_cases nh : cc.hot = true
          · rw [if_pos (by rw [nh, Bool.or_true])] at h; cases h
          have nh : cc.hot = false := by simpa using nh
          rw [if_neg (by rw [nh]; decide)] at h
          obtain ⟨pt, h1, h⟩ := bind_some h
          obtain ⟨it, h2, h⟩ := bind_some h
          obtain ⟨ts, h3, h⟩ := bind_some h
          obtain ⟨ee, h4, h⟩ := bind_some h
          obtain ⟨h5, h⟩ := if_some h
          cases h
          rw [Bool.and_eq_true] at h5
          have bo := blkOk_by h5.1
          refine valT ((sndLc (M := fam K G lv xw cc) (Mb := fam K G lv xw { cc with sc := scope, top := false, rs := false, ex := none }) (fun X F => F.calm nh) (fun X F => by rw [F.n]; exact F.nd) (fun X F => F.blkOk bo) (fun X F s H C cl fp => F.blk nh bo.kind s H C cl fp) (cIter_ok ih1 h2) (cTg_ok n h1) (cTests_ok (fun e i h => cE_ok n h) h3) (cE_ok n h4).1 (by omega) fun i hi => ?_).snd fun i z => nomatch z) fun _ _ _ => rfl
          have := List.all_eq_true.mp h5.2 i hi
          exact of_decide_eq_true this
        · exfalso
          have h : (if (!decide (as = 0) || cc.hot) = true then none else (cTg { cc with sc := scope, top := false, rs := false, ex := none } n tg).bind _) = some ie := h
          rw [if_pos (by simp [a0])] at h
          cases h
      | ⟨_, _, _, _⟩ :: _ :: _, h => cases h
    | _ => cases h
theorem cLc_ok {n : Nat} {elt : Expr} {gs : List Comprehension} {scope : Scope} {pos : Pos} {ie : IE} (h : cE n cc (.ListComp elt gs scope pos) = some ie) : SndLc (fam K G lv xw cc) G (.ListComp elt gs scope pos) ie := by
  cases n with
  | zero => cases h
  | succ n =>
  match gs, h with
  | [], h => cases h
  | [⟨tg, iter, ifs, as⟩], h =>
    by_cases a0 : as = 0
    · subst a0
      have h : (if (!decide ((0 : Int) = 0) || cc.hot) = true then none else (cTg { cc with sc := scope, top := false, rs := false, ex := none } n tg).bind fun pt => (cIter (cE n cc) cc tg iter).bind fun it => (cTests (cE n { cc with sc := scope, top := false, rs := false, ex := none }) ifs).bind fun ts =>
        (cE n { cc with sc := scope, top := false, rs := false, ex := none } elt).bind fun ie => if (blkC cc.N cc.sc scope (ownOf cc.N scope.names) && patIn pt (ownOf cc.N scope.names)) = true then some (IE.lc ((ownOf cc.N scope.names).map (·.2)) pt it ts ie (1 + freshK elt) (alsC cc elt)) else none) = some ie := h
      by_cases nh : cc.hot = true
      · rw [if_pos (by rw [nh, Bool.or_true])] at h; cases h
      have nh : cc.hot = false := by simpa using nh
      rw [if_neg (by rw [nh]; decide)] at h
      obtain ⟨pt, h1, h⟩ := bind_some h
      obtain ⟨it, h2, h⟩ := bind_some h
      obtain ⟨ts, h3, h⟩ := bind_some h
      obtain ⟨ee, h4, h⟩ := bind_some h
      obtain ⟨h5, h⟩ := if_some h
      cases h
      rw [Bool.and_eq_true] at h5
      have bo := blkOk_by h5.1
      refine sndLc (Mb := fam K G lv xw { cc with sc := scope, top := false, rs := false, ex := none }) (fun X F => F.calm nh) (fun X F => by rw [F.n]; exact F.nd) (fun X F => F.blkOk bo) (fun X F s H C cl fp => F.blk nh bo.kind s H C cl fp) (cIter_ok (fun e i h => (cE_ok n h).1) h2) (cTg_ok n h1) (cTests_ok (fun e i h => cE_ok n h) h3) (cE_ok n h4).1 (by omega) fun i hi => ?_
      have := List.all_eq_true.mp h5.2 i hi
      exact of_decide_eq_true this
    · exfalso
      have h : (if (!decide (as = 0) || cc.hot) = true then none else (cTg { cc with sc := scope, top := false, rs := false, ex := none } n tg).bind _) = some ie := h
      rw [if_pos (by simp [a0])] at h
      cases h
  | ⟨_, _, _, _⟩ :: _ :: _, h => cases h
end
end VI
namespace VI
open PySem PySem.Spec PyProof.Rows L2

def noComp : Expr → Bool
  | .ListComp _ _ _ _ => false
  | .SetComp _ _ _ _ => false
  | .DictComp _ _ _ _ _ => false
  | _ => true
def isComp : Expr → Option Scope
  | .ListComp _ _ s _ => some s
  | _ => none
def noTup : Expr → Bool
  | .Tuple _ _ _ => false
  | _ => true
theorem sw_ok {e : Expr} (h : noComp e = true) (t : Option Expr) (l : Nat) (env : Env) : swapsWith e t l env = pure false := by
  cases e <;> first | rfl | cases h
theorem sws_ok {e t : Expr} (h : noComp e = true) (l : Nat) (env : Env) : swapsWithSole [t] e l env = pure false := by
  cases e <;> first | rfl | cases h
/-- a name = [..] whose store stands within the comprehension -/
def swC (cc : CC) (x : Str) (py : Pos) : Expr → Bool
  | .ListComp _ _ s pos => decide (kindC cc x = some .local) && (py.line == pos.line) && !(s.names.any fun (n, k) => n == x && (k == .local || k == .cell))
  | _ => false
def augOp : Operator → Option Prim
  | .Add => some .add | .Sub => some .sub | _ => none
def isExtend (e : Expr) : Option (Str × Expr) := match e with
  | .Call (.Attribute (.Name x _) m apos) [a] [] cpos => if (decide (m = ("extend" : Str)) && (apos.endLine == cpos.line) && noStar a) = true then some (x, a) else none
  | _ => none
def isAppend (e : Expr) : Option (Str × Expr) := match e with
  | .Call (.Attribute (.Name x _) m apos) [a] [] cpos => if (decide (m = ("append" : Str)) && (apos.endLine == cpos.line) && noStar a) = true then some (x, a) else none
  | _ => none
def cBlk (f : Stmt → Option IS) : List Stmt → Option ISs
  | [] => some .nil
  | s :: ss => (f s).bind fun i => (cBlk f ss).bind fun is => some (.cons i is)
/-- x, y = a, b: stored from the right -/
def parC (cc : CC) (x y : Str) (px py : Pos) (a b : Expr) : Bool := !cc.hot && decide (kindC cc x = some .local) && decide (kindC cc y = some .local) && !decide (x = y) && (py.line == px.line) && !(foldedForSure 8 a && foldedForSure 8 b) && !(constantsAlone 8 a && constantsAlone 8 b)
def cAsg (n : Nat) (cc : CC) (tg e : Expr) : Option IS := match tg with
  | .Name x py => if (decide (x ∈ cc.sh) && (noComp e && noTup e)) = true then ((cTg cc (n + 1) (.Name x py)).bind fun p => (cE n cc e).bind fun ie => some (.asgT p ie)) else (tgtOf cc x).bind fun i => (cE n cc e).bind fun ie => if (noComp e || (match e with | .ListComp _ _ _ _ => true | _ => false)) = true then some (.asg i ie) else none
  | .Tuple [.Name x px, .Name y py] k pos => match e with
    | .Tuple [a, b] _ _ => (tgtOf cc x).bind fun i => (tgtOf cc y).bind fun j => (cArgs (cE n cc) [a, b]).bind fun ies => if parC cc x y px py a b = true then some (.asgT (.tp (.cons (.nm i) (.cons (.nm j) .nil))) (.prim .tupD ies)) else none
    | e => (cTg cc n (.Tuple [.Name x px, .Name y py] k pos)).bind fun p => (cE n cc e).bind fun ie => if (noComp e && noTup e) = true then some (.asgT p ie) else none
  | .Tuple es k pos => (cTg cc n (.Tuple es k pos)).bind fun p => (cE n cc e).bind fun ie => if (noComp e && noTup e) = true then some (.asgT p ie) else none
  | .Subscript (.Name x _) ix _ => (slotOf cc x).bind fun i => (cE n cc ix).bind fun iix => (cE n cc e).bind fun ie => if (noComp e && noSlice ix) = true then some (.seti i iix ie) else none
  | .Subscript (.Subscript (.Name x _) ix _) jx _ => (slotOf cc x).bind fun i => (cE n cc ix).bind fun iix => (cE n cc jx).bind fun ijx => (cE n cc e).bind fun ie => if (noComp e && (noSlice ix && (noSlice jx && pureI ijx))) = true then some (.setij i iix ijx ie) else none
  | _ => none
def cS0 (f : Stmt → Option IS) (n : Nat) (cc : CC) (st : Stmt) : Option IS := match st with
    | .Expr e _ => match isAppend e with
      | some (x, a) => (slotOf cc x).bind fun i => (cE n cc a).bind fun ia => some (.app i ia)
      | none => match isExtend e with
      | some (x, a) => (slotOf cc x).bind fun i => (cE n cc a).bind fun ia => some (.ext i ia)
      | none => match e with
        | .Constant (.str _) _ _ => some .pass
        | e => (cE n cc e).bind fun ie => if noComp e = true then some (.ex ie) else none
    | .Return none _ => some .retN
    | .Return (some e) _ => (cE n cc e).bind fun ie => some (.ret ie)
    | .If c a b _ => (cT (cE n cc) 40 c).bind fun ic => (cBlk (f) a).bind fun ia => (cBlk (f) b).bind fun ib => some (.ite ic ia ib)
    | .While c b [] _ => (cT (cE n cc) 40 c).bind fun ic => (cBlk (f) b).bind fun ib => if cc.top = true then some (.whl ic ib) else none
    | .For tg iter b [] _ => (cTg cc n tg).bind fun p => (cIter (cE n cc) cc tg iter).bind fun it => (cBlk (f) b).bind fun ib => if (cc.top && !cc.hot) = true then some (.for p it ib) else none
    | .Break _ => some .brk
    | .Continue _ => some .cont
    | .Pass _ => some .pass
    | .Assign [tg] e _ => cAsg n cc tg e
    | .AugAssign (.Name x _) op e _ => (tgtOf cc x).bind fun i => (cE n cc e).bind fun ie => (augOp op).bind fun p => some (.aug i p ie)
    | .AugAssign (.Subscript (.Name x _) ix _) op e _ => (slotOf cc x).bind fun i => (cE n cc ix).bind fun iix => (cE n cc e).bind fun ie => (augOp op).bind fun p => if noSlice ix = true then some (.augi i p iix ie) else none
    | _ => none
/-- a call that may raise -/
def cX (g : Expr → Option IE) (cc : CC) : Expr → Option IE
  | .Call (.Name x _) (a :: as) [] _ => match cc.xf.lookup x with
    | some (j, mu, na) => if (cc.rs && !cc.hot && isGlK (kindC cc x) && okName x && lenEq mu (a :: as)) = true then (cArgs g (a :: as)).bind fun is => some (.call j mu na is) else none
    | none => none
  | _ => none
/-- what may raise, and try -/
def cSx (f : CC → Stmt → Option IS) (g : Expr → Option IE) (cc : CC) : Stmt → Option IS
  | .Expr e _ => (cX g cc e).bind fun ie => if noComp e = true then some (.xex ie) else none
  | .Return (some e) _ => (cX g cc e).bind fun ie => some (.xret ie)
  | .Assign [.Name x _] e _ => (tgtOf cc x).bind fun i => (cX g cc e).bind fun ie => if noComp e = true then some (.xasg i ie) else none
  | .If (.Compare e [.IsNot] [.Constant .none _ _] _) b [] _ => (cX g cc e).bind fun ie => (cBlk (f cc) b).bind fun ib => some (.xnn ie ib)
  | .Raise (some (.Call (.Name x _) (a :: as) [] _)) none _ => (clsAt x cc.xc 0).bind fun (c, ns, _) => (cArgs g (a :: as)).bind fun is => if (cc.rs && !cc.hot && !ns.isEmpty && isGlK (kindC cc x) && okName x && decide (ns.length ≤ 900)) = true then some (.rse c ns is) else none
  | .Try body [.ExceptHandler (some (.Name x _)) (some nm) (b0 :: suite) _] [] [] _ => if (cc.top && !cc.hot && isGlK (kindC cc x) && okName x && decide (kindC cc nm = some .local)) = true then (clsAt x cc.xc 0).bind fun (_, _, l) => (tgtOf cc nm).bind fun i => (cBlk (f { cc with rs := true, ex := none }) body).bind fun b =>
      (cBlk (f { cc with hot := true, rs := false, ex := some nm, fns := cc.hfs, xf := [] }) (b0 :: suite)).bind fun h => some (.tryx i cc.xc.length l cc.rs b h) else none
  | _ => none
def cS : Nat → CC → Stmt → Option IS
  | 0, _, _ => none
  | n + 1, cc, st => match cSx (cS n) (cE n cc) cc st with
    | some is => some is
    | none => cS0 (cS n cc) n cc st
section
variable {K : PySem.W.Frag} {G : GE} {lv : Nat} {xw : XW} {cc : CC}
theorem cBlk_ok {f : Stmt → Option IS} (hf : ∀ s i, f s = some i → SndS (fam K G lv xw cc) G s i) : ∀ {ss : List Stmt} {is : ISs}, cBlk f ss = some is → SndSs (fam K G lv xw cc) G ss is
  | [], is, h => by cases h; exact sndSs_nil
  | s :: ss, is, h => by
    unfold cBlk at h
    obtain ⟨i, h1, h⟩ := bind_some h
    obtain ⟨js, h2, h⟩ := bind_some h
    cases h
    exact sndSs_cons (hf s i h1) (cBlk_ok hf h2)
theorem tgtOf_ok {x : Str} {i : Nat} (h : tgtOf cc x = some i) : cc.N[i]? = some x ∧ isLocK (kindC cc x) = true ∧ okName x = true := by
  unfold tgtOf at h
  obtain ⟨h1, h⟩ := if_some h
  rw [Bool.and_eq_true] at h1
  exact ⟨ixOf0 h, h1.1, h1.2⟩
theorem augOp_ok {op : Operator} {p : Prim} (h : augOp op = some p) : ∃ ti, ASat p ti ∧ ∀ X : Cx, PIp X op ti := by
  cases op <;> cases h
  · exact ⟨_, asat_add, fun X => iop_add⟩
  · exact ⟨_, asat_sub, fun X => iop_sub⟩
theorem setK {X : Cx} (h : X.K = K) (o : PGet X (rIxL X.K)) : PGet X (rIxL K) := by subst h; exact o
/-- name = [..] -/
theorem sw_false {X : Cx} (F : FamC K G lv xw cc X) {x : Str} {py pos : Pos} {elt : Expr} {gs : List Comprehension} {s : Scope} {l : Nat} (hl : isLocK (kindC cc x) = true) (h : swC cc x py (.ListComp elt gs s pos) = false) :
    swapsWith (.ListComp elt gs s pos) (some (.Name x py)) l X.env = pure false := by
  unfold swapsWith
  show (pure (X.env.blockKind == .function && X.env.kindOf x == some .local && py.line == (Expr.ListComp elt gs s pos).pos.line && !(s.names.any fun (n, k) => n == x && (k == .local || k == .cell))) : Sem Bool) = pure false
  have : (X.env.blockKind == .function && X.env.kindOf x == some .local && py.line == (Expr.ListComp elt gs s pos).pos.line && !(s.names.any fun (n, k) => n == x && (k == .local || k == .cell))) = false := by
    have hk : X.env.kindOf x = kindC cc x := by
      unfold kindC at hl ⊢
      unfold isLocK at hl
      split at hl
      · rename_i e; rw [e]; exact F.kd x _ e (by decide)
      · rename_i e; rw [e]; exact F.kd x _ e (by decide)
      · cases hl
    rw [hk]
    have h : (decide (kindC cc x = some .local) && (py.line == pos.line) && !(s.names.any fun (n, k) => n == x && (k == .local || k == .cell))) = false := h
    by_cases c : kindC cc x = some .local
    · rw [c] at h ⊢
      simp only [decide_true, Bool.true_and] at h
      show (X.env.blockKind == .function && true && py.line == pos.line && _) = false
      rw [Bool.and_true, Bool.and_assoc, h, Bool.and_false]
    · have : (kindC cc x == some NameKind.local) = false := by simpa using c
      rw [this, Bool.and_false, Bool.false_and, Bool.false_and]
  rw [this]
theorem swC_true {X : Cx} (F : FamC K G lv xw cc X) {x : Str} {py pos : Pos} {elt : Expr} {gs : List Comprehension} {s : Scope} {l : Nat} (h : swC cc x py (.ListComp elt gs s pos) = true) :
    X.env.scope.names.lookup x = some .local ∧ swapsWith (.ListComp elt gs s pos) (some (.Name x py)) l X.env = pure true := by
  unfold swC at h
  simp only [Bool.and_eq_true, decide_eq_true_eq, Bool.not_eq_true'] at h
  have k : X.env.scope.names.lookup x = some .local := F.kd x _ h.1.1 (by decide)
  exact ⟨k, sw_true F.kind k h.1.2 h.2⟩
theorem par_hw {X : Cx} (F : FamC K G lv xw cc X) {x y : Str} {px py pt pt2 : Pos} {kt k2 : Nat} {a b : Expr} (h : parC cc x y px py a b = true) (h1 : noStar a = true) (h2 : noStar b = true) :
    swappedStores [.Tuple [.Name x px, .Name y py] kt pt] (.Tuple [a, b] k2 pt2) X.env = pure (some [x, y]) := by
  unfold parC at h
  simp only [Bool.and_eq_true, decide_eq_true_eq, Bool.not_eq_true', decide_eq_false_iff_not] at h
  obtain ⟨⟨⟨⟨⟨⟨_, hx⟩, hy⟩, hne⟩, hl⟩, hf⟩, hc⟩ := h
  have kx : X.env.kindOf x = some .local := F.kd x _ hx (by decide)
  have ky : X.env.kindOf y = some .local := F.kd y _ hy (by decide)
  have hb : X.env.blockKind = .function := by unfold Env.blockKind; rw [F.kind]; rfl
  have sq : ∀ e : Expr, noStar e = true → (match e with | .Starred .. => true | _ => false) = false := fun e h => by
    cases e <;> first | rfl | cases h
  have s1 : ([a, b].any fun | .Starred .. => true | _ => false) = false := by
    rw [List.any_cons, List.any_cons, List.any_nil, sq a h1, sq b h2]
    rfl
  have n1 : (y == x) = false := by simpa using fun e => hne e.symm
  have hd : ([x, y] : List Str).eraseDups = [x, y] := by
    rw [List.eraseDups_cons]
    simp [n1]
    rw [List.eraseDups_cons]
    simp
  have hx2 : (Expr.Name x px).pos = px := rfl
  have hy2 : (Expr.Name y py).pos = py := rfl
  unfold swappedStores
  simp only [List.length_cons, List.length_nil, hb, s1, List.head?_cons, Option.map_some, Option.getD_some, hx2, List.filterMap_cons, List.filterMap_nil, kx, ky, hl, List.all_cons, List.all_nil, Bool.and_true, hf, hc]
  rw [if_neg (by decide)]
  split
  · rename_i h
    exact Bool.noConfusion (s1.symm.trans h)
  · simp [hd]
theorem cAsg_ok {n : Nat} {tg e : Expr} {is : IS} {pos : Pos} (h : cAsg n cc tg e = some is) : SndS (fam K G lv xw cc) G (.Assign [tg] e pos) is := by
  unfold cAsg at h
  split at h
  · rename_i x py
    split at h
    · rename_i h3
      simp only [Bool.and_eq_true] at h3
      obtain ⟨p, h1, h⟩ := bind_some h
      obtain ⟨ie, h2, h⟩ := bind_some h
      cases h
      exact sndS_asgT (cE_ok n h2).1 (cTg_ok (n + 1) h1) (fun X F => sws_ok h3.2.1 _ _) (fun X F => by
        have := h3.2.2
        cases e <;> first | rfl | cases this) fun X F => rfl
    obtain ⟨i, h1, h⟩ := bind_some h
    obtain ⟨ie, h2, h⟩ := bind_some h
    obtain ⟨h3, h⟩ := if_some h
    cases h
    obtain ⟨t1, t2, t3⟩ := tgtOf_ok h1
    by_cases c : noComp e = true
    · exact sndS_asg (cE_ok n h2).1 fun te pe X F => ps_set (by rw [F.n]; exact F.nd) (by rw [F.n]; exact t1) (F.loc t2).1 (pe X F) (sw_ok c _ _ _) (F.loc t2).2
    · rw [Bool.or_eq_true] at h3
      have h3 := h3.resolve_left c
      cases e with
      | ListComp elt gs s lpos =>
        obtain ⟨t, pe, sa, ps⟩ := (cLc_ok (K := K) (G := G) (lv := lv) (xw := xw) h2).ex
        refine ⟨⟨tAsg t (gName i), fun X F => ?_, sat_asg sa⟩⟩
        by_cases sw : swC cc x py (.ListComp elt gs s lpos) = true
        · obtain ⟨k, q⟩ := swC_true F (l := pos.line) sw
          exact ps X F i x py pos (by rw [F.n]; exact t1) k q
        · exact ps_set (by rw [F.n]; exact F.nd) (by rw [F.n]; exact t1) (F.loc t2).1 (pe X F) (sw_false F t2 (by simpa using sw)) (F.loc t2).2
      | _ => cases h3
  · rename_i x px y py k p2
    split at h
    · rename_i a b k2 p3
      obtain ⟨i, h1, h⟩ := bind_some h
      obtain ⟨j, h2, h⟩ := bind_some h
      obtain ⟨ies, h3, h⟩ := bind_some h
      obtain ⟨h4, h⟩ := if_some h
      cases h
      obtain ⟨sl, al⟩ := cArgs_ok (K := K) (G := G) (lv := lv) (xw := xw) (fun e i h => (cE_ok n h).1) h3
      rw [List.all_cons, List.all_cons, Bool.and_eq_true, Bool.and_eq_true] at al
      have h4' := h4
      unfold parC at h4'
      simp only [Bool.and_eq_true, decide_eq_true_eq, Bool.not_eq_true', decide_eq_false_iff_not] at h4'
      obtain ⟨t1, _, _⟩ := tgtOf_ok h1
      obtain ⟨t2, _, _⟩ := tgtOf_ok h2
      have hij : i ≠ j := fun e => by
        subst e
        rw [t1] at t2
        exact h4'.1.1.1.2 (Option.some.inj t2)
      exact sndS_par sl hij fun ta pa X F => ps_par (F.calm (by simpa using h4'.1.1.1.1.1.1)) (by rw [F.n]; exact F.nd) (by rw [F.n]; exact t1) (by rw [F.n]; exact t2) hij (F.kd _ _ h4'.1.1.1.1.1.2 (by decide)) (F.kd _ _ h4'.1.1.1.1.2 (by decide)) (pa X F) (par_hw F h4 al.1 al.2.1) rfl
    · obtain ⟨p, h1, h⟩ := bind_some h
      obtain ⟨ie, h2, h⟩ := bind_some h
      obtain ⟨h3, h⟩ := if_some h
      cases h
      rw [Bool.and_eq_true] at h3
      exact sndS_asgT (cE_ok n h2).1 (cTg_ok n h1) (fun X F => sws_ok h3.1 _ _) (fun X F => by
        have := h3.2
        cases e <;> first | rfl | cases this) fun X F => rfl
  · rename_i es k p2 nn
    obtain ⟨p, h1, h⟩ := bind_some h
    obtain ⟨ie, h2, h⟩ := bind_some h
    obtain ⟨h3, h⟩ := if_some h
    cases h
    rw [Bool.and_eq_true] at h3
    exact sndS_asgT (cE_ok n h2).1 (cTg_ok n h1) (fun X F => sws_ok h3.1 _ _) (fun X F => by
      have := h3.2
      cases e <;> first | rfl | cases this) fun X F => rfl
  · rename_i x px ix p2
    obtain ⟨i, h1, h⟩ := bind_some h
    obtain ⟨iix, h2, h⟩ := bind_some h
    obtain ⟨ie, h3, h⟩ := bind_some h
    obtain ⟨h4, h⟩ := if_some h
    cases h
    rw [Bool.and_eq_true] at h4
    refine sndS_seti (cE_ok n h3).1 (cE_ok n h2).1 fun te ti pe pi X F => ?_
    exact ps_asg (pe X F) (pg_sub (slotOf_pe h1 X F) (pi X F) set_list (fun v => by
      have := h4.2
      cases ix <;> first | rfl | cases this)) (sws_ok h4.1 _ _) (by cases e <;> rfl) rfl
  · rename_i x px ix p2 jx p3
    obtain ⟨i, h1, h⟩ := bind_some h
    obtain ⟨iix, h2, h⟩ := bind_some h
    obtain ⟨ijx, h2', h⟩ := bind_some h
    obtain ⟨ie, h3, h⟩ := bind_some h
    obtain ⟨h4, h⟩ := if_some h
    cases h
    simp only [Bool.and_eq_true] at h4
    refine sndS_setij (cE_ok n h3).1 (cE_ok n h2).1 (cE_ok n h2').1 (fun te ti tj pe pi pj X F => ?_) h4.2.2.2
    exact ps_asg (pe X F) (pg_sub (pe_ixU (slotOf_pe h1) pi (ix_ok h4.2.1) X F) (pj X F) set_list (fun v => by
      have := h4.2.2.1
      cases jx <;> first | rfl | cases this)) (sws_ok h4.1 _ _) (by cases e <;> rfl) rfl
  · cases h
theorem isAppend_ok {e : Expr} {x : Str} {a : Expr} (h : isAppend e = some (x, a)) : ∃ px apos cpos, e = .Call (.Attribute (.Name x px) "append" apos) [a] [] cpos ∧ (apos.endLine == cpos.line) = true ∧ noStar a = true := by
  unfold isAppend at h
  split at h
  · obtain ⟨h1, h⟩ := if_some h
    cases h
    simp only [Bool.and_eq_true] at h1
    exact ⟨_, _, _, by rw [of_decide_eq_true h1.1.1], h1.1.2, h1.2⟩
  · cases h
theorem isExtend_ok {e : Expr} {x : Str} {a : Expr} (h : isExtend e = some (x, a)) : ∃ px apos cpos, e = .Call (.Attribute (.Name x px) "extend" apos) [a] [] cpos ∧ (apos.endLine == cpos.line) = true ∧ noStar a = true := by
  unfold isExtend at h
  split at h
  · obtain ⟨h1, h⟩ := if_some h
    cases h
    simp only [Bool.and_eq_true] at h1
    exact ⟨_, _, _, by rw [of_decide_eq_true h1.1.1], h1.1.2, h1.2⟩
  · cases h
theorem dropK {X : Cx} (h : X.K = K) {e : Expr} {r : V → List V → Hp → VK → Prop} {to : TE} {t : TA} (p : PE X e (tBM X.K "list" r to t)) : PE X e (tBM K "list" r to t) := by subst h; exact p
theorem app_ps {x : Str} {i : Nat} {a : Expr} {px apos cpos pos : Pos} {te : TE} (h1 : slotOf cc x = some i) (hl : (apos.endLine == cpos.line) = true) (hs : noStar a = true) {X : Cx} (F : FamC K G lv xw cc X) (pe : PE X a te) :
    PS X (.Expr (.Call (.Attribute (.Name x px) "append" apos) [a] [] cpos) pos) (tDrop (tBM K "list" rAppend (tVar i) (tCons te tNil))) := by
  refine ps_expr (dropK F.k (pe_bm PySem.F.plainAttrs_list PySem.F.slot_list_append (by rfl) mt_append (slotOf_pe h1 X F) (pa_cons pe pa_nil (ns_ok hs _ _)) rfl ?_ hl (ns_ok hs _ _) rfl)) rfl
  rw [ns_ok hs]
  rfl
theorem ext_ps {x : Str} {i : Nat} {a : Expr} {px apos cpos pos : Pos} {te : TE} (h1 : slotOf cc x = some i) (hl : (apos.endLine == cpos.line) = true) (hs : noStar a = true) {X : Cx} (F : FamC K G lv xw cc X) (pe : PE X a te) :
    PS X (.Expr (.Call (.Attribute (.Name x px) "extend" apos) [a] [] cpos) pos) (tDrop (tBM K "list" rExtend (tVar i) (tCons te tNil))) := by
  refine ps_expr (dropK F.k (pe_bm PySem.F.plainAttrs_list PySem.F.slot_list_extend (by rfl) mt_extend (slotOf_pe h1 X F) (pa_cons pe pa_nil (ns_ok hs _ _)) rfl ?_ hl (ns_ok hs _ _) rfl)) rfl
  rw [ns_ok hs]
  rfl
theorem ret_ok {n : Nat} {e : Expr} {ie : IE} {pos : Pos} (h : cE n cc e = some ie) : SndS (fam K G lv xw cc) G (.Return (some e) pos) (.ret ie) := by
  have s := (cE_ok (K := K) (G := G) (lv := lv) (xw := xw) n h).1
  by_cases c : ∃ i, ie = .var i
  · obtain ⟨i, rfl⟩ := c
    exact sndS_retV (s.vr i rfl)
  · exact sndS_ret s fun i z => c ⟨i, z⟩
theorem cS0_ok {f : Stmt → Option IS} (ih : ∀ s i, f s = some i → SndS (fam K G lv xw cc) G s i) (n : Nat) {st : Stmt} {is : IS} (h : cS0 f n cc st = some is) : SndS (fam K G lv xw cc) G st is := by
    have ie1 : ∀ e i, cE n cc e = some i → Snd (fam K G lv xw cc) G e i := fun e i h => (cE_ok n h).1
    cases st with
    | Expr e pos =>
      unfold cS0 at h
      simp only at h
      split at h
      · rename_i x a ea
        obtain ⟨px, apos, cpos, rfl, hl, hs⟩ := isAppend_ok ea
        obtain ⟨i, h1, h⟩ := bind_some h
        obtain ⟨ia, h2, h⟩ := bind_some h
        cases h
        exact sndS_app (ie1 _ _ h2) fun te pe X F => app_ps h1 hl hs F (pe X F)
      · split at h
        · rename_i x a ea
          obtain ⟨px, apos, cpos, rfl, hl, hs⟩ := isExtend_ok ea
          obtain ⟨i, h1, h⟩ := bind_some h
          obtain ⟨ia, h2, h⟩ := bind_some h
          cases h
          exact sndS_ext (ie1 _ _ h2) fun te pe X F => ext_ps h1 hl hs F (pe X F)
        split at h
        · cases h
          exact sndS_pass fun X F => ps_doc
        · obtain ⟨ie, h1, h⟩ := bind_some h
          obtain ⟨h2, h⟩ := if_some h
          cases h
          exact sndS_ex (ie1 _ _ h1) fun X F => sw_ok h2 _ _ _
    | Return v pos =>
      cases v with
      | none =>
        have h : some IS.retN = some is := h
        cases h
        exact sndS_retN
      | some e =>
        have h : ((cE n cc e).bind fun ie => some (IS.ret ie)) = some is := h
        obtain ⟨ie, h1, h⟩ := bind_some h
        cases h
        exact ret_ok h1
    | If c a b pos =>
      have h : ((cT (cE n cc) 40 c).bind fun ic => (cBlk (f) a).bind fun ia => (cBlk (f) b).bind fun ib => some (IS.ite ic ia ib)) = some is := h
      obtain ⟨ic, h1, h⟩ := bind_some h
      obtain ⟨ia, h2, h⟩ := bind_some h
      obtain ⟨ib, h3, h⟩ := bind_some h
      cases h
      exact sndS_ite (cT_ok (fun e i h => cE_ok n h) _ h1) (cBlk_ok ih h2) (cBlk_ok ih h3)
    | While c b o pos =>
      cases o with
      | cons _ _ => cases h
      | nil =>
        have h : ((cT (cE n cc) 40 c).bind fun ic => (cBlk (f) b).bind fun ib => if cc.top = true then some (IS.whl ic ib) else none) = some is := h
        obtain ⟨ic, h1, h⟩ := bind_some h
        obtain ⟨ib, h2, h⟩ := bind_some h
        obtain ⟨h3, h⟩ := if_some h
        cases h
        exact sndS_whl (fun X F => F.po h3) (cT_ok (fun e i h => cE_ok n h) _ h1) (cBlk_ok ih h2)
    | For tg iter b o pos =>
      cases o with
      | cons _ _ => cases h
      | nil =>
        have h : ((cTg cc n tg).bind fun p => (cIter (cE n cc) cc tg iter).bind fun it => (cBlk (f) b).bind fun ib => if (cc.top && !cc.hot) = true then some (IS.for p it ib) else none) = some is := h
        obtain ⟨p, h1, h⟩ := bind_some h
        obtain ⟨it, h2, h⟩ := bind_some h
        obtain ⟨ib, h3, h⟩ := bind_some h
        obtain ⟨h4, h⟩ := if_some h
        cases h
        rw [Bool.and_eq_true] at h4
        have nh : cc.hot = false := by simpa using h4.2
        exact sndS_for (fun X F => F.po h4.1) (fun X F => F.calm nh) (cIter_ok ie1 h2) (cTg_ok n h1) (cBlk_ok ih h3)
    | Break pos =>
      have h : some IS.brk = some is := h
      cases h
      exact sndS_brk
    | Continue pos =>
      have h : some IS.cont = some is := h
      cases h
      exact sndS_cont
    | Pass pos =>
      have h : some IS.pass = some is := h
      cases h
      exact sndS_pass fun X F => ps_pass
    | Assign ts e pos =>
      match ts, h with
      | [], h => cases h
      | [tg], h => exact cAsg_ok h
      | _ :: _ :: _, h => cases h
    | AugAssign tg op e pos =>
      cases tg with
      | Name x px =>
        have h : ((tgtOf cc x).bind fun i => (cE n cc e).bind fun ie => (augOp op).bind fun p => some (IS.aug i p ie)) = some is := h
        obtain ⟨i, h1, h⟩ := bind_some h
        obtain ⟨ie, h2, h⟩ := bind_some h
        obtain ⟨p, h3, h⟩ := bind_some h
        cases h
        obtain ⟨ti, sa, pi⟩ := augOp_ok h3
        obtain ⟨t1, t2, t3⟩ := tgtOf_ok h1
        exact sndS_aug (ie1 _ _ h2) sa fun te pe X F => ps_aug (by rw [F.n]; exact F.nd) (by rw [F.n]; exact t1) (F.loc t2).1 (pe X F) (pi X) (F.loc t2).2
      | Subscript o ix p2 =>
        cases o with
        | Name x px =>
          have h : ((slotOf cc x).bind fun i => (cE n cc ix).bind fun iix => (cE n cc e).bind fun ie => (augOp op).bind fun p => if noSlice ix = true then some (IS.augi i p iix ie) else none) = some is := h
          obtain ⟨i, h1, h⟩ := bind_some h
          obtain ⟨iix, h2, h⟩ := bind_some h
          obtain ⟨ie, h3, h⟩ := bind_some h
          obtain ⟨p, h4, h⟩ := bind_some h
          obtain ⟨h5, h⟩ := if_some h
          cases h
          obtain ⟨ti, sa, pi⟩ := augOp_ok h4
          exact sndS_augi (ie1 _ _ h3) (ie1 _ _ h2) sa fun te tj pe pj X F => ps_augS (slotOf_pe h1 X F) (pj X F) (setK F.k get_list) (pe X F) (pi X) set_list (fun _ _ _ => by
            cases ix <;> first | rfl | cases h5)
        | _ => cases h
      | _ => cases h
    | _ => cases h
theorem FamC.tr {X : Cx} (F : FamC K G lv xw cc X) (nh : cc.hot = false) {W : WX} {pn : List (Addr × Obj)} {xe : Value → Shared → Prop} (tk : L2N.Takes (X.tr pn xe) W) (po : PassesOwn (model X.prog X.w) X.A X.env xe) : FamC K G lv ⟨xw.ca, W⟩ { cc with rs := true, ex := none } (X.tr pn xe) where
  k := F.k
  calm := F.calm
  n := F.n
  nd := F.nd
  kd := F.kd
  kf := F.kf
  fn := F.fn
  room := F.room
  roomH := F.roomH
  hotc := fun h => absurd (nh.symm.trans h) (by decide)
  fns := fun h x j mu na h2 => ⟨(F.fns h x j mu na h2).ex⟩
  fnsH := fun h x j mu na h2 => ⟨(F.fnsH h x j mu na h2).ex⟩
  hfs := fun x j mu na h2 => ⟨(F.hfs x j mu na h2).ex⟩
  fnsX := fun h x j mu na h2 => ⟨(F.fnsX h x j mu na h2).ex⟩
  xc := fun c x ns l h => by
    have T := F.xc c x ns l h
    exact ⟨T.mg, T.xf, T.cl, T.ha, T.hn, T.ht, T.hm, T.no, T.is_, T.em, T.iv, T.ini⟩
  hx := fun x h => nomatch h
  tk := fun _ => tk
  st := F.st
  cs := F.cs
  bt := F.bt
  im := F.im
  kind := F.kind
  po := fun _ => po
theorem FamC.su {X : Cx} (F : FamC K G lv xw cc X) {i : Nat} {nm : Str} (hi : cc.N[i]? = some nm) {a d : Addr} {oe : Obj} {c : Nat} {ns : List Str} {vs : List PV} {pn : List (Addr × Obj)} (hc : c < cc.xc.length) (hz : L2N.Zn (.ref (xw.ca c)) (some d) oe) (hf : ∃ ws, oe.data = .fields ws) :
    FamC K ⟨G.g, some ⟨i, a, d, c, ns, vs⟩⟩ lv ⟨xw.ca, fun _ _ _ _ => True⟩ { cc with hot := true, rs := false, ex := some nm, fns := cc.hfs, xf := [] } (X.suite a ((a, oe) :: pn)) where
  k := F.k
  calm := fun h => nomatch h
  n := F.n
  nd := F.nd
  kd := F.kd
  kf := F.kf
  fn := F.fn
  room := fun h => nomatch h
  roomH := ⟨F.roomH.dp, F.roomH.un⟩
  hotc := fun _ => by
    obtain ⟨ws, hd⟩ := hf
    exact ⟨(a, oe), ⟨rfl, ws, hd, hz.2.2 ws hd⟩, List.mem_cons_self⟩
  fns := fun h => nomatch h
  fnsH := fun _ x j mu na h2 => ⟨(F.hfs x j mu na h2).ex⟩
  hfs := fun x j mu na h2 => ⟨(F.hfs x j mu na h2).ex⟩
  fnsX := fun h => nomatch h
  xc := fun c x ns l h => by
    have T := F.xc c x ns l h
    exact ⟨T.mg, T.xf, T.cl, T.ha, T.hn, T.ht, T.hm, T.no, T.is_, T.em, T.iv, T.ini⟩
  hx := fun x h => by
    cases h
    exact ⟨⟨i, a, d, c, ns, vs⟩, rfl, hi, hc, X, oe, pn, rfl, ⟨hz.1, hz.2.1⟩, hf⟩
  tk := fun h => nomatch h
  st := F.st
  cs := F.cs
  bt := F.bt
  im := F.im
  kind := F.kind
  po := fun _ => PassesOwn.never
theorem cX_ok {g : Expr → Option IE} (hg : ∀ e i, g e = some i → Snd (fam K G lv xw cc) G e i) {e : Expr} {ie : IE} (h : cX g cc e = some ie) : SndX (fam K G lv xw cc) G e ie ∧ cc.rs = true ∧ cc.hot = false := by
  unfold cX at h
  split at h
  rotate_left
  · cases h
  rename_i x px a as pos
  split at h
  rotate_left
  · cases h
  rename_i j mu na e
  obtain ⟨h1, h⟩ := if_some h
  obtain ⟨is, h2, h⟩ := bind_some h
  cases h
  simp only [Bool.and_eq_true, Bool.not_eq_true'] at h1
  obtain ⟨⟨⟨⟨c1, c2⟩, c3⟩, c4⟩, c5⟩ := h1
  have o := okName_ok c4
  obtain ⟨_, al⟩ := cArgs_ok hg h2
  rw [List.all_cons, Bool.and_eq_true] at al
  exact ⟨sndX_call (lv := lv) (fun X F => F.fnsX c2 x j mu na e) (fun X F => F.tk c1) (fun X F => F.room c2) (fun X F => F.gl c3) (cArgsM_ok hg h2 c5) (fun X _ es => ns_ok al.1 es X.env) (fun X _ pos => nst_ok al.2) o.1, c1, c2⟩
theorem cSx_ok {f : CC → Stmt → Option IS} {g : Expr → Option IE} (hg : ∀ e i, g e = some i → Snd (fam K G lv xw cc) G e i) (hf : ∀ (G : GE) (xw : XW) (cc : CC) s i, f cc s = some i → SndS (fam K G lv xw cc) G s i) {st : Stmt} {is : IS} (h : cSx f g cc st = some is) : SndS (fam K G lv xw cc) G st is := by
  unfold cSx at h
  split at h
  · obtain ⟨ie, h1, h⟩ := bind_some h
    obtain ⟨h2, h⟩ := if_some h
    cases h
    exact dropX_ok (cX_ok hg h1).1 fun X F => sw_ok h2 _ _ _
  · obtain ⟨ie, h1, h⟩ := bind_some h
    cases h
    exact retX_ok (cX_ok hg h1).1
  · obtain ⟨i, h0, h⟩ := bind_some h
    obtain ⟨ie, h1, h⟩ := bind_some h
    obtain ⟨h2, h⟩ := if_some h
    cases h
    obtain ⟨t1, t2, t3⟩ := tgtOf_ok h0
    exact asgX_ok (cX_ok hg h1).1 fun te pe X F => ps_set (by rw [F.n]; exact F.nd) (by rw [F.n]; exact t1) (F.loc t2).1 (pe X F) (sw_ok h2 _ _ _) (F.loc t2).2
  · obtain ⟨ie, h1, h⟩ := bind_some h
    obtain ⟨ib, h2, h⟩ := bind_some h
    cases h
    exact nnX_ok (cX_ok hg h1).1 (cBlk_ok (hf G xw cc) h2)
  · rename_i x px a as p2 pos
    obtain ⟨⟨c, ns, l⟩, h0, h⟩ := bind_some h
    obtain ⟨ies, h1, h⟩ := bind_some h
    obtain ⟨h2, h⟩ := if_some h
    cases h
    simp only [Bool.and_eq_true, Bool.not_eq_true', decide_eq_true_eq] at h2
    obtain ⟨⟨⟨⟨⟨c1, c2⟩, c3⟩, c4⟩, c5⟩, c6⟩ := h2
    have o := okName_ok c5
    have hcl := (clsAt_ok h0).2
    rw [Nat.sub_zero] at hcl
    obtain ⟨sl, al⟩ := cArgs_ok hg h1
    rw [List.all_cons, Bool.and_eq_true] at al
    refine raise_ok (lv := lv) c6 sl (fun X _ es => ns_ok al.1 es X.env) (fun X _ pos => nst_ok al.2) (fun X F => F.gl c4) o.1 (fun X F => F.calm c2) (fun X F => F.tk c1) (fun X F => F.room c2) fun X F => ?_
    have T := F.xc _ _ _ _ hcl
    obtain ⟨t1, t2⟩ := T.ini fun z => by rw [z] at c3; cases c3
    exact ⟨T.mg, t1, t2⟩
  · rename_i body x px nm b0 suite pos' pos
    obtain ⟨h0, h⟩ := if_some h
    simp only [Bool.and_eq_true, Bool.not_eq_true', decide_eq_true_eq] at h0
    obtain ⟨⟨⟨⟨c1, c2⟩, c3⟩, c4⟩, c5⟩ := h0
    obtain ⟨⟨c, ns, l⟩, h1, h⟩ := bind_some h
    obtain ⟨i, h2, h⟩ := bind_some h
    obtain ⟨b, h3, h⟩ := bind_some h
    obtain ⟨hd, h4, h⟩ := bind_some h
    cases h
    obtain ⟨t1, t2, t3⟩ := tgtOf_ok h2
    have o := okName_ok c4
    have hcl := (clsAt_ok h1).2
    rw [Nat.sub_zero] at hcl
    exact try_ok (M := fam K G lv xw cc) (cV := .ref (xw.ca c)) (fun X F => F.st c1) (fun X F => ⟨by rw [F.n]; exact F.nd, by rw [F.n]; exact t1, F.kd _ _ c5 (by decide)⟩) (fun X F => ⟨F.gl c3, o.1, .inl (F.xc _ _ _ _ hcl).mg⟩) (fun X F c hc => (F.xc _ _ _ _ hcl).em c hc) (fun h X F => F.tk h)
      (fun W => fam K G lv ⟨xw.ca, W⟩ { cc with rs := true, ex := none }) (fun W => rfl) (fun X F W pn xe tk po => F.tr c2 tk po) (fun W => cBlk_ok (hf G ⟨xw.ca, W⟩ { cc with rs := true, ex := none }) h3)
      (fun a d c ns vs => fam K ⟨G.g, some ⟨i, a, d, c, ns, vs⟩⟩ lv ⟨xw.ca, fun _ _ _ _ => True⟩ { cc with hot := true, rs := false, ex := some nm, fns := cc.hfs, xf := [] }) (fun a d c ns vs => rfl) (fun X F a oe d c ns vs pn hc hz hf => F.su t1 hc hz hf)
      (fun a d c ns vs => cBlk_ok (hf _ _ _) h4)
  · cases h
theorem cS_ok : ∀ (n : Nat) {G : GE} {xw : XW} {cc : CC} {st : Stmt} {is : IS}, cS n cc st = some is → SndS (fam K G lv xw cc) G st is
  | 0, _, _, _, _, _, h => nomatch h
  | n + 1, G, xw, cc, st, is, h => by
    unfold cS at h
    split at h
    · rename_i e
      cases h
      exact cSx_ok (fun e i h => (cE_ok n h).1) (fun G xw cc s i h => cS_ok n h) e
    · exact cS0_ok (fun s i h => cS_ok n h) n h
end
end VI
namespace VI
open PySem PySem.Spec PyProof.Rows L2

section
variable {K : PySem.W.Frag} {H H' : Hp} {F : Addr → Prop} {fr fr' : Fr} {σ σ' : L2.St} {fp fp' : FP}
theorem FR.pad (g : FR K H F fr σ fp) (k : Nat) : FR K H F (fr ++ List.replicate k none) (σ ++ List.replicate k none) fp where
  len := by rw [List.length_append, List.length_append, g.len, List.length_replicate, List.length_replicate]
  slot := fun i s e => by
    by_cases q : i < fr.length
    · rw [List.getElem?_append_left q] at e
      obtain ⟨x, ex, r⟩ := g.slot i s e
      exact ⟨x, by rw [List.getElem?_append_left (by rw [g.len]; exact q)]; exact ex, r⟩
    · rw [List.getElem?_append_right (by omega), List.getElem?_replicate] at e
      split at e <;> cases e
  emp := fun i h => g.emp i fun s e => h s (by rw [List.getElem?_append_left (lt_of_some e)]; exact e)
  nd := g.nd
  disj := g.disj
  amb := g.amb
def mutOk (mu : List Nat) (is : ISs) : Bool := (List.range mu.length).all fun i => decide (mu[i]? = some 0) || (!(asgdSs is).contains i && !(retdSs is).contains i)
theorem mutOk_ok {mu : List Nat} {is : ISs} (h : mutOk mu is = true) {i : Nat} (hi : i < mu.length) (m0 : mu[i]? ≠ some 0) : i ∉ asgdSs is ∧ i ∉ retdSs is := by
  have := List.all_eq_true.mp h i (List.mem_range.mpr hi)
  rw [Bool.or_eq_true] at this
  rcases this with z | z
  · exact absurd (of_decide_eq_true z) m0
  · simpa using z
theorem argFr_get : ∀ {mu : List Nat} {args : List PV} {i : Nat} {s : Sl}, (argFr mu args)[i]? = some (some s) → mu[i]? = some s.m
  | [], args, i, s, h => by cases args <;> simp [argFr] at h
  | m :: mu, [], i, s, h => by simp [argFr] at h
  | m :: mu, v :: vs, 0, s, h => by
    simp [argFr] at h
    subst h
    rfl
  | m :: mu, v :: vs, i + 1, s, h => by
    have h : (argFr mu vs)[i]? = some (some s) := h
    exact argFr_get (i := i) h
theorem argFr_len : ∀ {mu : List Nat} {args : List PV}, args.length = mu.length → (argFr mu args).length = mu.length
  | [], [], _ => rfl
  | m :: mu, v :: vs, h => by
    show (argFr mu vs).length + 1 = mu.length + 1
    rw [argFr_len (by simpa using h)]
theorem outsOf_get : ∀ {mu : List Nat} {n : Nat} {fr : Fr} {outs : List PV} {i : Nat} {s : Sl}, outsOf n mu fr = some outs → (outFr mu outs)[i]? = some (some s) → ∃ s0, fr[n + i]? = some (some s0) ∧ s0.m = s.m ∧ s0.v = s.v ∧ mu[i]? = some s.m ∧ s.m ≠ 0
  | [], n, fr, outs, i, s, h, e => by simp [outFr] at e
  | m :: mu, n, fr, outs, i, s, h, e => by
    unfold outsOf at h
    cases hr : outsOf (n + 1) mu fr with
    | none => rw [hr] at h; cases h
    | some r =>
    rw [hr] at h
    simp only [Option.bind_some] at h
    by_cases m0 : m = 0
    · rw [if_pos m0] at h
      cases h
      cases i with
      | zero => simp [outFr, m0] at e
      | succ i =>
        have e : (outFr mu outs)[i]? = some (some s) := by simpa [outFr, m0] using e
        obtain ⟨s0, h1, h2, h3, h4, h5⟩ := outsOf_get hr e
        exact ⟨s0, by rw [show n + (i + 1) = n + 1 + i by omega]; exact h1, h2, h3, h4, h5⟩
    · rw [if_neg m0] at h
      split at h
      case h_2 => cases h
      rename_i s1 es
      split at h
      case isFalse => cases h
      rename_i em
      cases h
      cases i with
      | zero =>
        have e : (some ⟨m, true, s1.v⟩ : Option Sl) = some s := by simpa [outFr, m0] using e
        cases e
        exact ⟨s1, es, em, rfl, rfl, m0⟩
      | succ i =>
        have e : (outFr mu r)[i]? = some (some s) := by simpa [outFr, m0] using e
        obtain ⟨s0, h1, h2, h3, h4, h5⟩ := outsOf_get hr e
        exact ⟨s0, by rw [show n + (i + 1) = n + 1 + i by omega]; exact h1, h2, h3, h4, h5⟩
theorem outFr_len : ∀ {mu : List Nat} {outs : List PV}, (outFr mu outs).length = mu.length
  | [], _ => rfl
  | m :: mu, outs => by
    unfold outFr
    split <;> simp [outFr_len]
/-- which of a def's places are changed in place -/
def fpOut (mu : List Nat) (fp : FP) : FP := fun i => match mu[i]? with
  | some 0 => []
  | none => []
  | _ => fp i
theorem fpOut_sub {mu : List Nat} {i : Nat} {a : Addr} (h : a ∈ fpOut mu fp i) : a ∈ fp i ∧ ∃ m, mu[i]? = some m ∧ m ≠ 0 := by
  unfold fpOut at h
  split at h
  · cases h
  · cases h
  · rename_i n1 n2
    cases e : mu[i]? with
    | none => exact absurd e n2
    | some m => exact ⟨h, m, rfl, fun z => n1 (by rw [e, z])⟩
theorem fpOut_of {mu : List Nat} {i m : Nat} (h : mu[i]? = some m) (m0 : m ≠ 0) : fpOut mu fp i = fp i := by
  unfold fpOut
  rw [h]
  split
  · rename_i q; cases q; exact absurd rfl m0
  · rename_i q; cases q
  · rfl
end

section
variable {K : PySem.W.Frag} {G : GE}
theorem def_satX {xw : XW} {mu : List Nat} {is : ISs} {t : TS} {n : Nat} (hs : SatS K xw (evSs G is) (mutdSs is) (asgdSs is) (retdSs is) t) (ok : mutOk mu is = true) (hl : mu.length ≤ n) {vs : List V} {H : Hp} {Q : VK} {E : XK}
    (hE : ∀ cls d σ H, E cls d H → xw.W cls d σ H) (h : spX K xw.ca mu (denOf G n mu is) vs H Q E) : t { nx := fun _ H' => Q .non H', rt := Q } (vs.map some ++ List.replicate (n - vs.length) none) H := by
  obtain ⟨hv, args, F, fp, v, m, outs, ed, g, q, qx⟩ := h
  unfold denOf at ed
  split at ed
  case isFalse => cases ed
  rename_i ha
  cases ee : evSs G is (initFr n mu args) with
  | none => rw [ee] at ed; cases ed
  | some pr =>
  obtain ⟨fr', fl⟩ := pr
  rw [ee] at ed
  simp only [Option.bind_some] at ed
  cases eo : outsOf 0 mu fr' with
  | none => rw [eo] at ed; cases ed
  | some os =>
  rw [eo] at ed
  simp only [Option.bind_some] at ed
  have gp : FR K H F (initFr n mu args) (vs.map some ++ List.replicate (n - vs.length) none) fp := by
    have := g.pad (n - mu.length)
    rw [hv]
    exact this
  have al := argFr_len ha
  have fp0 : ∀ i, (∀ m, mu[i]? = some m → m = 0) → fp i = [] := fun i hi => by
    cases e : (argFr mu args)[i]? with
    | none => exact g.emp i fun s z => by rw [e] at z; cases z
    | some o =>
      cases o with
      | none => exact g.emp i fun s z => by rw [e] at z; cases z
      | some s =>
        obtain ⟨x, _, r⟩ := g.slot i s e
        have m0 := hi _ (argFr_get e)
        rw [m0, RM.zero] at r
        exact r.1
  -- what the caller is told
  have fin : ∀ {P : Prop} x σ' H' fp' fo v m, ExR K H F (vs.map some ++ List.replicate (n - vs.length) none) fp (mutdSs is) (asgdSs is) (retdSs is) H' fr' σ' fp' fo v m x →
      (∀ fp2, FR K H' (plus F fo) (outFr mu os) (vs.map some) fp2 → StepD (List.range mu.length) H fp H' fp2 → (∀ b ∈ fo, H b = none) → OR K H' F fp2 ⟨v, m, [], false⟩ x fo → (∀ a, Ow F fp2 a → Ow F fp' a) → P) → P := by
    intro P x σ' H' fp' fo v m ex q
    have sub : ∀ a, Ow (plus F fo) (fpOut mu fp') a → Ow (plus F fo) fp' a := fun a z => z.imp id fun ⟨i, z⟩ => ⟨i, (fpOut_sub z).1⟩
    refine q (fpOut mu fp') ⟨?_, fun i s e => ?_, fun i hi => ?_, fun i => ?_, fun i j a ha hb => ex.hf.disj i j a (fpOut_sub ha).1 (fpOut_sub hb).1, fun a ha => ⟨(ex.hf.amb a ha).1, fun i hi => (ex.hf.amb a ha).2 i (fpOut_sub hi).1⟩⟩
      ⟨fun b o eb nb => ex.st.eff b o eb fun i hi hb => ?_, fun i a ha => ex.st.sub i a (fpOut_sub ha).1, ex.st.there⟩ (fun b hb => ?_) ⟨ex.od.rep.mono fun a z => ?_, ex.od.nd, fun b hb z => ex.od.ap b hb (z.imp id fun ⟨i, z⟩ => ⟨i, (fpOut_sub z).1⟩), fun z => nomatch z⟩ (fun a z => z.imp id fun ⟨i, z⟩ => ⟨i, (fpOut_sub z).1⟩)
    · rw [List.length_map, hv, outFr_len]
    · obtain ⟨s0, h1, h2, h3, h4, h5⟩ := outsOf_get eo e
      rw [Nat.zero_add] at h1
      obtain ⟨y, ey, r⟩ := ex.hf.slot i s0 h1
      have il : i < mu.length := lt_of_some h4
      have na := (mutOk_ok ok il (by rw [h4]; simpa using h5)).1
      rw [ex.keep i na, List.getElem?_append_left (by rw [List.length_map, hv]; exact il)] at ey
      refine ⟨y, ey, ?_⟩
      rw [fpOut_of h4 h5, ← h2, ← h3]
      exact r.mono sub
    · cases e : fpOut mu fp' i with
      | nil => rfl
      | cons a l =>
        obtain ⟨h1, m1, h2, h3⟩ := fpOut_sub (mu := mu) (fp := fp') (i := i) (a := a) (by rw [e]; exact List.mem_cons_self)
        -- the slot stands at the end
        exfalso
        have il : i < mu.length := lt_of_some h2
        have : ∃ s, (outFr mu os)[i]? = some (some s) := by
          have key : ∀ {mu : List Nat} {n : Nat} {os : List PV} {i m1 : Nat}, outsOf n mu fr' = some os → mu[i]? = some m1 → m1 ≠ 0 → ∃ s, (outFr mu os)[i]? = some (some s) := by
            intro mu
            induction mu with
            | nil => intro n os i m1 _ h; cases h
            | cons m mu ih =>
              intro n os i m1 h hm h0
              unfold outsOf at h
              cases hr : outsOf (n + 1) mu fr' with
              | none => rw [hr] at h; cases h
              | some r =>
              rw [hr] at h
              simp only [Option.bind_some] at h
              by_cases m0 : m = 0
              · rw [if_pos m0] at h
                cases h
                cases i with
                | zero => simp [m0] at hm; exact absurd hm.symm h0
                | succ i =>
                  obtain ⟨s, es⟩ := ih hr (by simpa using hm) h0
                  exact ⟨s, by simpa [outFr, m0] using es⟩
              · rw [if_neg m0] at h
                split at h
                case h_2 => cases h
                rename_i s1 es1
                split at h
                case isFalse => cases h
                cases h
                cases i with
                | zero => exact ⟨⟨m, true, s1.v⟩, by simp [outFr, m0]⟩
                | succ i =>
                  obtain ⟨s, es⟩ := ih hr (by simpa using hm) h0
                  exact ⟨s, by simpa [outFr, m0] using es⟩
          exact key eo h2 h3
        obtain ⟨s, es⟩ := this
        exact hi s es
    · cases e : mu[i]? with
      | none => unfold fpOut; rw [e]; exact .nil
      | some m =>
        by_cases m0 : m = 0
        · unfold fpOut; rw [e, m0]; exact .nil
        · rw [fpOut_of e m0]; exact ex.hf.nd i
    · by_cases il : i < mu.length
      · exact nb i (List.mem_range.mpr il) hb
      · rw [fp0 i fun m hm => absurd (lt_of_some hm) il] at hb
        cases hb
    · rcases ex.nw b hb with z | ⟨i, hi, z⟩
      · exact z
      · exfalso
        by_cases c : ∃ m, mu[i]? = some m ∧ m ≠ 0
        · obtain ⟨m, h1, h2⟩ := c
          exact (mutOk_ok ok (lt_of_some h1) (by rw [h1]; simpa using h2)).2 hi
        · rw [fp0 i fun m hm => Classical.byContradiction fun q => c ⟨m, hm, q⟩] at z
          cases z
    · exact z.imp id fun ⟨i, z, n⟩ => ⟨i, (fpOut_sub z).1, n⟩
  refine hs _ _ H F fp fr' fl gp ee _ ?_
  cases fl with
  | next =>
    cases ed
    exact fun σ' H' fp' ex => fin .non σ' H' fp' [] .non 0 ⟨ex.hf.plusNil, ex.st, ex.keep, ex.len, fun _ z => (nomatch z), OR.non⟩ fun fp2 a b c d _ => q _ _ _ _ a b c d
  | brk => cases ed
  | cont => cases ed
  | ret v m =>
    cases ed
    refine ⟨fun x σ' H' fp' fo ex => fin x σ' H' fp' fo _ _ ex fun fp2 a b c d _ => q _ _ _ _ a b c d, fun c ns ws e σ' H' fp' d ex n1 n2 hd => ?_⟩
    exact fin .non σ' H' fp' [] .non 0 ⟨ex.hf.plusNil, ex.st, ex.keep, ex.len, fun _ z => (nomatch z), OR.non⟩ fun fp2 a b _ _ sub => hE _ _ _ _ (qx c ns ws e H' fp2 d a b n1 (fun z => n2 (sub _ z)) hd)
theorem def_sat {xw : XW} {mu : List Nat} {is : ISs} {t : TS} {n : Nat} (hs : SatS K xw (evSs G is) (mutdSs is) (asgdSs is) (retdSs is) t) (hW : xw.W = fun _ _ _ _ => True) (ok : mutOk mu is = true) (hl : mu.length ≤ n) {vs : List V} {H : Hp} {Q : VK} {E : XK}
    (h : spI K mu (denOf G n mu is) vs H Q E) : t { nx := fun _ H' => Q .non H', rt := Q } (vs.map some ++ List.replicate (n - vs.length) none) H := by
  obtain ⟨hv, args, F, fp, v, m, outs, ed, g, q⟩ := h
  exact def_satX (E := fun _ _ _ => True) hs ok hl (fun _ _ _ _ _ => by rw [hW]; trivial) ⟨hv, args, F, fp, v, m, outs, ed, g, q, fun _ _ _ _ _ _ _ _ _ _ _ _ => trivial⟩
end
end VI
namespace VI
open PySem PySem.Spec PyProof.Rows L2

/-- a def of the table, as its callers find it -/
structure DefX (P : Program) (w : World) (K : PySem.W.Frag) (mg : Str → Option Value) (base : Heap) (lv : Nat) (x : Str) (mu : List Nat) (den : Den) : Prop where
  ex : ∃ (f : Addr) (fd : FuncData) (ps : List Str) (k : Nat), FnOk P w K mg base CX0 k f fd ps (spI K mu den) ∧ k ≤ lv ∧ mg x = some (.ref f) ∧ PySem.W.keepIn K (.ref f) = true ∧ Binds K fd ps []
section
variable {P : Program} {w : World} {K : PySem.W.Frag} {mg : Str → Option Value} {base : Heap} {lv : Nat} {G : GE}
def CsOk (mg : Str → Option Value) : List (Str × PV) → Prop
  | [] => True
  | (x, v) :: r => (∃ u y, mg x = some u ∧ RelV y u ∧ ∀ (K : PySem.W.Frag) H O, R K H O v y) ∧ CsOk mg r
theorem CsOk.get : ∀ {l : List (Str × PV)} {x : Str} {v : PV}, CsOk mg l → l.lookup x = some v → ∃ u y, mg x = some u ∧ RelV y u ∧ ∀ (K : PySem.W.Frag) H O, R K H O v y
  | [], x, v, _, h => nomatch h
  | (y, z) :: r, x, v, c, h => by
    rw [List.lookup_cons] at h
    cases e : x == y with
    | true =>
      rw [e] at h
      have e : x = y := by simpa using e
      cases h
      subst e
      exact c.1
    | false =>
      rw [e] at h
      exact CsOk.get c.2 h
def BtOk (mg : Str → Option Value) : List Str → Prop
  | [] => True
  | x :: r => mg x = none ∧ BtOk mg r
theorem BtOk.get : ∀ {l : List Str} {x : Str}, BtOk mg l → x ∈ l → mg x = none
  | y :: r, x, c, h => by
    rcases List.mem_cons.mp h with e | h
    · rw [e]; exact c.1
    · exact BtOk.get c.2 h
/-- a def of the table that may raise -/
structure DefR (P : Program) (w : World) (K : PySem.W.Frag) (mg : Str → Option Value) (base : Heap) (ca : Nat → Addr) (lv : Nat) (x : Str) (mu : List Nat) (den : Den) : Prop where
  ex : ∃ (f : Addr) (fd : FuncData) (ps : List Str) (k : Nat), FnOk P w K mg base (L2N.CX P w) k f fd ps (spX K ca mu den) ∧ k ≤ lv ∧ mg x = some (.ref f) ∧ PySem.W.keepIn K (.ref f) = true ∧ Binds K fd ps []
/-- a def of the table that may be called where an exception is handled -/
structure DefH (P : Program) (w : World) (K : PySem.W.Frag) (mg : Str → Option Value) (base : Heap) (lv : Nat) (x : Str) (mu : List Nat) (den : Den) : Prop where
  ex : ∃ (f : Addr) (fd : FuncData) (ps : List Str) (k : Nat), L2H.FnH P w K mg base CX0 k f fd ps (spI K mu den) ∧ k ≤ lv ∧ mg x = some (.ref f) ∧ PySem.W.keepIn K (.ref f) = true ∧ Binds K fd ps []
theorem DefR.mono {ca : Nat → Addr} {x : Str} {mu : List Nat} {den : Den} {l2 : Nat} (h : DefR P w K mg base ca lv x mu den) (hl : lv ≤ l2) : DefR P w K mg base ca l2 x mu den := by
  obtain ⟨f, fd, ps, k, a, b, c⟩ := h.ex
  exact ⟨f, fd, ps, k, a, Nat.le_trans b hl, c⟩
theorem DefH.mono {x : Str} {mu : List Nat} {den : Den} {l2 : Nat} (h : DefH P w K mg base lv x mu den) (hl : lv ≤ l2) : DefH P w K mg base l2 x mu den := by
  obtain ⟨f, fd, ps, k, a, b, c⟩ := h.ex
  exact ⟨f, fd, ps, k, a, Nat.le_trans b hl, c⟩
/-- rows of a table by name -/
def RowsOk (D : Str → List Nat → Den → Prop) (G : GE) : List (Str × (Nat × List Nat × Bool)) → Prop
  | [] => True
  | (x, (j, mu, _)) :: r => D x mu (G j) ∧ RowsOk D G r
theorem RowsOk.get {D : Str → List Nat → Den → Prop} : ∀ {l : List (Str × (Nat × List Nat × Bool))} {x : Str} {j : Nat} {mu : List Nat} {na : Bool}, RowsOk D G l → l.lookup x = some (j, mu, na) → D x mu (G j)
  | [], x, j, mu, na, _, h => nomatch h
  | (y, (i, m, b)) :: r, x, j, mu, na, c, h => by
    rw [List.lookup_cons] at h
    cases e : x == y with
    | true =>
      rw [e] at h
      have e : x = y := by simpa using e
      cases h
      subst e
      exact c.1
    | false =>
      rw [e] at h
      exact RowsOk.get c.2 h
/-- what the written part says of an exception's class -/
structure ClsOk (K : PySem.W.Frag) (mg : Str → Option Value) (ca : Nat → Addr) (n : Nat) (xa : List Str) (x : Str) (l : List Nat) (C : Addr) : Prop where
  mg : mg x = some (.ref C)
  xf : XfC K C
  cl : (PySem.W.clsIn K C).isSome = true
  ha : PySem.W.findIn K (.ref C) "__class__" = some (some (.builtin "object.__class__"))
  hn : PySem.W.specialIn K (.builtin "object.__class__") "__get__" = some (some (.builtin "getset_descriptor.__get__"))
  ht : PySem.W.takesIn K (.builtin "object.__class__") = some true
  hm : PySem.W.mroIn K C (.type "object") = some true
  no : ∀ f ∈ xa, PySem.W.findIn K (.ref C) f = some none
  is_ : ∀ c, c < n → PySem.W.kitOne K (.ref (ca c)) (.ref C) = some (l.contains c)
  em : ∀ c, c < n → PySem.W.exmOne K (.ref (ca c)) (.ref C) = some (l.contains c)
  iv : PySem.W.kitOne K (.ref C) (.type "ValueError") = some true
/-- .. and of its __init__ -/
structure IniOk (P : Program) (w : World) (K : PySem.W.Frag) (mg : Str → Option Value) (base : Heap) (ns : List Str) (C : Addr) : Prop where
  ex : OexC K C ∧ ∃ fI fd ps, PySem.W.findIn K (.ref C) "__init__" = some (some (.ref fI)) ∧ PySem.W.typeIn K (.ref fI) = some (.type "function") ∧ FnOk P w K mg base CX0 1 fI fd ps (spIni C ns) ∧ Binds K fd ps []
def XcOk (P : Program) (w : World) (K : PySem.W.Frag) (mg : Str → Option Value) (base : Heap) (ca : Nat → Addr) (n : Nat) (xa : List Str) : Nat → List (Str × List Str × List Nat) → Prop
  | _, [] => True
  | k, (x, ns, l) :: r => (ClsOk K mg ca n xa x l (ca k) ∧ (ns ≠ [] → IniOk P w K mg base ns (ca k))) ∧ XcOk P w K mg base ca n xa (k + 1) r
theorem XcOk.get {ca : Nat → Addr} {n : Nat} {xa : List Str} : ∀ {r : List (Str × List Str × List Nat)} {k c : Nat} {x : Str} {ns : List Str} {l : List Nat}, XcOk P w K mg base ca n xa k r → r[c]? = some (x, ns, l) → ClsOk K mg ca n xa x l (ca (k + c)) ∧ (ns ≠ [] → IniOk P w K mg base ns (ca (k + c)))
  | [], _, _, _, _, _, _, h => by simp at h
  | (x, ns, l) :: r, k, 0, _, _, _, h, e => by
    cases e
    exact h.1
  | (x, ns, l) :: r, k, c + 1, _, _, _, h, e => by
    have := XcOk.get (c := c) h.2 e
    rw [show k + 1 + c = k + (c + 1) by omega] at this
    exact this
/-- all that a def's text may lean on -/
structure Tb (P : Program) (w : World) (K : PySem.W.Frag) (mg : Str → Option Value) (base : Heap) (k : Nat) (G : GE) (ca : Nat → Addr) (cc : CC) : Prop where
  f : RowsOk (DefX P w K mg base k) G cc.fns
  c : CsOk mg cc.cs
  b : BtOk mg cc.bt
  i : ∀ x ∈ cc.im, mg x = some (.builtin "math.gcd")
  xf : RowsOk (DefR P w K mg base ca k) G cc.xf
  hf : RowsOk (DefH P w K mg base k) G cc.hfs
  xc : XcOk P w K mg base ca cc.xc.length cc.xa 0 cc.xc
  k1 : cc.xc ≠ [] → 2 ≤ k
theorem Tb.cls {k : Nat} {ca : Nat → Addr} {cc : CC} (T : Tb P w K mg base k G ca cc) {X : Cx} (hP : X.prog = P) (hw : X.w = w) (hK : X.K = K) (hm : X.mg = mg) (hb : X.base = base) {c : Nat} {x : Str} {ns : List Str} {l : List Nat} (h : cc.xc[c]? = some (x, ns, l)) : ClsI X ca k cc.xc.length cc.xa x ns l (ca c) := by
  subst hP hw hK hm hb
  obtain ⟨t1, t2⟩ := T.xc.get h
  rw [Nat.zero_add] at t1 t2
  refine ⟨t1.mg, t1.xf, t1.cl, t1.ha, t1.hn, t1.ht, t1.hm, t1.no, t1.is_, t1.em, t1.iv, fun hn => ?_⟩
  obtain ⟨a, fI, fd, ps, b, d, e, f⟩ := (t2 hn).ex
  exact ⟨a, fI, fd, ps, 1, b, d, e, T.k1 (fun z => by rw [z] at h; simp at h), f⟩
/-- a def keeps its promise -/
theorem def_ok {x : Str} {params : Arguments} {body : List Stmt} {f : Addr} {fd : FuncData} {ps : List Str} {ca : Nat → Addr} {cc : CC} {k n : Nat} {is : ISs} {mu : List Nat}
    (F : FunD K x x params body cc.sc [] [] f fd) (S : FnScope cc.N ps cc.sc) (hc : cBlk (cS n cc) body = some is) (hm : mutOk mu is = true) (hl : ps.length = mu.length) (hN : mu.length ≤ cc.N.length)
    (T : Tb P w K mg base k G ca cc) (h1 : cc.hot = false) (h2 : cc.rs = false) (h3 : cc.ex = none) : FnOk P w K mg base CX0 (k + 1) f fd ps (spI K mu (denOf G cc.N.length mu is)) := by
  refine F.ok S (fun vs H Q E h => by rw [hl]; exact h.1) fun cdv A outer s H vs Q E hr h => ?_
  obtain ⟨t, pss, sat⟩ := (cBlk_ok (K := K) (G := G) (lv := k) (xw := ⟨ca, fun _ _ _ _ => True⟩) (fun s i h => cS_ok n h) hc).ps
  refine ⟨t, PSs.nox (pss _ ?_), ?_⟩
  · exact {
      k := rfl, calm := fun _ => rfl, n := rfl, nd := S.nd
      kd := fun x k h _ => h
      kf := fun x h => .inr h
      fn := fun _ _ => rfl
      room := fun _ => hr
      roomH := L2H.roomH_of hr
      hotc := fun h => absurd (h1.symm.trans h) (by decide)
      fns := fun _ x j mu na h => ⟨(T.f.get h).ex⟩
      fnsH := fun h => absurd (h1.symm.trans h) (by decide)
      hfs := fun x j mu na h => ⟨(T.hf.get h).ex⟩
      fnsX := fun _ x j mu na h => ⟨(T.xf.get h).ex⟩
      xc := fun c x ns l h => T.cls rfl rfl rfl rfl rfl h
      hx := fun x h => by rw [h3] at h; cases h
      tk := fun h => absurd (h2.symm.trans h) (by decide)
      st := fun _ => ⟨rfl, rfl⟩
      cs := fun x v h => by
        obtain ⟨u, y, a, b, c⟩ := T.c.get h
        exact ⟨u, y, a, b, fun H O => c K H O⟩
      bt := fun x h => T.b.get h
      im := T.i
      kind := S.kind
      po := fun _ => PassesOwn.never }
  · exact def_sat sat rfl hm hN h
/-- one that may raise -/
theorem def_okR {x : Str} {params : Arguments} {body : List Stmt} {f : Addr} {fd : FuncData} {ps : List Str} {ca : Nat → Addr} {cc : CC} {k n : Nat} {is : ISs} {mu : List Nat}
    (F : FunD K x x params body cc.sc [] [] f fd) (S : FnScope cc.N ps cc.sc) (hc : cBlk (cS n cc) body = some is) (hm : mutOk mu is = true) (hl : ps.length = mu.length) (hN : mu.length ≤ cc.N.length)
    (T : Tb P w K mg base k G ca cc) (h1 : cc.hot = false) (h3 : cc.ex = none) : FnOk P w K mg base (L2N.CX P w) (k + 1) f fd ps (spX K ca mu (denOf G cc.N.length mu is)) := by
  refine F.ok S (fun vs H Q E h => by rw [hl]; exact h.1) fun cdv A outer s H vs Q E hr h => ?_
  obtain ⟨t, pss, sat⟩ := (cBlk_ok (K := K) (G := G) (lv := k) (xw := ⟨ca, fun cls d _ H => E cls d H⟩) (fun s i h => cS_ok n h) hc).ps
  refine ⟨t, pss _ ?_, ?_⟩
  · exact {
      k := rfl, calm := fun _ => rfl, n := rfl, nd := S.nd
      kd := fun x k h _ => h
      kf := fun x h => .inr h
      fn := fun _ _ => rfl
      room := fun _ => hr
      roomH := L2H.roomH_of hr
      hotc := fun h => absurd (h1.symm.trans h) (by decide)
      fns := fun _ x j mu na h => ⟨(T.f.get h).ex⟩
      fnsH := fun h => absurd (h1.symm.trans h) (by decide)
      hfs := fun x j mu na h => ⟨(T.hf.get h).ex⟩
      fnsX := fun _ x j mu na h => ⟨(T.xf.get h).ex⟩
      xc := fun c x ns l h => T.cls rfl rfl rfl rfl rfl h
      hx := fun x h => by rw [h3] at h; cases h
      tk := fun _ => L2N.takes_of rfl rfl rfl rfl
      st := fun _ => ⟨rfl, rfl⟩
      cs := fun x v h => by
        obtain ⟨u, y, a, b, c⟩ := T.c.get h
        exact ⟨u, y, a, b, fun H O => c K H O⟩
      bt := fun x h => T.b.get h
      im := T.i
      kind := S.kind
      po := fun _ => PassesOwn.leaving }
  · exact def_satX sat hm hN (fun _ _ _ _ h => h) h
/-- one that is called where an exception is handled -/
theorem def_okH {x : Str} {params : Arguments} {body : List Stmt} {f : Addr} {fd : FuncData} {ps : List Str} {ca : Nat → Addr} {cc : CC} {k n : Nat} {is : ISs} {mu : List Nat}
    (F : FunD K x x params body cc.sc [] [] f fd) (S : FnScope cc.N ps cc.sc) (hc : cBlk (cS n cc) body = some is) (hm : mutOk mu is = true) (hl : ps.length = mu.length) (hN : mu.length ≤ cc.N.length)
    (hf : RowsOk (DefH P w K mg base k) G cc.fns) (T : Tb P w K mg base k G ca { cc with fns := [] }) (h1 : cc.hot = true) (h2 : cc.rs = false) (h3 : cc.ex = none) : L2H.FnH P w K mg base CX0 (k + 1) f fd ps (spI K mu (denOf G cc.N.length mu is)) := by
  obtain ⟨oc, od, dV, kV, doc, pm, an, cdv, ct, osl, rfl, lk, hcd, _, _⟩ := F.ex
  refine L2H.fn_ofH lk hcd S (fun vs H Q E h => by rw [hl]; exact h.1) fun A outer s H vs Q E p hot hr h => ?_
  obtain ⟨t, pss, sat⟩ := (cBlk_ok (K := K) (G := G) (lv := k) (xw := ⟨ca, fun _ _ _ _ => True⟩) (fun s i h => cS_ok n h) hc).ps
  refine ⟨t, PSs.nox (pss _ ?_), ?_⟩
  · exact {
      k := rfl, calm := fun h => absurd (h1.symm.trans h) (by decide), n := rfl, nd := S.nd
      kd := fun x k h _ => h
      kf := fun x h => .inr h
      fn := fun _ _ => rfl
      room := fun h => absurd (h1.symm.trans h) (by decide)
      roomH := hr
      hotc := fun _ => ⟨p, hot, List.mem_cons_self⟩
      fns := fun h => absurd (h1.symm.trans h) (by decide)
      fnsH := fun _ x j mu na h => ⟨(hf.get h).ex⟩
      hfs := fun x j mu na h => ⟨(T.hf.get h).ex⟩
      fnsX := fun h => absurd (h1.symm.trans h) (by decide)
      xc := fun c x ns l h => (T.cls rfl rfl rfl rfl rfl (c := c) (x := x) (ns := ns) (l := l) h)
      hx := fun x h => by rw [h3] at h; cases h
      tk := fun h => absurd (h2.symm.trans h) (by decide)
      st := fun _ => ⟨rfl, rfl⟩
      cs := fun x v h => by
        obtain ⟨u, y, a, b, c⟩ := T.c.get h
        exact ⟨u, y, a, b, fun H O => c K H O⟩
      bt := fun x h => T.b.get h
      im := T.i
      kind := S.kind
      po := fun _ => PassesOwn.never }
  · exact def_sat sat rfl hm hN h
/-- defs of the table -/
theorem def_x {x : Str} {f : Addr} {fd : FuncData} {ps : List Str} {sp : List Nat} {den : Den} {k : Nat} (h : FnOk P w K mg base CX0 k f fd ps (spI K sp den)) (hkp : PySem.W.keepIn K (.ref f) = true) (hg : mg x = some (.ref f)) (hb : Binds K fd ps []) (lv : Nat) (hlv : k ≤ lv) : DefX P w K mg base lv x sp den :=
  ⟨f, fd, ps, k, h, hlv, hg, hkp, hb⟩
theorem def_r {ca : Nat → Addr} {x : Str} {f : Addr} {fd : FuncData} {ps : List Str} {sp : List Nat} {den : Den} {k : Nat} (h : FnOk P w K mg base (L2N.CX P w) k f fd ps (spX K ca sp den)) (hkp : PySem.W.keepIn K (.ref f) = true) (hg : mg x = some (.ref f)) (hb : Binds K fd ps []) (lv : Nat) (hlv : k ≤ lv) : DefR P w K mg base ca lv x sp den :=
  ⟨f, fd, ps, k, h, hlv, hg, hkp, hb⟩
theorem def_h {x : Str} {f : Addr} {fd : FuncData} {ps : List Str} {sp : List Nat} {den : Den} {k : Nat} (h : L2H.FnH P w K mg base CX0 k f fd ps (spI K sp den)) (hkp : PySem.W.keepIn K (.ref f) = true) (hg : mg x = some (.ref f)) (hb : Binds K fd ps []) (lv : Nat) (hlv : k ≤ lv) : DefH P w K mg base lv x sp den :=
  ⟨f, fd, ps, k, h, hlv, hg, hkp, hb⟩
theorem DefX.mono {x : Str} {mu : List Nat} {den : Den} {l2 : Nat} (h : DefX P w K mg base lv x mu den) (hl : lv ≤ l2) : DefX P w K mg base l2 x mu den := by
  obtain ⟨f, fd, ps, k, a, b, c⟩ := h.ex
  exact ⟨f, fd, ps, k, a, Nat.le_trans b hl, c⟩
/-- the defs that a def calls -/
def GsX (l : List Den) (ex : Option HxI) : GE := ⟨fun j => l.getD j fun _ => none, ex⟩
abbrev Gs (l : List Den) : GE := GsX l none
/-- the law's call -/
theorem law_sp {den : Den} {H : Hp} {a : Addr} {ns : List Int} (hS : SqL K H a (ns.map V.int)) (h : ∃ v, den [.scr (ns.map PV.int)] = some (.bl true, 0, v)) : spI K [0] den [.ref a] H (fun v _ => v = .bl true) fun _ _ _ => False := by
  obtain ⟨outs, h⟩ := h
  refine ⟨rfl, [.scr (ns.map PV.int)], fun _ => False, fun _ => [], .bl true, 0, outs, h, ⟨rfl, fun i s e => ?_, fun _ _ => rfl, fun _ => .nil, (fun _ _ _ z => nomatch z), fun _ z => z.elim⟩, fun x H' fp' fo _ _ _ od => ?_⟩
  · have rs : ∀ (O : Addr → Prop) (ns : List Int), Rs K H O (ns.map PV.int) (ns.map V.int) := fun O ns => by
      induction ns with
      | nil => rfl
      | cons n ns ih => exact ⟨_, _, rfl, rfl, ih⟩
    cases i with
    | zero =>
      have e : (⟨0, false, .scr (ns.map PV.int)⟩ : Sl) = s := by simpa [argFr] using e
      subst e
      refine ⟨.ref a, rfl, ?_⟩
      rw [RM.zero]
      refine ⟨rfl, a, _, rfl, ?_, rs _ ns⟩
      rcases hS with hS | hS
      · exact .inl ⟨hS, fun z => z.elim id fun ⟨_, z⟩ => nomatch z⟩
      · exact .inr hS
    | succ i => simp [argFr] at e
  · have := od.rep
    rw [RM.zero] at this
    exact this.2
end
/-! ### the head's facts, and one more -/
abbrev AlE : Type := He.AlD × Bool
def obsE (n : Nat) (fa : List He.Fa) (fn : List He.DefD) (ex : PySem.W.Frag → Bool) (g : Addr → Option Obj) : AlE := (He.obsD fa fn (He.frG g (He.asD g n)), ex (He.frG g (He.asD g n)))
def hookE (n : Nat) (fa : List He.Fa) (fn : List He.DefD) (ex : PySem.W.Frag → Bool) : PySem.W.Hook where
  α := AlE
  obs := fun s => obsE n fa fn ex s.heap.get?
  val := fun _ => (He.valD fn, true)
  says := fun _ h => ∃ K : PySem.W.Frag, K.In h ∧ (He.SaysD fa fn K ∧ ex K = true)
  of := fun _ _ e => ⟨_, He.frG_in, congrArg (fun z : AlE => z.1) e, congrArg (fun z : AlE => z.2) e⟩
  keeps := fun _ _ _ ⟨K, hK, c⟩ k => ⟨K, PySem.W.Frag.In.keeps hK k, c⟩
theorem obsE_eq {n : Nat} {fa : List He.Fa} {fn : List He.DefD} {ex : PySem.W.Frag → Bool} {g : Addr → Option Obj} {s : Shared} (h : ∀ a, g a = s.heap.get? a) : obsE n fa fn ex g = (hookE n fa fn ex).obs s := by
  have e : g = s.heap.get? := funext h
  rw [e] <;> rfl
/-- a name from another module -/
def impB (K : PySem.W.Frag) (x : Str) (id : String) : Bool := He.eqO (PySem.W.nsIn K mainGlobals x) (some (some (.builtin id)))
theorem impB_ok {K : PySem.W.Frag} {h : Heap} {mg : Str → Option Value} (X : K.In h) (G : h.Ns mainGlobals mg) {x : Str} {id : String} (c : impB K x id = true) : mg x = some (.builtin id) := PySem.W.mg_of X G (He.eqO_ok c)
end VI
namespace VI
open PySem PySem.Spec PyProof.Rows L2

/-! ### how a small text is worked out, step by step -/
/-- x is below 2^k in size -/
class Sm (x : Int) (k : outParam Nat) : Prop where
  h : x.natAbs < 2 ^ k
theorem sm_of {x : Int} {k : Nat} (h : x.natAbs < 2 ^ k) : Sm x k := ⟨h⟩
instance sm_mul {x y : Int} {k l : Nat} [a : Sm x k] [b : Sm y l] : Sm (x * y) (k + l) := ⟨by
  rw [Int.natAbs_mul, Nat.pow_add]
  exact Nat.mul_lt_mul'' a.h b.h⟩
theorem pow_le {k l : Nat} : 2 ^ k ≤ 2 ^ (k + l) := Nat.pow_le_pow_right (by omega) (by omega)
instance sm_add {x y : Int} {k l : Nat} [a : Sm x k] [b : Sm y l] : Sm (x + y) (k + l + 1) := ⟨by
  have h1 := a.h
  have h2 := b.h
  have h3 := Int.natAbs_add_le x y
  have h4 : 2 ^ k ≤ 2 ^ (k + l) := pow_le
  have h5 : 2 ^ l ≤ 2 ^ (k + l) := by rw [Nat.add_comm]; exact pow_le
  rw [Nat.pow_succ]
  omega⟩
instance sm_neg {x : Int} {k : Nat} [a : Sm x k] : Sm (-x) k := ⟨by rw [Int.natAbs_neg]; exact a.h⟩
instance sm_sub {x y : Int} {k l : Nat} [a : Sm x k] [b : Sm y l] : Sm (x - y) (k + l + 1) := ⟨by
  have : Sm (x + -y) (k + l + 1) := inferInstance
  rw [Int.sub_eq_add_neg]; exact this.h⟩
instance sm_abs {x : Int} {k : Nat} [a : Sm x k] : Sm (if x < 0 then -x else x) k := ⟨by
  split
  · rw [Int.natAbs_neg]; exact a.h
  · exact a.h⟩
theorem mulOk_sm {x y : Int} {k l : Nat} [a : Sm x k] [b : Sm y l] (h : k + l < 1000000) : mulOk x y = true := by
  unfold mulOk
  have key : ∀ {z : Int} {k : Nat}, Sm z k → z.natAbs.log2 ≤ k := fun {z k} s => by
    by_cases z0 : z.natAbs = 0
    · rw [z0]; exact Nat.zero_le _
    · exact Nat.le_of_lt ((Nat.log2_lt z0).mpr s.h)
  have h1 := key a
  have h2 := key b
  exact decide_eq_true (by omega)
theorem pv_mul {x y : Int} {k l : Nat} [a : Sm x k] [b : Sm y l] (h : k + l < 1000000) : primF .mul [.int x, .int y] = some (.int (x * y)) := by
  show pvMul (.int x) (.int y) = _
  unfold pvMul
  simp only
  rw [if_pos (mulOk_sm h)]
theorem pv_fdiv {x y : Int} (h : 0 < y) (h2 : y < 1073741824) : primF .fdiv [.int x, .int y] = some (.int (x / y)) := by
  show pvDiv (.int x) (.int y) = _
  unfold pvDiv
  simp only
  rw [if_pos ⟨by omega, by omega⟩, Int.fdiv_eq_ediv_of_nonneg x (by omega)]
theorem pv_mod {x y : Int} (h : 0 < y) : primF .mod [.int x, .int y] = some (.int (x % y)) := by
  show pvMod (.int x) (.int y) = _
  unfold pvMod
  simp only
  rw [if_pos (by omega), Int.fmod_eq_emod_of_nonneg x (by omega)]
theorem pv_ixT {vs : List PV} {i : Int} {v : PV} (n : Nat) (hi : i = n) (h : vs[n]? = some v) : primF .idx [.tup vs, .int i] = some v := by
  show L2.atI vs i = _
  subst hi
  have hn := lt_of_some h
  unfold L2.atI L2.ixN
  rw [if_pos (by omega), if_pos (by omega)]
  exact h
theorem pv_ixL {vs : List PV} {i : Int} {v : PV} (n : Nat) (hi : i = n) (h : vs[n]? = some v) : primF .idx [.lst vs, .int i] = some v := pv_ixT n hi h
theorem pv_eqI {x y : Int} : primF .eq [.int x, .int y] = some (.bl (decide (x = y))) := by
  show some (PV.bl (x == y)) = _
  congr 2
theorem pv_neI {x y : Int} : primF .ne [.int x, .int y] = some (.bl (decide (x ≠ y))) := by
  show some (PV.bl (!(x == y))) = _
  congr 2
  by_cases h : x = y <;> simp [h]
def iabs (i : Int) : Int := if i < 0 then -i else i
instance sm_iabs {x : Int} {k : Nat} [a : Sm x k] : Sm (iabs x) k := sm_abs
theorem pv_abs {x : Int} : primF .abs [.int x] = some (.int (iabs x)) := rfl
theorem ixN_nat {n k : Nat} (h : k < n) : L2.ixN n (k : Int) = some k := by
  unfold L2.ixN
  rw [if_pos (by omega), if_pos (by omega)]
  rfl

section
variable {G : GE}
theorem ev_cst {v : PV} {fr : Fr} : evE G (.cst v) fr = some (fr, ⟨v, 0, [], false⟩) := by rw [evE]
theorem ev_var {i : Nat} {fr : Fr} {s : Sl} (h : fr[i]? = some (some s)) : evE G (.var i) fr = some (fr, varOd i s) := by rw [evE, h]
theorem ev_var0 {i : Nat} {fr : Fr} {p : Bool} {v : PV} (h : fr[i]? = some (some ⟨0, p, v⟩)) : evE G (.var i) fr = some (fr, ⟨v, 0, [], false⟩) := ev_var h
theorem evl_nil {fr : Fr} : evL G .nil fr = some (fr, []) := by rw [evL]
theorem evl_cons {a : IE} {as : IEs} {fr fr1 fr2 : Fr} {o : Od} {os : List Od} (h : evE G a fr = some (fr1, o)) (hd : disj o.al (mutdL as) = true) (h2 : evL G as fr1 = some (fr2, os)) : evL G (.cons a as) fr = some (fr2, o :: os) := by
  rw [evL, h]
  simp only [Option.bind_some]
  rw [if_pos hd, h2]
  rfl
theorem ev_prim {p : Prim} {as : IEs} {fr fr1 : Fr} {os : List Od} {v : PV} (h : evL G as fr = some (fr1, os)) (h2 : primF p (os.map (·.v)) = some v) : evE G (.prim p as) fr = some (fr1, ⟨v, primM p v, primAl p os, false⟩) := by
  rw [evE, h]
  simp only [Option.bind_some]
  rw [h2]
  rfl
theorem ev_prim1 {p : Prim} {a : IE} {fr fr1 : Fr} {o : Od} {v : PV} (h : evE G a fr = some (fr1, o)) (h2 : primF p [o.v] = some v) : evE G (.prim p (.cons a .nil)) fr = some (fr1, ⟨v, primM p v, primAl p [o], false⟩) :=
  ev_prim (evl_cons h (by unfold disj mutdL; simp) evl_nil) h2
theorem ev_prim2 {p : Prim} {a b : IE} {fr fr1 fr2 : Fr} {o o2 : Od} {v : PV} (h : evE G a fr = some (fr1, o)) (hd : disj o.al (mutd b) = true) (h2 : evE G b fr1 = some (fr2, o2)) (h3 : primF p [o.v, o2.v] = some v) : evE G (.prim p (.cons a (.cons b .nil))) fr = some (fr2, ⟨v, primM p v, primAl p [o, o2], false⟩) :=
  ev_prim (evl_cons h (by rw [mutdL_one]; exact hd) (evl_cons h2 (by unfold disj mutdL; simp) evl_nil)) h3
theorem ev_and_t {a b : IE} {fr fr1 : Fr} {o : Od} {r : Fr × Od} (h : evE G a fr = some (fr1, o)) (ho : o.v = .bl true) (h2 : evE G b fr1 = some r) : evE G (.and a b) fr = some r := by
  rw [evE, h]
  simp only [Option.bind_some, ho]
  exact h2
theorem ev_and_f {a b : IE} {fr fr1 : Fr} {o : Od} (h : evE G a fr = some (fr1, o)) (ho : o.v = .bl false) : evE G (.and a b) fr = some (fr1, ⟨.bl false, 0, [], false⟩) := by
  rw [evE, h]
  simp only [Option.bind_some, ho]
theorem ev_or_f {a b : IE} {fr fr1 : Fr} {o : Od} {r : Fr × Od} (h : evE G a fr = some (fr1, o)) (ho : o.v = .bl false) (h2 : evE G b fr1 = some r) : evE G (.or a b) fr = some r := by
  rw [evE, h]
  simp only [Option.bind_some, ho]
  exact h2
theorem ev_or_t {a b : IE} {fr fr1 : Fr} {o : Od} (h : evE G a fr = some (fr1, o)) (ho : o.v = .bl true) : evE G (.or a b) fr = some (fr1, ⟨.bl true, 0, [], false⟩) := by
  rw [evE, h]
  simp only [Option.bind_some, ho]
/-- and, or of what leaves the frame -/
theorem ev_and {a b : IE} {fr : Fr} {o o2 : Od} {k k2 : Bool} (h : evE G a fr = some (fr, o)) (ho : o.v = .bl k) (h2 : evE G b fr = some (fr, o2)) (ho2 : o2 = ⟨.bl k2, 0, [], false⟩) : evE G (.and a b) fr = some (fr, ⟨.bl (k && k2), 0, [], false⟩) := by
  cases k with
  | true => rw [ev_and_t h ho h2, ho2]; rfl
  | false => rw [ev_and_f h ho]; rfl
theorem ev_or {a b : IE} {fr : Fr} {o o2 : Od} {k k2 : Bool} (h : evE G a fr = some (fr, o)) (ho : o.v = .bl k) (h2 : evE G b fr = some (fr, o2)) (ho2 : o2 = ⟨.bl k2, 0, [], false⟩) : evE G (.or a b) fr = some (fr, ⟨.bl (k || k2), 0, [], false⟩) := by
  cases k with
  | false => rw [ev_or_f h ho h2, ho2]; rfl
  | true => rw [ev_or_t h ho]; rfl
theorem ev_not {a : IE} {fr fr1 : Fr} {o : Od} {k : Bool} (h : evE G a fr = some (fr1, o)) (ho : o.v = .bl k) : evE G (.not a) fr = some (fr1, ⟨.bl (!k), 0, [], false⟩) := by
  rw [evE, h]
  simp only [Option.bind_some, ho]
theorem ev_call {j : Nat} {mu : List Nat} {na : Bool} {as : IEs} {fr fr1 fr2 : Fr} {os : List Od} {vs outs : List PV} {v : PV} {m : Nat} (h : evLm G mu as fr = some (fr1, os)) (h2 : fillM mu as os fr1 = some vs) (h3 : (nodupB (mutArgs mu as) && disj (alM mu os) (mutArgs mu as)) = true) (h4 : G j vs = some (v, m, outs))
    (h5 : (if na then flatM m v && flatsM (muPos mu) outs else (muPos mu).isEmpty || (alM mu os).isEmpty) = true) (h6 : putM (mutArgs mu as) outs fr1 = some fr2) : evE G (.call j mu na as) fr = some (fr2, ⟨v, m, if na then [] else alM mu os, false⟩) := by
  rw [evE_call, h]
  simp only [Option.bind_some]
  rw [h2]
  simp only [Option.bind_some]
  rw [if_pos h3, h4]
  simp only [Option.bind_some]
  rw [if_pos h5, h6]
  rfl
theorem evm_nil {mu : List Nat} {fr : Fr} : evLm G mu .nil fr = some (fr, []) := by rw [evLm]
theorem evm_cons0 {mu : List Nat} {a : IE} {as : IEs} {fr fr1 fr2 : Fr} {o : Od} {os : List Od} (h : evE G a fr = some (fr1, o)) (hd : disj o.al (mutdL as) = true) (h2 : evLm G mu as fr1 = some (fr2, os)) : evLm G (0 :: mu) (.cons a as) fr = some (fr2, o :: os) := by
  rw [evLm, if_pos rfl, h]
  simp only [Option.bind_some]
  rw [if_pos hd, h2]
  rfl
theorem evm_cons {m : Nat} {mu : List Nat} {a : IE} {as : IEs} {fr fr2 : Fr} {os : List Od} (hs : isSlot fr (varOf a) = true) (h2 : evLm G mu as fr = some (fr2, os)) : evLm G ((m + 1) :: mu) (.cons a as) fr = some (fr2, ⟨.non, 0, [], false⟩ :: os) := by
  rw [evLm, if_neg (by omega), if_pos hs, h2]
  rfl
/-! statements -/
theorem es_nil {fr : Fr} : evSs G .nil fr = some (fr, .next) := by rw [evSs]
theorem es_cons {a : IS} {as : ISs} {fr fr1 : Fr} {r : Fr × Fl} (h : evS G a fr = some (fr1, .next)) (h2 : evSs G as fr1 = some r) : evSs G (.cons a as) fr = some r := by
  rw [evSs, h]
  exact h2
theorem es_ret {a : IS} {as : ISs} {fr fr1 : Fr} {v : PV} {m : Nat} (h : evS G a fr = some (fr1, .ret v m)) : evSs G (.cons a as) fr = some (fr1, .ret v m) := by
  rw [evSs, h]
  rfl
theorem es_asg {i : Nat} {e : IE} {fr fr1 fr2 fr3 : Fr} {o : Od} (h : evE G e fr = some (fr1, o)) (hd : dem o.al fr1 = some fr2) (hs : setS i o.m o.v fr2 = some fr3) : evS G (.asg i e) fr = some (fr3, .next) := by
  rw [evS, h]
  simp only [Option.bind_some]
  rw [hd]
  simp only [Option.bind_some]
  rw [hs]
  rfl
theorem es_asgT {p : Pat} {e : IE} {fr fr1 fr2 fr3 : Fr} {o : Od} (h : evE G e fr = some (fr1, o)) (hd : dem o.al fr1 = some fr2) (hs : asgP p o.v fr2 = some fr3) : evS G (.asgT p e) fr = some (fr3, .next) := by
  rw [evS, h]
  simp only [Option.bind_some]
  rw [hd]
  simp only [Option.bind_some]
  rw [hs]
  rfl
theorem es_rt {e : IE} {fr fr1 fr2 : Fr} {o : Od} {v : PV} {m : Nat} (nv : ∀ i, e ≠ .var i) (h : evE G e fr = some (fr1, o)) (hd : dem o.al fr1 = some fr2) (hv : o.v = v) (hm : o.m = m) : evS G (.ret e) fr = some (fr2, .ret v m) := by
  subst hv hm
  rw [evS_ret nv, h]
  simp only [Option.bind_some]
  rw [hd]
  rfl
theorem es_rtV {i : Nat} {fr : Fr} {p : Bool} {v : PV} (h : fr[i]? = some (some ⟨0, p, v⟩)) : evS G (.ret (.var i)) fr = some (fr, .ret v 0) := by
  rw [evS, h]
  rfl
theorem es_ite {c : IE} {a b : ISs} {fr fr1 : Fr} {o : Od} {k : Bool} (h : evE G c fr = some (fr1, o)) (ho : o.v = .bl k) : evS G (.ite c a b) fr = bif k then evSs G a fr1 else evSs G b fr1 := by
  rw [evS, h]
  simp only [Option.bind_some, ho]
  cases k <;> rfl
theorem es_iteT {c : IE} {a b : ISs} {fr fr1 : Fr} {o : Od} {r : Fr × Fl} (h : evE G c fr = some (fr1, o)) (ho : o.v = .bl true) (h2 : evSs G a fr1 = some r) : evS G (.ite c a b) fr = some r := by rw [es_ite h ho]; exact h2
theorem es_iteF {c : IE} {a b : ISs} {fr fr1 : Fr} {o : Od} {r : Fr × Fl} (h : evE G c fr = some (fr1, o)) (ho : o.v = .bl false) (h2 : evSs G b fr1 = some r) : evS G (.ite c a b) fr = some r := by rw [es_ite h ho]; exact h2
theorem den_intro {n : Nat} {mu : List Nat} {is : ISs} {vs outs : List PV} {fr : Fr} {v : PV} {m : Nat} (hl : vs.length = mu.length) (h : evSs G is (initFr n mu vs) = some (fr, .ret v m)) (ho : outsOf 0 mu fr = some outs) : denOf G n mu is vs = some (v, m, outs) := by
  unfold denOf
  rw [if_pos hl, h]
  simp only [Option.bind_some]
  rw [ho]
  rfl
end
end VI
namespace VI
open PySem PySem.Spec PyProof.Rows L2

/-! ### working out a small text by instances -/
class Tr (b : Bool) : Prop where
  h : b = true
instance tr_t : Tr (no_index true) := ⟨rfl⟩
class GetF (fr : Fr) (i : Nat) (s : outParam (Option Sl)) : Prop where
  h : fr[i]? = some s
instance getf_z {a : Option Sl} {l : Fr} : GetF (a :: l) 0 a := ⟨rfl⟩
instance getf_s {a s : Option Sl} {l : Fr} {n : Nat} [g : GetF l n s] : GetF (a :: l) (n + 1) s := ⟨g.h⟩
class SetF (fr : Fr) (i : Nat) (x : Option Sl) (fr' : outParam Fr) : Prop where
  h : fr.set i x = fr'
instance setf_z {a x : Option Sl} {l : Fr} : SetF (a :: l) 0 x (x :: l) := ⟨rfl⟩
instance setf_s {a x : Option Sl} {l l' : Fr} {n : Nat} [g : SetF l n x l'] : SetF (a :: l) (n + 1) x (a :: l') := ⟨by rw [List.set_cons_succ, g.h]⟩
class GetP (vs : List PV) (i : Nat) (v : outParam PV) : Prop where
  h : vs[i]? = some v
instance getp_z {a : PV} {l : List PV} : GetP (a :: l) 0 a := ⟨rfl⟩
instance getp_s {a s : PV} {l : List PV} {n : Nat} [g : GetP l n s] : GetP (a :: l) (n + 1) s := ⟨g.h⟩
class SetP (vs : List PV) (i : Nat) (x : PV) (vs' : outParam (List PV)) : Prop where
  h : i < vs.length ∧ vs.set i x = vs'
instance setp_z {a x : PV} {l : List PV} : SetP (a :: l) 0 x (x :: l) := ⟨Nat.succ_pos _, rfl⟩
instance setp_s {a x : PV} {l l' : List PV} {n : Nat} [g : SetP l n x l'] : SetP (a :: l) (n + 1) x (a :: l') := ⟨Nat.succ_lt_succ g.h.1, by rw [List.set_cons_succ, g.h.2]⟩
instance sm_lit {n : Nat} [a : Tr (Nat.ble (n + 1) 18446744073709551616)] : Sm (no_index (OfNat.ofNat n : Int)) 64 := ⟨by
  have h1 := Nat.le_of_ble_eq_true a.h
  show ((n : Nat) : Int).natAbs < 2 ^ 64
  omega⟩
/-- 0 below y below 2^30 -/
class Dv (y : Int) : Prop where
  h : 0 < y ∧ y < 1073741824
instance dv_lit {n : Nat} [a : Tr (Nat.ble 1 n)] [b : Tr (Nat.ble (n + 1) 1073741824)] : Dv (no_index (OfNat.ofNat n : Int)) := ⟨by
  have h1 := Nat.le_of_ble_eq_true a.h
  have h2 := Nat.le_of_ble_eq_true b.h
  show (0 : Int) < ((n : Nat) : Int) ∧ ((n : Nat) : Int) < 1073741824
  omega⟩
class Ps (y : Int) : Prop where
  h : 0 < y
instance ps_dv {y : Int} [d : Dv y] : Ps y := ⟨d.h.1⟩
instance ps_lit {n : Nat} [a : Tr (Nat.ble 1 n)] : Ps (no_index (OfNat.ofNat n : Int)) := ⟨by
  have h1 := Nat.le_of_ble_eq_true a.h
  show (0 : Int) < ((n : Nat) : Int)
  omega⟩
/-! a primitive's value -/
class PF (p : Prim) (vs : List PV) (v : outParam PV) : Prop where
  h : primF p vs = some v
instance pf_addI {x y : Int} : PF .add [.int x, .int y] (.int (x + y)) := ⟨rfl⟩
instance pf_subI {x y : Int} : PF .sub [.int x, .int y] (.int (x - y)) := ⟨rfl⟩
instance pf_mulI {x y : Int} {k l : Nat} [Sm x k] [Sm y l] [t : Tr (Nat.ble (k + l + 1) 1000000)] : PF .mul [.int x, .int y] (.int (x * y)) := ⟨pv_mul (Nat.le_of_ble_eq_true t.h)⟩
instance pf_fdivI {x y : Int} [d : Dv y] : PF .fdiv [.int x, .int y] (.int (x / y)) := ⟨pv_fdiv d.h.1 d.h.2⟩
instance pf_modI {x y : Int} [d : Ps y] : PF .mod [.int x, .int y] (.int (x % y)) := ⟨pv_mod d.h⟩
instance pf_negI {x : Int} : PF .neg [.int x] (.int (-x)) := ⟨rfl⟩
instance pf_pow {n m : Nat} [a : Tr (Nat.ble n 1000000)] [b : Tr (Nat.ble m 1000000)] : PF .pow [.int (no_index (OfNat.ofNat m)), .int (no_index (OfNat.ofNat n))] (.int ((OfNat.ofNat m : Int) ^ n)) := ⟨by
  have h1 := Nat.le_of_ble_eq_true a.h
  have h2 := Nat.le_of_ble_eq_true b.h
  show (if 0 ≤ ((n : Nat) : Int) ∧ ((n : Nat) : Int) ≤ 1000000 ∧ ((m : Nat) : Int).natAbs < 2 ^ 64 then some (PV.int (((m : Nat) : Int) ^ (((n : Nat) : Int)).toNat)) else none) = _
  rw [if_pos ⟨by omega, by omega, by omega⟩]
  rfl⟩
instance pf_eqI {x y : Int} : PF .eq [.int x, .int y] (.bl (decide (x = y))) := ⟨pv_eqI⟩
instance pf_neI {x y : Int} : PF .ne [.int x, .int y] (.bl (decide (x ≠ y))) := ⟨pv_neI⟩
instance pf_ltI {x y : Int} : PF .lt [.int x, .int y] (.bl (decide (x < y))) := ⟨rfl⟩
instance pf_leI {x y : Int} : PF .le [.int x, .int y] (.bl (decide (x ≤ y))) := ⟨rfl⟩
instance pf_gtI {x y : Int} : PF .gt [.int x, .int y] (.bl (decide (x > y))) := ⟨rfl⟩
instance pf_geI {x y : Int} : PF .ge [.int x, .int y] (.bl (decide (x ≥ y))) := ⟨rfl⟩
instance pf_absI {x : Int} : PF .abs [.int x] (.int (iabs x)) := ⟨rfl⟩
instance pf_intI {x : Int} : PF .int [.int x] (.int x) := ⟨rfl⟩
instance pf_min {x y : Int} : PF .min2 [.int x, .int y] (.int (min x y)) := ⟨by
  show some (PV.int (if y < x then y else x)) = _
  congr 2
  omega⟩
instance pf_max {x y : Int} : PF .max2 [.int x, .int y] (.int (max x y)) := ⟨by
  show some (PV.int (if y > x then y else x)) = _
  congr 2
  omega⟩
instance pf_ixT {vs : List PV} {n : Nat} {v : PV} [g : GetP vs n v] : PF .idx [.tup vs, .int (no_index (OfNat.ofNat n))] v := ⟨pv_ixT n rfl g.h⟩
instance pf_ixL {vs : List PV} {n : Nat} {v : PV} [g : GetP vs n v] : PF .idx [.lst vs, .int (no_index (OfNat.ofNat n))] v := ⟨pv_ixL n rfl g.h⟩
instance pf_lenL {vs : List PV} : PF .len [.lst vs] (.int vs.length) := ⟨rfl⟩
instance pf_lenT {vs : List PV} : PF .len [.tup vs] (.int vs.length) := ⟨rfl⟩
instance pf_list {vs : List PV} : PF .list [.lst vs] (.lst vs) := ⟨rfl⟩
instance pf_listS {vs : List PV} : PF .list [.scr vs] (.lst vs) := ⟨rfl⟩
instance pf_listT {vs : List PV} : PF .list [.tup vs] (.lst vs) := ⟨rfl⟩
class LenN (vs : List PV) (n : outParam Nat) : Prop where
  h : vs.length = n
instance lenn_n : LenN [] 0 := ⟨rfl⟩
instance lenn_c {v : PV} {vs : List PV} {n : Nat} [g : LenN vs n] : LenN (v :: vs) (n + 1) := ⟨by rw [List.length_cons, g.h]⟩
instance pf_tup {vs : List PV} {n : Nat} [ln : LenN vs n] [t : Tr (Nat.ble n 1000)] : PF .tupD vs (.tup vs) := ⟨by
  have := Nat.le_of_ble_eq_true t.h
  rw [← ln.h] at this
  show (if vs.length ≤ sizeLine then some (PV.tup vs) else none) = _
  rw [if_pos (Nat.le_trans this (by decide))]⟩
instance pf_lst {vs : List PV} {n : Nat} [ln : LenN vs n] [t : Tr (Nat.ble n 1000)] : PF .lstD vs (.lst vs) := ⟨by
  have := Nat.le_of_ble_eq_true t.h
  rw [← ln.h] at this
  show (if vs.length ≤ sizeLine then some (PV.lst vs) else none) = _
  rw [if_pos (Nat.le_trans this (by decide))]⟩
instance pf_is_int_int {x : Int} : PF .isinst [.int x, .ty "int"] (.bl true) := ⟨rfl⟩
instance pf_is_int_bool {x : Int} : PF .isinst [.int x, .ty "bool"] (.bl false) := ⟨rfl⟩
instance pf_is_int_str {x : Int} : PF .isinst [.int x, .ty "str"] (.bl false) := ⟨rfl⟩
instance pf_is_int_tuple {x : Int} : PF .isinst [.int x, .ty "tuple"] (.bl false) := ⟨rfl⟩
instance pf_is_int_list {x : Int} : PF .isinst [.int x, .ty "list"] (.bl false) := ⟨rfl⟩
instance pf_is_bool_int {x : Bool} : PF .isinst [.bl x, .ty "int"] (.bl true) := ⟨rfl⟩
instance pf_is_bool_bool {x : Bool} : PF .isinst [.bl x, .ty "bool"] (.bl true) := ⟨rfl⟩
instance pf_is_bool_str {x : Bool} : PF .isinst [.bl x, .ty "str"] (.bl false) := ⟨rfl⟩
instance pf_is_bool_tuple {x : Bool} : PF .isinst [.bl x, .ty "tuple"] (.bl false) := ⟨rfl⟩
instance pf_is_bool_list {x : Bool} : PF .isinst [.bl x, .ty "list"] (.bl false) := ⟨rfl⟩
instance pf_is_str_int {x : Str} : PF .isinst [.str x, .ty "int"] (.bl false) := ⟨rfl⟩
instance pf_is_str_bool {x : Str} : PF .isinst [.str x, .ty "bool"] (.bl false) := ⟨rfl⟩
instance pf_is_str_str {x : Str} : PF .isinst [.str x, .ty "str"] (.bl true) := ⟨rfl⟩
instance pf_is_str_tuple {x : Str} : PF .isinst [.str x, .ty "tuple"] (.bl false) := ⟨rfl⟩
instance pf_is_str_list {x : Str} : PF .isinst [.str x, .ty "list"] (.bl false) := ⟨rfl⟩
instance pf_is_tuple_int {x : List PV} : PF .isinst [.tup x, .ty "int"] (.bl false) := ⟨rfl⟩
instance pf_is_tuple_bool {x : List PV} : PF .isinst [.tup x, .ty "bool"] (.bl false) := ⟨rfl⟩
instance pf_is_tuple_str {x : List PV} : PF .isinst [.tup x, .ty "str"] (.bl false) := ⟨rfl⟩
instance pf_is_tuple_tuple {x : List PV} : PF .isinst [.tup x, .ty "tuple"] (.bl true) := ⟨rfl⟩
instance pf_is_tuple_list {x : List PV} : PF .isinst [.tup x, .ty "list"] (.bl false) := ⟨rfl⟩
instance pf_is_list_int {x : List PV} : PF .isinst [.lst x, .ty "int"] (.bl false) := ⟨rfl⟩
instance pf_is_list_bool {x : List PV} : PF .isinst [.lst x, .ty "bool"] (.bl false) := ⟨rfl⟩
instance pf_is_list_str {x : List PV} : PF .isinst [.lst x, .ty "str"] (.bl false) := ⟨rfl⟩
instance pf_is_list_tuple {x : List PV} : PF .isinst [.lst x, .ty "tuple"] (.bl false) := ⟨rfl⟩
instance pf_is_list_list {x : List PV} : PF .isinst [.lst x, .ty "list"] (.bl true) := ⟨rfl⟩
instance pf_is_NoneType_int  : PF .isinst [.non, .ty "int"] (.bl false) := ⟨rfl⟩
instance pf_is_NoneType_bool  : PF .isinst [.non, .ty "bool"] (.bl false) := ⟨rfl⟩
instance pf_is_NoneType_str  : PF .isinst [.non, .ty "str"] (.bl false) := ⟨rfl⟩
instance pf_is_NoneType_tuple  : PF .isinst [.non, .ty "tuple"] (.bl false) := ⟨rfl⟩
instance pf_is_NoneType_list  : PF .isinst [.non, .ty "list"] (.bl false) := ⟨rfl⟩
instance pf_truB {b : Bool} : PF .tru [.bl b] (.bl b) := ⟨rfl⟩
instance pf_truI {x : Int} : PF .tru [.int x] (.bl (decide (x ≠ 0))) := ⟨by
  show some (PV.bl (x != 0)) = _
  congr 2
  by_cases h : x = 0 <;> simp [h]⟩
instance pf_truN : PF .tru [.non] (.bl false) := ⟨rfl⟩
instance pf_truL {vs : List PV} : PF .tru [.lst vs] (.bl (!vs.isEmpty)) := ⟨rfl⟩
instance pf_truT {vs : List PV} : PF .tru [.tup vs] (.bl (!vs.isEmpty)) := ⟨rfl⟩
instance pf_isB {a b : Bool} : PF .isB [.bl a, .bl b] (.bl (decide (a = b))) := ⟨rfl⟩
instance pf_isNB {a b : Bool} : PF .isNotB [.bl a, .bl b] (.bl (!decide (a = b))) := ⟨rfl⟩
instance pf_rev {vs : List PV} : PF .slrev [.lst vs] (.lst vs.reverse) := ⟨rfl⟩
/-! what a primitive's result may hold; whether a list is new -/
class PKd (p : Prim) (k : outParam PK) : Prop where
  h : primK p = k
instance : PKd .sub .flat := ⟨rfl⟩
instance : PKd .fdiv .flat := ⟨rfl⟩
instance : PKd .mod .flat := ⟨rfl⟩
instance : PKd .pow .flat := ⟨rfl⟩
instance : PKd .neg .flat := ⟨rfl⟩
instance : PKd .eq .flat := ⟨rfl⟩
instance : PKd .ne .flat := ⟨rfl⟩
instance : PKd .lt .flat := ⟨rfl⟩
instance : PKd .le .flat := ⟨rfl⟩
instance : PKd .gt .flat := ⟨rfl⟩
instance : PKd .ge .flat := ⟨rfl⟩
instance : PKd .isIn .flat := ⟨rfl⟩
instance : PKd .notIn .flat := ⟨rfl⟩
instance : PKd .isNone .flat := ⟨rfl⟩
instance : PKd .notNone .flat := ⟨rfl⟩
instance : PKd .abs .flat := ⟨rfl⟩
instance : PKd .int .flat := ⟨rfl⟩
instance : PKd .len .flat := ⟨rfl⟩
instance : PKd .sum .flat := ⟨rfl⟩
instance : PKd .any .flat := ⟨rfl⟩
instance : PKd .all .flat := ⟨rfl⟩
instance : PKd .max2 .flat := ⟨rfl⟩
instance : PKd .min2 .flat := ⟨rfl⟩
instance : PKd .isinst .flat := ⟨rfl⟩
instance : PKd .tru .flat := ⟨rfl⟩
instance : PKd .isB .flat := ⟨rfl⟩
instance : PKd .isNotB .flat := ⟨rfl⟩
instance : PKd .slrev .elem := ⟨rfl⟩
instance : PKd .tupD .keep := ⟨rfl⟩
instance : PKd .lstD .keep := ⟨rfl⟩
instance : PKd .idx .elem := ⟨rfl⟩
instance {a b : Bool} : PKd (.sl a b) .elem := ⟨rfl⟩
instance : PKd .add .elem := ⟨rfl⟩
instance : PKd .mul .elem := ⟨rfl⟩
instance : PKd .list .elem := ⟨rfl⟩
instance : PKd .tuple .elem := ⟨rfl⟩
class Ap (a b : List Nat) (c : outParam (List Nat)) : Prop where
  h : a ++ b = c
instance ap_n {b : List Nat} : Ap [] b b := ⟨rfl⟩
instance ap_c {x : Nat} {a b c : List Nat} [g : Ap a b c] : Ap (x :: a) b (x :: c) := ⟨by rw [List.cons_append, g.h]⟩
class ELs (os : List Od) (al : outParam (List Nat)) : Prop where
  h : alsOf elal os = al
instance els_n : ELs [] [] := ⟨rfl⟩
instance els_t {v : PV} {m : Nat} {al : List Nat} {os : List Od} {bl : List Nat} [g : ELs os bl] : ELs (⟨v, m, al, true⟩ :: os) bl := ⟨by show elal _ ++ alsOf elal os = bl; rw [g.h]; rfl⟩
instance els_f {v : PV} {m : Nat} {al : List Nat} {os : List Od} {bl cl : List Nat} [g : ELs os bl] [a : Ap al bl cl] : ELs (⟨v, m, al, false⟩ :: os) cl := ⟨by show elal _ ++ alsOf elal os = cl; rw [g.h]; exact a.h⟩
class KLs (os : List Od) (al : outParam (List Nat)) : Prop where
  h : alsOf (·.al) os = al
instance kls_n : KLs [] [] := ⟨rfl⟩
instance kls_c {v : PV} {m : Nat} {al : List Nat} {t : Bool} {os : List Od} {bl cl : List Nat} [g : KLs os bl] [a : Ap al bl cl] : KLs (⟨v, m, al, t⟩ :: os) cl := ⟨by show al ++ alsOf (·.al) os = cl; rw [g.h]; exact a.h⟩
class PAl (p : Prim) (k : PK) (os : List Od) (al : outParam (List Nat)) : Prop where
  h : primK p = k → primAl p os = al
instance pal_f {p : Prim} {os : List Od} : PAl p .flat os [] := ⟨fun e => by unfold primAl; rw [e]⟩
instance pal_e {p : Prim} {os : List Od} {al : List Nat} [g : ELs os al] : PAl p .elem os al := ⟨fun e => by unfold primAl; rw [e]; exact g.h⟩
instance pal_k {p : Prim} {os : List Od} {al : List Nat} [g : KLs os al] : PAl p .keep os al := ⟨fun e => by unfold primAl; rw [e]; exact g.h⟩
class PMd (p : Prim) (v : PV) (m : outParam Nat) : Prop where
  h : primM p v = m
theorem pmd0 {p : Prim} {v : PV} (h : isL v = false) : primM p v = 0 := by unfold primM; rw [h, Bool.and_false]; rfl
instance pmd_i {p : Prim} {x : Int} : PMd p (.int x) 0 := ⟨pmd0 rfl⟩
instance pmd_b {p : Prim} {x : Bool} : PMd p (.bl x) 0 := ⟨pmd0 rfl⟩
instance pmd_s {p : Prim} {x : Str} : PMd p (.str x) 0 := ⟨pmd0 rfl⟩
instance pmd_n {p : Prim} : PMd p .non 0 := ⟨pmd0 rfl⟩
instance pmd_t {p : Prim} {x : List PV} : PMd p (.tup x) 0 := ⟨pmd0 rfl⟩
instance pmd_ld {x : List PV} : PMd .lstD (.lst x) 1 := ⟨rfl⟩
instance pmd_add {x : List PV} : PMd .add (.lst x) 1 := ⟨rfl⟩
instance pmd_mul {x : List PV} : PMd .mul (.lst x) 1 := ⟨rfl⟩
instance pmd_sl {a b : Bool} {x : List PV} : PMd (.sl a b) (.lst x) 1 := ⟨rfl⟩
instance pmd_list {x : List PV} : PMd .list (.lst x) 1 := ⟨rfl⟩
instance pmd_rev {x : List PV} : PMd .slrev (.lst x) 1 := ⟨rfl⟩
instance pmd_ix {x : List PV} : PMd .idx (.lst x) 0 := ⟨rfl⟩
/-! nothing is changed in place -/
class NoMut (e : IE) : Prop where
  h : mutd e = []
class NoMuts (e : IEs) : Prop where
  h : mutdL e = []
instance nm_c {v : PV} : NoMut (.cst v) := ⟨by rw [mutd]⟩
instance nm_v {i : Nat} : NoMut (.var i) := ⟨by rw [mutd]⟩
instance nm_p {p : Prim} {as : IEs} [g : NoMuts as] : NoMut (.prim p as) := ⟨by rw [mutd, g.h]⟩
instance nms_n : NoMuts .nil := ⟨by rw [mutdL]⟩
instance nms_c {a : IE} {as : IEs} [g : NoMut a] [h : NoMuts as] : NoMuts (.cons a as) := ⟨by rw [mutdL, g.h, h.h]; rfl⟩
class DjE (al : List Nat) (e : IE) : Prop where
  h : disj al (mutd e) = true
instance dje_n {e : IE} : DjE [] e := ⟨rfl⟩
instance dje_c {i : Nat} {al : List Nat} {e : IE} [g : NoMut e] : DjE (i :: al) e := ⟨by rw [g.h]; unfold disj; simp⟩
class DjL (al : List Nat) (e : IEs) : Prop where
  h : disj al (mutdL e) = true
instance djl_n {e : IEs} : DjL [] e := ⟨rfl⟩
instance djl_c {i : Nat} {al : List Nat} {e : IEs} [g : NoMuts e] : DjL (i :: al) e := ⟨by rw [g.h]; unfold disj; simp⟩

section
variable {G : GE}
class WV (G : GE) (e : IE) (fr : Fr) (fr' : outParam Fr) (o : outParam Od) : Prop where
  h : evE G e fr = some (fr', o)
class WL (G : GE) (e : IEs) (fr : Fr) (fr' : outParam Fr) (os : outParam (List Od)) : Prop where
  h : evL G e fr = some (fr', os)
class Vs (os : List Od) (vs : outParam (List PV)) : Prop where
  h : os.map (·.v) = vs
instance vs_n : Vs [] [] := ⟨rfl⟩
instance vs_c {v : PV} {m : Nat} {al : List Nat} {t : Bool} {os : List Od} {vs : List PV} [g : Vs os vs] : Vs (⟨v, m, al, t⟩ :: os) (v :: vs) := ⟨by rw [List.map_cons, g.h]⟩
instance eve_c {v : PV} {fr : Fr} : WV G (.cst v) fr fr ⟨v, 0, [], false⟩ := ⟨ev_cst⟩
class VO (i m : Nat) (v : PV) (al : outParam (List Nat)) (t : outParam Bool) : Prop where
  h : ∀ p, varOd i ⟨m, p, v⟩ = ⟨v, 0, al, t⟩
instance vo_0 {i : Nat} {v : PV} : VO i 0 v [] false := ⟨fun _ => rfl⟩
instance vo_1 {i : Nat} {vs : List PV} : VO i 1 (.lst vs) [i] true := ⟨fun _ => rfl⟩
instance vo_2 {i k : Nat} {vs : List PV} : VO i (k + 2) (.lst vs) [i] false := ⟨fun _ => by unfold varOd; simp⟩
instance eve_v {i m : Nat} {fr : Fr} {p : Bool} {v : PV} {al : List Nat} {t : Bool} [g : GetF fr i (some ⟨m, p, v⟩)] [o : VO i m v al t] : WV G (.var i) fr fr ⟨v, 0, al, t⟩ := ⟨by rw [ev_var g.h, o.h]⟩
instance evl_n {fr : Fr} : WL G .nil fr fr [] := ⟨evl_nil⟩
instance evl_c {a : IE} {as : IEs} {fr fr1 fr2 : Fr} {v : PV} {m : Nat} {al : List Nat} {t : Bool} {os : List Od} [g : WV G a fr fr1 ⟨v, m, al, t⟩] [d : DjL al as] [h : WL G as fr1 fr2 os] : WL G (.cons a as) fr fr2 (⟨v, m, al, t⟩ :: os) := ⟨evl_cons g.h d.h h.h⟩
instance eve_p {p : Prim} {as : IEs} {fr fr1 : Fr} {os : List Od} {vs : List PV} {v : PV} {k : PK} {m : Nat} {al : List Nat} [g : WL G as fr fr1 os] [w : Vs os vs] [f : PF p vs v] [kd : PKd p k] [a : PAl p k os al] [pm : PMd p v m] : WV G (.prim p as) fr fr1 ⟨v, m, al, false⟩ := ⟨by
  rw [ev_prim g.h (by rw [w.h]; exact f.h), a.h kd.h, pm.h]⟩
instance eve_not {a : IE} {fr fr1 : Fr} {k : Bool} {m : Nat} {al : List Nat} {t : Bool} [g : WV G a fr fr1 ⟨.bl k, m, al, t⟩] : WV G (.not a) fr fr1 ⟨.bl (!k), 0, [], false⟩ := ⟨ev_not g.h rfl⟩
instance eve_and {a b : IE} {fr : Fr} {k k2 : Bool} [g : WV G a fr fr ⟨.bl k, 0, [], false⟩] [h : WV G b fr fr ⟨.bl k2, 0, [], false⟩] : WV G (.and a b) fr fr ⟨.bl (k && k2), 0, [], false⟩ := ⟨ev_and g.h rfl h.h rfl⟩
instance eve_or {a b : IE} {fr : Fr} {k k2 : Bool} [g : WV G a fr fr ⟨.bl k, 0, [], false⟩] [h : WV G b fr fr ⟨.bl k2, 0, [], false⟩] : WV G (.or a b) fr fr ⟨.bl (k || k2), 0, [], false⟩ := ⟨ev_or g.h rfl h.h rfl⟩
/-! calls -/
class DenR (den : Den) (vs : List PV) (v : outParam PV) (m : outParam Nat) (outs : outParam (List PV)) : Prop where
  h : den vs = some (v, m, outs)
class GetG (l : List Den) (j : Nat) (d : outParam Den) : Prop where
  h : ∀ ex, GsX l ex j = d
instance getg_z {d : Den} {l : List Den} : GetG (d :: l) 0 d := ⟨fun _ => rfl⟩
instance getg_s {d e : Den} {l : List Den} {n : Nat} [g : GetG l n e] : GetG (d :: l) (n + 1) e := ⟨fun ex => by rw [← g.h ex]; rfl⟩
class Zs (mu : List Nat) : Prop where
  h : mu.all (· == 0) = true
instance zs_n : Zs [] := ⟨rfl⟩
instance zs_c {mu : List Nat} [g : Zs mu] : Zs (0 :: mu) := ⟨by rw [List.all_cons, g.h]; rfl⟩
theorem Zs.head {m : Nat} {mu : List Nat} (h : Zs (m :: mu)) : m = 0 ∧ Zs mu := by
  have := h.h
  rw [List.all_cons, Bool.and_eq_true] at this
  exact ⟨by simpa using this.1, ⟨this.2⟩⟩
def lenI : IEs → Nat
  | .nil => 0
  | .cons _ as => lenI as + 1
theorem evLm_of : ∀ {as : IEs} {mu : List Nat} {fr fr1 : Fr} {os : List Od}, Zs mu → evL G as fr = some (fr1, os) → lenI as = mu.length → evLm G mu as fr = some (fr1, os) ∧ fillM mu as os fr1 = some (os.map (·.v)) ∧ mutArgs mu as = []
  | .nil, [], fr, fr1, os, z, h, _ => by
    rw [evL] at h
    cases h
    exact ⟨by rw [evLm], rfl, rfl⟩
  | .nil, _ :: _, fr, fr1, os, z, h, l => by cases l
  | .cons a as, [], fr, fr1, os, z, h, l => by cases l
  | .cons a as, m :: mu, fr, fr1, os, z, h, l => by
    obtain ⟨rfl, zz⟩ := z.head
    rw [evL] at h
    obtain ⟨pr, h1, h⟩ := bind_some h
    obtain ⟨fr2, o⟩ := pr
    obtain ⟨h2, h⟩ := if_some h
    obtain ⟨pr2, h3, h⟩ := bind_some h
    obtain ⟨fr3, os2⟩ := pr2
    cases h
    obtain ⟨i1, i2, i3⟩ := evLm_of zz h3 (by simpa [lenI] using l)
    refine ⟨?_, ?_, ?_⟩
    · rw [evLm, if_pos rfl, h1]
      simp only [Option.bind_some]
      rw [if_pos h2, i1]
      rfl
    · unfold fillM
      rw [i2]
      rfl
    · rw [mutArgs_cons, if_pos rfl, i3]; rfl
class LenI (as : IEs) (mu : List Nat) : Prop where
  h : lenI as = mu.length
instance leni_n : LenI .nil [] := ⟨rfl⟩
instance leni_c {a : IE} {as : IEs} {m : Nat} {mu : List Nat} [g : LenI as mu] : LenI (.cons a as) (m :: mu) := ⟨by show lenI as + 1 = mu.length + 1; rw [g.h]⟩
theorem alM_z : ∀ {mu : List Nat} {os : List Od}, Zs mu → os.length = mu.length → alM mu os = alsOf (·.al) os
  | [], [], _, _ => rfl
  | m :: mu, o :: os, z, l => by
    obtain ⟨rfl, zz⟩ := z.head
    unfold alM alsOf
    rw [if_pos rfl, alM_z zz (by simpa using l)]
theorem muPos_z : ∀ {mu : List Nat}, Zs mu → muPos mu = []
  | [], _ => rfl
  | m :: mu, z => by
    obtain ⟨rfl, zz⟩ := z.head
    rw [muPos_cons, if_pos rfl, muPos_z zz]
theorem evL_len : ∀ {as : IEs} {fr fr1 : Fr} {os : List Od}, evL G as fr = some (fr1, os) → os.length = lenI as
  | .nil, fr, fr1, os, h => by rw [evL] at h; cases h; rfl
  | .cons a as, fr, fr1, os, h => by
    rw [evL] at h
    obtain ⟨pr, h1, h⟩ := bind_some h
    obtain ⟨h2, h⟩ := if_some h
    obtain ⟨pr2, h3, h⟩ := bind_some h
    cases h
    rw [List.length_cons, evL_len h3]
    rfl
/-- a call that changes no argument -/
instance eve_call0 {l : List Den} {ex : Option HxI} {j : Nat} {mu : List Nat} {as : IEs} {fr fr1 : Fr} {os : List Od} {vs : List PV} {den : Den} {v : PV} {m : Nat} {al : List Nat} [z : Zs mu] [li : LenI as mu] [g : WL (GsX l ex) as fr fr1 os] [w : Vs os vs] [gd : GetG l j den] [d : DenR den vs v m []] [k : KLs os al] :
    WV (GsX l ex) (.call j mu false as) fr fr1 ⟨v, m, al, false⟩ := ⟨by
  obtain ⟨h1, h2, h3⟩ := evLm_of z g.h li.h
  have := ev_call (na := false) (fr2 := fr1) h1 h2 (by rw [h3]; unfold nodupB disj; simp) (by rw [w.h, gd.h]; exact d.h) (by rw [muPos_z z]; rfl) (by rw [h3]; rfl)
  rw [this, alM_z z (by rw [evL_len g.h, li.h]), k.h]
  rfl⟩
class Fl0 (v : PV) (m : Nat) : Prop where
  h : flatM m v = true
instance fl_i {x : Int} : Fl0 (.int x) 0 := ⟨rfl⟩
instance fl_b {x : Bool} : Fl0 (.bl x) 0 := ⟨rfl⟩
instance fl_n : Fl0 .non 0 := ⟨rfl⟩
instance fl_t2 {x y : Int} : Fl0 (.tup [.int x, .int y]) 0 := ⟨rfl⟩
instance eve_call0f {l : List Den} {ex : Option HxI} {j : Nat} {mu : List Nat} {as : IEs} {fr fr1 : Fr} {os : List Od} {vs : List PV} {den : Den} {v : PV} {m : Nat} [z : Zs mu] [li : LenI as mu] [g : WL (GsX l ex) as fr fr1 os] [w : Vs os vs] [gd : GetG l j den] [d : DenR den vs v m []] [f : Fl0 v m] :
    WV (GsX l ex) (.call j mu true as) fr fr1 ⟨v, m, [], false⟩ := ⟨by
  obtain ⟨h1, h2, h3⟩ := evLm_of z g.h li.h
  exact ev_call (na := true) (fr2 := fr1) h1 h2 (by rw [h3]; unfold nodupB disj; simp) (by rw [w.h, gd.h]; exact d.h) (by rw [muPos_z z, if_pos rfl, f.h]; rfl) (by rw [h3]; rfl)⟩
/-- a call whose first argument, a slot, is changed in place -/
class FlP (vs : List PV) : Prop where
  h : True
theorem call1_aux {m : Nat} {mu : List Nat} {i : Nat} {as : IEs} {fr fr1 : Fr} {os : List Od} {s : Sl} (z : Zs mu) (li : lenI as = mu.length) (g : evL G as fr = some (fr1, os)) (h0 : fr[i]? = some (some s)) (h1 : fr1[i]? = some (some ⟨m + 1, s.pin, s.v⟩)) :
    evLm G ((m + 1) :: mu) (.cons (.var i) as) fr = some (fr1, ⟨.non, 0, [], false⟩ :: os) ∧ fillM ((m + 1) :: mu) (.cons (.var i) as) (⟨.non, 0, [], false⟩ :: os) fr1 = some (s.v :: os.map (·.v)) ∧ mutArgs ((m + 1) :: mu) (.cons (.var i) as) = [i] := by
  obtain ⟨i1, i2, i3⟩ := evLm_of z g li
  refine ⟨evm_cons (by unfold isSlot varOf; simp only; rw [h0]) i1, ?_, ?_⟩
  · unfold fillM
    rw [i2]
    simp only [Option.bind_some]
    rw [if_neg (by omega), h1]
    simp
  · rw [mutArgs_cons, if_neg (by omega), i3]
    rfl
class AlNil (os : List Od) : Prop where
  h : alsOf (·.al) os = []
instance aln_n : AlNil [] := ⟨rfl⟩
instance aln_c {v : PV} {m : Nat} {t : Bool} {os : List Od} [g : AlNil os] : AlNil (⟨v, m, [], t⟩ :: os) := ⟨by show [] ++ alsOf (·.al) os = []; rw [g.h]; rfl⟩
theorem call1_ok {l : List Den} {ex : Option HxI} {j m k : Nat} {mu : List Nat} {i : Nat} {as : IEs} {fr fr1 fr2 : Fr} {os : List Od} {p : Bool} {v0 out v : PV} {vs : List PV} {den : Den} {na : Bool} (z : Zs mu) (li : lenI as = mu.length) (g : evL (GsX l ex) as fr = some (fr1, os)) (h0 : fr[i]? = some (some ⟨m + 1, p, v0⟩)) (h1 : fr1[i]? = some (some ⟨m + 1, p, v0⟩))
    (w : os.map (·.v) = vs) (gd : GsX l ex j = den) (d : den (v0 :: vs) = some (v, k, [out])) (an : alsOf (·.al) os = []) (hna : na = true → flatM k v = true ∧ flatM (m + 1) out = true) (st : fr1.set i (some ⟨m + 1, p, out⟩) = fr2) :
    evE (GsX l ex) (.call j ((m + 1) :: mu) na (.cons (.var i) as)) fr = some (fr2, ⟨v, k, [], false⟩) := by
  obtain ⟨c1, c2, c3⟩ := call1_aux (m := m) z li g h0 h1
  have am : alM ((m + 1) :: mu) (⟨.non, 0, [], false⟩ :: os) = [] := by
    unfold alM
    rw [if_neg (by omega), alM_z z (by rw [evL_len g, li]), an]
  have := ev_call (G := GsX l ex) (j := j) (na := na) (fr2 := fr2) c1 c2 (by rw [c3, am]; rfl) (by rw [w, gd]; exact d) (by
    cases na with
    | true =>
      obtain ⟨e1, e2⟩ := hna rfl
      rw [if_pos rfl, muPos_cons, if_neg (by omega), muPos_z z]
      unfold flatsM flatsM
      rw [e1, e2]
      rfl
    | false => rw [if_neg (by decide), am]; simp) (by
    rw [c3]
    unfold putM
    rw [h1]
    simp only
    unfold putM
    rw [st])
  rw [this, am]
  cases na <;> rfl
instance eve_call1 {l : List Den} {ex : Option HxI} {j m k : Nat} {mu : List Nat} {i : Nat} {as : IEs} {fr fr1 fr2 : Fr} {os : List Od} {p : Bool} {v0 out v : PV} {vs : List PV} {den : Den} [z : Zs mu] [li : LenI as mu] [g : WL (GsX l ex) as fr fr1 os] [h0 : GetF fr i (some ⟨m + 1, p, v0⟩)] [h1 : GetF fr1 i (some ⟨m + 1, p, v0⟩)]
    [w : Vs os vs] [gd : GetG l j den] [d : DenR den (v0 :: vs) v k [out]] [an : AlNil os] [st : SetF fr1 i (some ⟨m + 1, p, out⟩) fr2] : WV (GsX l ex) (.call j ((m + 1) :: mu) false (.cons (.var i) as)) fr fr2 ⟨v, k, [], false⟩ :=
  ⟨call1_ok z li.h g.h h0.h h1.h w.h (gd.h _) d.h an.h (fun z => nomatch z) st.h⟩
/-! statements: blocks that stand behind one another -/
noncomputable def evK (G : GE) : List ISs → Fr → Option (Fr × Fl)
  | [], fr => some (fr, .next)
  | b :: bs, fr => (evSs G b fr).bind fun (fr1, fl) => match fl with
    | .next => evK G bs fr1
    | .brk => some (fr1, .brk)
    | .cont => some (fr1, .cont)
    | .ret v m => some (fr1, .ret v m)
class WK (G : GE) (bs : List ISs) (fr : Fr) (r : outParam (Option (Fr × Fl))) : Prop where
  h : evK G bs fr = r
theorem evK_one {b : ISs} {fr : Fr} : evK G [b] fr = evSs G b fr := by
  unfold evK
  cases e : evSs G b fr with
  | none => rfl
  | some pr =>
    obtain ⟨fr1, fl⟩ := pr
    cases fl <;> rfl
theorem evK_cons {a : IS} {as : ISs} {bs : List ISs} {fr : Fr} : evK G (.cons a as :: bs) fr = (evS G a fr).bind fun (fr1, fl) => match fl with
    | .next => evK G (as :: bs) fr1
    | .brk => some (fr1, .brk)
    | .cont => some (fr1, .cont)
    | .ret v m => some (fr1, .ret v m) := by
  show (evSs G (.cons a as) fr).bind _ = _
  rw [evSs]
  cases e : evS G a fr with
  | none => rfl
  | some pr =>
    obtain ⟨fr1, fl⟩ := pr
    cases fl <;> rfl
theorem evK_app {a b : ISs} {bs : List ISs} {fr : Fr} : evK G (a :: b :: bs) fr = (evSs G a fr).bind fun (fr1, fl) => match fl with
    | .next => evK G (b :: bs) fr1
    | .brk => some (fr1, .brk)
    | .cont => some (fr1, .cont)
    | .ret v m => some (fr1, .ret v m) := rfl
instance wk_end {fr : Fr} : WK G [] fr (some (fr, .next)) := ⟨rfl⟩
instance wk_nil {bs : List ISs} {fr : Fr} {r : Option (Fr × Fl)} [g : WK G bs fr r] : WK G (.nil :: bs) fr r := ⟨by
  rw [← g.h]
  show (evSs G .nil fr).bind _ = _
  rw [evSs]
  rfl⟩
class WDem (al : List Nat) (fr : Fr) (fr' : outParam Fr) : Prop where
  h : dem al fr = some fr'
instance wd_n {fr : Fr} : WDem [] fr fr := ⟨rfl⟩
instance wd_c {i m : Nat} {v : PV} {al : List Nat} {fr fr1 fr2 : Fr} [g : GetF fr i (some ⟨m, false, v⟩)] [s : SetF fr i (some ⟨0, false, v⟩) fr1] [r : WDem al fr1 fr2] : WDem (i :: al) fr fr2 := ⟨by
  unfold dem
  rw [g.h]
  simp only
  rw [s.h]
  exact r.h⟩
class WSet (i m : Nat) (v : PV) (fr : Fr) (fr' : outParam Fr) : Prop where
  h : setS i m v fr = some fr'
/-- a slot that may be bound -/
class Fre (o : Option Sl) : Prop where
  h : ∀ s, o = some s → s.pin = false
instance fre_n : Fre none := ⟨fun _ z => nomatch z⟩
instance fre_s {m : Nat} {v : PV} : Fre (some ⟨m, false, v⟩) := ⟨fun _ z => by cases z; rfl⟩
instance ws_i {i m : Nat} {v : PV} {o : Option Sl} {fr fr' : Fr} [g : GetF fr i o] [f : Fre o] [s : SetF fr i (some ⟨m, false, v⟩) fr'] : WSet i m v fr fr' := ⟨by
  unfold setS
  rw [g.h]
  cases o with
  | none => simp only; rw [s.h]
  | some s0 =>
    have := f.h s0 rfl
    simp only
    rw [this, s.h]
    rfl⟩
instance wk_asg {i : Nat} {e : IE} {as : ISs} {bs : List ISs} {fr fr1 fr2 fr3 : Fr} {v : PV} {m : Nat} {al : List Nat} {t : Bool} {r : Option (Fr × Fl)} [g : WV G e fr fr1 ⟨v, m, al, t⟩] [d : WDem al fr1 fr2] [s : WSet i m v fr2 fr3] [k : WK G (as :: bs) fr3 r] : WK G (.cons (.asg i e) as :: bs) fr r := ⟨by
  rw [evK_cons, es_asg g.h d.h s.h]
  exact k.h⟩
class NVar (e : IE) : Prop where
  h : ∀ i, e ≠ .var i
instance nv_p {p : Prim} {as : IEs} : NVar (.prim p as) := ⟨fun _ z => nomatch z⟩
instance nv_c {v : PV} : NVar (.cst v) := ⟨fun _ z => nomatch z⟩
instance nv_and {a b : IE} : NVar (.and a b) := ⟨fun _ z => nomatch z⟩
instance nv_or {a b : IE} : NVar (.or a b) := ⟨fun _ z => nomatch z⟩
instance nv_not {a : IE} : NVar (.not a) := ⟨fun _ z => nomatch z⟩
instance nv_ife {a b c : IE} : NVar (.ife a b c) := ⟨fun _ z => nomatch z⟩
instance nv_call {j : Nat} {mu : List Nat} {na : Bool} {as : IEs} : NVar (.call j mu na as) := ⟨fun _ z => nomatch z⟩
instance nv_lc {own : List Nat} {pt : Pat} {it : IT} {ts : IEs} {e : IE} {k : Nat} {als : List Nat} : NVar (.lc own pt it ts e k als) := ⟨fun _ z => nomatch z⟩
instance nv_chain {p q : Prim} {a b c : IE} : NVar (.chain p q a b c) := ⟨fun _ z => nomatch z⟩
instance wk_ret {e : IE} {as : ISs} {bs : List ISs} {fr fr1 fr2 : Fr} {v : PV} {m : Nat} {al : List Nat} {t : Bool} [n : NVar e] [g : WV G e fr fr1 ⟨v, m, al, t⟩] [d : WDem al fr1 fr2] : WK G (.cons (.ret e) as :: bs) fr (some (fr2, .ret v m)) := ⟨by
  rw [evK_cons, es_rt n.h g.h d.h rfl rfl]
  rfl⟩
instance wk_retV0 {i : Nat} {as : ISs} {bs : List ISs} {fr : Fr} {v : PV} {p : Bool} [g : GetF fr i (some ⟨0, p, v⟩)] : WK G (.cons (.ret (.var i)) as :: bs) fr (some (fr, .ret v 0)) := ⟨by
  rw [evK_cons, es_rtV g.h]
  rfl⟩
instance wk_retV1 {i m : Nat} {as : ISs} {bs : List ISs} {fr fr1 : Fr} {v : PV} [g : GetF fr i (some ⟨m + 1, false, v⟩)] [s : SetF fr i none fr1] : WK G (.cons (.ret (.var i)) as :: bs) fr (some (fr1, .ret v (m + 1))) := ⟨by
  rw [evK_cons, evS, g.h]
  simp only
  rw [if_neg (by omega), if_neg (by decide), s.h]
  rfl⟩
/-- a truth that may be known -/
class KnO (k : Bool) (r : outParam (Option Bool)) : Prop where
  h : ∀ b, r = some b → k = b
instance (priority := low) kno_d {k : Bool} : KnO k none := ⟨fun _ z => nomatch z⟩
instance kno_t : KnO true (some true) := ⟨fun _ z => by cases z; rfl⟩
instance kno_f : KnO false (some false) := ⟨fun _ z => by cases z; rfl⟩
abbrev Kn (k b : Bool) : Prop := KnO k (some b)
theorem kn_of {k b : Bool} (h : k = b) : Kn k b := ⟨fun _ z => by cases z; exact h⟩
class WBr (G : GE) (ko : Option Bool) (k : Bool) (a b : List ISs) (fr : Fr) (r : outParam (Option (Fr × Fl))) : Prop where
  h : (∀ b, ko = some b → k = b) → (if k = true then evK G a fr else evK G b fr) = r
instance wb_n {k : Bool} {a b : List ISs} {fr : Fr} {r1 r2 : Option (Fr × Fl)} [h1 : WK G a fr r1] [h2 : WK G b fr r2] : WBr G none k a b fr (if k = true then r1 else r2) := ⟨fun _ => by rw [h1.h, h2.h]⟩
instance wb_t {k : Bool} {a b : List ISs} {fr : Fr} {r1 : Option (Fr × Fl)} [h1 : WK G a fr r1] : WBr G (some true) k a b fr r1 := ⟨fun e => by rw [e true rfl, if_pos rfl, h1.h]⟩
instance wb_f {k : Bool} {a b : List ISs} {fr : Fr} {r2 : Option (Fr × Fl)} [h2 : WK G b fr r2] : WBr G (some false) k a b fr r2 := ⟨fun e => by rw [e false rfl, if_neg (by decide), h2.h]⟩
instance wk_ite {c : IE} {a b as : ISs} {bs : List ISs} {fr fr1 : Fr} {k : Bool} {m : Nat} {al : List Nat} {t : Bool} {ko : Option Bool} {r : Option (Fr × Fl)} [g : WV G c fr fr1 ⟨.bl k, m, al, t⟩] [kn : KnO k ko] [h1 : WBr G ko k (a :: as :: bs) (b :: as :: bs) fr1 r] : WK G (.cons (.ite c a b) as :: bs) fr r := ⟨by
  rw [evK_cons, es_ite g.h rfl, ← h1.h kn.h]
  cases k <;> rfl⟩
/-- an item of an owned list is set -/
instance wk_seti {i p' n : Nat} {e ix : IE} {as : ISs} {bs : List ISs} {fr fr1 fr2 fr3 fr4 : Fr} {v : PV} {m : Nat} {al : List Nat} {t p : Bool} {m2 : Nat} {al2 : List Nat} {t2 : Bool} {vs vs' : List PV} {r : Option (Fr × Fl)} [g : WV G e fr fr1 ⟨v, m, al, t⟩] [dj : DjE al ix] [g1 : GetF fr1 i (some ⟨p', p, .lst vs⟩)]
    [gi : WV G ix fr1 fr2 ⟨.int (no_index (OfNat.ofNat n)), m2, al2, t2⟩] [d : WDem al fr2 fr3] [g3 : GetF fr3 i (some ⟨1, p, .lst vs⟩)] [sp : SetP vs n v vs'] [s : SetF fr3 i (some ⟨1, p, .lst vs'⟩) fr4] [k : WK G (as :: bs) fr4 r] : WK G (.cons (.seti i ix e) as :: bs) fr r := ⟨by
  have hi : L2.ixN vs.length (OfNat.ofNat n : Int) = some n := ixN_nat sp.h.1
  rw [evK_cons, evS, g.h]
  simp only [Option.bind_some]
  rw [if_pos (by rw [dj.h, Bool.true_and]; unfold isLAt; rw [g1.h]; rfl), gi.h]
  simp only [Option.bind_some]
  rw [d.h]
  simp only [Option.bind_some]
  rw [g3.h]
  simp only [hi]
  rw [if_pos (by unfold putOk; rfl), sp.h.2, s.h]
  exact k.h⟩
instance wk_augi {i n : Nat} {e ix : IE} {as : ISs} {bs : List ISs} {fr fr1 fr2 fr3 : Fr} {x y : Int} {m : Nat} {al : List Nat} {t p : Bool} {m2 : Nat} {al2 : List Nat} {t2 : Bool} {vs vs' vs0 vs1 : List PV} {p0 p1 : Nat} {q0 q1 : Bool} {r : Option (Fr × Fl)} [g0 : GetF fr i (some ⟨p0, q0, .lst vs0⟩)] [gi : WV G ix fr fr1 ⟨.int (no_index (OfNat.ofNat n)), m2, al2, t2⟩] [g1 : GetF fr1 i (some ⟨p1, q1, .lst vs1⟩)] [gp : GetP vs1 n (.int x)]
    [g : WV G e fr1 fr2 ⟨.int y, m, al, t⟩] [g3 : GetF fr2 i (some ⟨1, p, .lst vs⟩)] [sp : SetP vs n (.int (x + y)) vs'] [s : SetF fr2 i (some ⟨1, p, .lst vs'⟩) fr3] [k : WK G (as :: bs) fr3 r] : WK G (.cons (.augi i .add ix e) as :: bs) fr r := ⟨by
  have hi : L2.ixN vs.length (OfNat.ofNat n : Int) = some n := ixN_nat sp.h.1
  rw [evK_cons, evS, if_neg (by unfold isLAt; rw [g0.h]; exact Bool.noConfusion), gi.h]
  simp only [Option.bind_some]
  rw [if_neg (by unfold isLAt; rw [g1.h]; exact Bool.noConfusion), g1.h]
  simp only
  have ix1 : pvIdx (.lst vs1) (.int (OfNat.ofNat n)) = some (.int x) := pv_ixL n rfl gp.h
  rw [ix1]
  simp only [Option.bind_some]
  rw [g.h]
  simp only [Option.bind_some, augF]
  rw [g3.h]
  simp only [hi]
  rw [if_pos trivial, sp.h.2, s.h]
  exact k.h⟩
instance wk_aug {i : Nat} {e : IE} {as : ISs} {bs : List ISs} {fr fr1 fr2 : Fr} {x y : Int} {m m0 : Nat} {al : List Nat} {t p : Bool} {r : Option (Fr × Fl)} [g0 : GetF fr i (some ⟨m0, p, .int x⟩)] [g : WV G e fr fr1 ⟨.int y, m, al, t⟩] [s : WSet i 0 (.int (x + y)) fr1 fr2] [k : WK G (as :: bs) fr2 r] : WK G (.cons (.aug i .add e) as :: bs) fr r := ⟨by
  rw [evK_cons, evS, g.h]
  simp only [Option.bind_some]
  rw [g0.h]
  simp only [augF, Option.bind_some]
  rw [s.h]
  exact k.h⟩
/-- what a def gives, from its body's end -/
def finD (mu : List Nat) : Option (Fr × Fl) → Option (PV × Nat × List PV)
  | some (fr, .ret v m) => (outsOf 0 mu fr).bind fun outs => some (v, m, outs)
  | some (fr, .next) => (outsOf 0 mu fr).bind fun outs => some (.non, 0, outs)
  | some (fr, _) => (outsOf 0 mu fr).bind fun _ => none
  | none => none
theorem finD_if {mu : List Nat} {c : Prop} [Decidable c] {a b : Option (Fr × Fl)} : finD mu (if c then a else b) = if c then finD mu a else finD mu b := by split <;> rfl
theorem den_k {n : Nat} {mu : List Nat} {is : ISs} {vs : List PV} {fr0 : Fr} {r : Option (Fr × Fl)} (hl : vs.length = mu.length) (hf : initFr n mu vs = fr0) (w : WK G [is] fr0 r) : denOf G n mu is vs = finD mu r := by
  unfold denOf
  rw [if_pos hl, hf, ← evK_one, w.h]
  cases r with
  | none => rfl
  | some pr =>
    obtain ⟨fr, fl⟩ := pr
    cases fl <;> rfl
end
end VI
namespace VI
open PySem PySem.Spec PyProof.Rows L2

section
variable {G : GE}
theorem ss_of {b : ISs} {fr : Fr} {r : Option (Fr × Fl)} (w : WK G [b] fr r) : evSs G b fr = r := by rw [← evK_one]; exact w.h
/-! targets -/
class WPat (p : Pat) (v : PV) (fr : Fr) (fr' : outParam Fr) : Prop where
  h : asgP p v fr = some fr'
class WPats (p : Pats) (vs : List PV) (fr : Fr) (fr' : outParam Fr) : Prop where
  h : asgPs p vs fr = some fr'
instance wp_n {i : Nat} {v : PV} {fr fr' : Fr} [s : WSet i 0 v fr fr'] : WPat (.nm i) v fr fr' := ⟨by rw [asgP]; exact s.h⟩
instance wps_n {fr : Fr} : WPats .nil [] fr fr := ⟨by rw [asgPs]⟩
instance wps_c {p : Pat} {ps : Pats} {v : PV} {vs : List PV} {fr fr1 fr2 : Fr} [a : WPat p v fr fr1] [b : WPats ps vs fr1 fr2] : WPats (.cons p ps) (v :: vs) fr fr2 := ⟨by rw [asgPs_cons]; simp only; rw [a.h]; exact b.h⟩
instance wp_t {ps : Pats} {vs : List PV} {fr fr' : Fr} [s : WPats ps vs fr fr'] : WPat (.tp ps) (.tup vs) fr fr' := ⟨by rw [asgP]; exact s.h⟩
instance wp_l {ps : Pats} {vs : List PV} {fr fr' : Fr} [s : WPats ps vs fr fr'] : WPat (.tp ps) (.lst vs) fr fr' := ⟨by rw [asgP]; exact s.h⟩
instance wk_asgT {p : Pat} {e : IE} {as : ISs} {bs : List ISs} {fr fr1 fr2 fr3 : Fr} {v : PV} {m : Nat} {al : List Nat} {t : Bool} {r : Option (Fr × Fl)} [g : WV G e fr fr1 ⟨v, m, al, t⟩] [d : WDem al fr1 fr2] [s : WPat p v fr2 fr3] [k : WK G (as :: bs) fr3 r] : WK G (.cons (.asgT p e) as :: bs) fr r := ⟨by
  rw [evK_cons, es_asgT g.h d.h s.h]
  exact k.h⟩
/-! what is walked -/
class WI (G : GE) (it : IT) (fr : Fr) (fr' : outParam Fr) (vs : outParam (List PV)) (src al : outParam (List Nat)) : Prop where
  h : evI G it fr = some (fr', ⟨vs, src, al⟩)
class EL1 (al : List Nat) (t : Bool) (r : outParam (List Nat)) : Prop where
  h : ∀ v m, elal ⟨v, m, al, t⟩ = r
instance el1_t {al : List Nat} : EL1 al true [] := ⟨fun _ _ => rfl⟩
instance el1_f {al : List Nat} : EL1 al false al := ⟨fun _ _ => rfl⟩
instance wi_seqL {e : IE} {fr fr1 : Fr} {vs : List PV} {m : Nat} {al r : List Nat} {t : Bool} [g : WV G e fr fr1 ⟨.lst vs, m, al, t⟩] [l : EL1 al t r] : WI G (.seq e) fr fr1 vs al r := ⟨by rw [evI, g.h]; simp only [Option.bind_some, iterOf]; rw [l.h]⟩
instance wi_seqT {e : IE} {fr fr1 : Fr} {vs : List PV} {m : Nat} {al r : List Nat} {t : Bool} [g : WV G e fr fr1 ⟨.tup vs, m, al, t⟩] [l : EL1 al t r] : WI G (.seq e) fr fr1 vs al r := ⟨by rw [evI, g.h]; simp only [Option.bind_some, iterOf]; rw [l.h]⟩
/-- below 2^62 in size -/
class B62 (x : Int) : Prop where
  h : -(2 ^ 62) ≤ x ∧ x < 2 ^ 62
instance b62_lit {n : Nat} [a : Tr (Nat.ble (n + 1) 4611686018427387904)] : B62 (no_index (OfNat.ofNat n : Int)) := ⟨by
  have h1 := Nat.le_of_ble_eq_true a.h
  show -(2 ^ 62) ≤ ((n : Nat) : Int) ∧ ((n : Nat) : Int) < 2 ^ 62
  omega⟩
instance wi_r1 {e : IE} {fr fr1 : Fr} {j : Int} {m : Nat} {al : List Nat} {t : Bool} [g : WV G e fr fr1 ⟨.int j, m, al, t⟩] [b : B62 j] : WI G (.rng1 e) fr fr1 (rangeP 0 j.toNat) [] [] := ⟨by
  rw [evI, g.h]
  simp only [Option.bind_some, rng1F]
  rw [if_pos b.h]
  rfl⟩
instance wi_r2 {e e2 : IE} {fr fr1 fr2 : Fr} {i j : Int} {m m2 : Nat} {al al2 : List Nat} {t t2 : Bool} [g : WV G e fr fr1 ⟨.int i, m, al, t⟩] [g2 : WV G e2 fr1 fr2 ⟨.int j, m2, al2, t2⟩] [b : B62 i] [c : B62 j] : WI G (.rng2 e e2) fr fr2 (rangeP i (j - i).toNat) [] [] := ⟨by
  rw [evI, g.h]
  simp only [Option.bind_some]
  rw [g2.h]
  simp only [Option.bind_some, rng2F]
  rw [if_pos ⟨b.h.1, b.h.2, c.h.1, c.h.2⟩]
  rfl⟩
instance wi_rev {e : IE} {fr fr1 : Fr} {vs : List PV} {m : Nat} {al r : List Nat} {t : Bool} [g : WV G e fr fr1 ⟨.lst vs, m, al, t⟩] [l : EL1 al t r] : WI G (.rev e) fr fr1 vs.reverse al r := ⟨by rw [evI, g.h]; simp only [Option.bind_some]; rw [l.h]⟩
instance wi_enum {e : IE} {fr fr1 : Fr} {vs : List PV} {m : Nat} {al r : List Nat} {t : Bool} [g : WV G e fr fr1 ⟨.lst vs, m, al, t⟩] [l : EL1 al t r] : WI G (.enum e) fr fr1 (enumP 0 vs) al r := ⟨by rw [evI, g.h]; simp only [Option.bind_some]; rw [l.h]⟩

/-! loops -/
/-- a loop, told from outside -/
class WSt (G : GE) (s : IS) (fr : Fr) (fr' : outParam Fr) (fl : outParam Fl) : Prop where
  h : evS G s fr = some (fr', fl)
instance wk_for {p : Pat} {it : IT} {b as : ISs} {bs : List ISs} {fr fr1 : Fr} {r : Option (Fr × Fl)} [s : WSt G (.for p it b) fr fr1 .next] [k : WK G (as :: bs) fr1 r] : WK G (.cons (.for p it b) as :: bs) fr r := ⟨by
  rw [evK_cons, s.h]
  exact k.h⟩
instance wk_forR {p : Pat} {it : IT} {b as : ISs} {bs : List ISs} {fr fr1 : Fr} {v : PV} {m : Nat} [s : WSt G (.for p it b) fr fr1 (.ret v m)] : WK G (.cons (.for p it b) as :: bs) fr (some (fr1, .ret v m)) := ⟨by
  rw [evK_cons, s.h]
  rfl⟩
instance wk_whl {c : IE} {b as : ISs} {bs : List ISs} {fr fr1 : Fr} {r : Option (Fr × Fl)} [s : WSt G (.whl c b) fr fr1 .next] [k : WK G (as :: bs) fr1 r] : WK G (.cons (.whl c b) as :: bs) fr r := ⟨by
  rw [evK_cons, s.h]
  exact k.h⟩
instance wk_whlR {c : IE} {b as : ISs} {bs : List ISs} {fr fr1 : Fr} {v : PV} {m : Nat} [s : WSt G (.whl c b) fr fr1 (.ret v m)] : WK G (.cons (.whl c b) as :: bs) fr (some (fr1, .ret v m)) := ⟨by
  rw [evK_cons, s.h]
  rfl⟩
theorem es_for {p : Pat} {it : IT} {b : ISs} {fr fr1 fr2 : Fr} {vs : List PV} {src al : List Nat} {r : Option (Fr × Fl)} (w : WI G it fr fr1 vs src al) (dj : disj src (mutdSs b) = true) (d : dem al fr1 = some fr2) (h : forGo (asgP p) (evSs G b) vs fr2 = r) : evS G (.for p it b) fr = r := by
  rw [evS, w.h]
  simp only [Option.bind_some]
  rw [if_pos dj, d]
  exact h
/-- all turns are walked -/
theorem forGo_all {asg : PV → Fr → Option Fr} {b : Fr → Option (Fr × Fl)} {vs : List PV} (I : Nat → Fr → Prop) (h : ∀ k v fr, vs[k]? = some v → I k fr → ∃ fr1 fr2 fl, asg v fr = some fr1 ∧ b fr1 = some (fr2, fl) ∧ (fl = .next ∨ fl = .cont) ∧ I (k + 1) fr2) :
    ∀ fr, I 0 fr → ∃ fr', forGo asg b vs fr = some (fr', .next) ∧ I vs.length fr' := by
  have key : ∀ (n : Nat) (fr : Fr), I n fr → ∃ fr', forGo asg b (vs.drop n) fr = some (fr', .next) ∧ I (max n vs.length) fr' := by
    intro n
    generalize hm : vs.length - n = m
    induction m generalizing n with
    | zero =>
      intro fr i
      rw [List.drop_eq_nil_of_le (by omega)]
      exact ⟨fr, rfl, by rw [Nat.max_eq_left (by omega)]; exact i⟩
    | succ m ih =>
      intro fr i
      have hn : n < vs.length := by omega
      rw [List.drop_eq_getElem_cons hn, forGo_cons]
      obtain ⟨fr1, fr2, fl, h1, h2, h3, h4⟩ := h n vs[n] fr (List.getElem?_eq_getElem hn) i
      obtain ⟨fr', h5, h6⟩ := ih (n + 1) (by omega) fr2 h4
      rw [h1]
      simp only [Option.bind_some]
      rw [h2]
      refine ⟨fr', ?_, by rw [show max n vs.length = max (n + 1) vs.length by omega]; exact h6⟩
      rcases h3 with rfl | rfl <;> exact h5
  intro fr i
  obtain ⟨fr', h1, h2⟩ := key 0 fr i
  exact ⟨fr', h1, by rw [Nat.max_eq_right (Nat.zero_le _)] at h2; exact h2⟩
/-- a walk that may end by a return -/
theorem forGo_ret {asg : PV → Fr → Option Fr} {b : Fr → Option (Fr × Fl)} {vs : List PV} (I : Nat → Fr → Prop) (P : Fr → PV → Nat → Prop)
    (h : ∀ k v fr, vs[k]? = some v → I k fr → (∃ fr1 fr2 fl, asg v fr = some fr1 ∧ b fr1 = some (fr2, fl) ∧ (fl = .next ∨ fl = .cont) ∧ I (k + 1) fr2) ∨ ∃ fr1 fr2 u m, asg v fr = some fr1 ∧ b fr1 = some (fr2, .ret u m) ∧ P fr2 u m) :
    ∀ fr, I 0 fr → (∃ fr', forGo asg b vs fr = some (fr', .next) ∧ I vs.length fr') ∨ ∃ fr' u m, forGo asg b vs fr = some (fr', .ret u m) ∧ P fr' u m := by
  have key : ∀ (n : Nat) (fr : Fr), I n fr → (∃ fr', forGo asg b (vs.drop n) fr = some (fr', .next) ∧ I (max n vs.length) fr') ∨ ∃ fr' u m, forGo asg b (vs.drop n) fr = some (fr', .ret u m) ∧ P fr' u m := by
    intro n
    generalize hm : vs.length - n = m
    induction m generalizing n with
    | zero =>
      intro fr i
      rw [List.drop_eq_nil_of_le (by omega)]
      exact .inl ⟨fr, rfl, by rw [Nat.max_eq_left (by omega)]; exact i⟩
    | succ m ih =>
      intro fr i
      have hn : n < vs.length := by omega
      rw [List.drop_eq_getElem_cons hn, forGo_cons]
      rcases h n vs[n] fr (List.getElem?_eq_getElem hn) i with ⟨fr1, fr2, fl, h1, h2, h3, h4⟩ | ⟨fr1, fr2, u, m, h1, h2, h3⟩
      · rw [h1]
        simp only [Option.bind_some]
        rw [h2]
        have e : max n vs.length = max (n + 1) vs.length := by omega
        rw [e]
        rcases h3 with rfl | rfl <;> exact ih (n + 1) (by omega) fr2 h4
      · refine .inr ⟨fr2, u, m, ?_, h3⟩
        rw [h1]
        simp only [Option.bind_some]
        rw [h2]
        rfl
  intro fr i
  have := key 0 fr i
  rw [Nat.max_eq_right (Nat.zero_le _)] at this
  exact this
theorem rangeP_at {lo : Int} {n k : Nat} {v : PV} (h : (rangeP lo n)[k]? = some v) : v = .int (lo + k) ∧ k < n := ⟨rangeP_get h, by have := lt_of_some h; rw [rangeP_length] at this; exact this⟩

/-- a while by a measure -/
theorem es_whl {c : IE} {b : ISs} (I : Nat → Fr → Prop) (Post : Fr → Prop)
    (h : ∀ n fr, I n fr → (∃ fr1 m al t, evE G c fr = some (fr1, ⟨.bl false, m, al, t⟩) ∧ Post fr1) ∨ ∃ fr1 m al t fr2 fl k, evE G c fr = some (fr1, ⟨.bl true, m, al, t⟩) ∧ evSs G b fr1 = some (fr2, fl) ∧ (fl = .next ∨ fl = .cont) ∧ k < n ∧ I k fr2) :
    ∀ n fr, I n fr → ∃ fr', evS G (.whl c b) fr = some (fr', .next) ∧ Post fr' := by
  intro n
  induction n using Nat.strongRecOn with
  | ind n ih =>
    intro fr i
    rcases h n fr i with ⟨fr1, m, al, t, h1, p⟩ | ⟨fr1, m, al, t, fr2, fl, k, h1, h2, h3, hk, i2⟩
    · refine ⟨fr1, ?_, p⟩
      rw [evS, wh_eq, h1]
      rfl
    · obtain ⟨fr', h4, p⟩ := ih k hk fr2 i2
      refine ⟨fr', ?_, p⟩
      rw [evS] at h4 ⊢
      rw [wh_eq, h1]
      simp only [Option.bind_some]
      rw [h2]
      simp only [Option.bind_some]
      rcases h3 with rfl | rfl <;> exact h4
/-- a list that is short enough to grow -/
class Sh (vs : List PV) : Prop where
  h : vs.length < sizeLine
instance wk_app1 {i : Nat} {e : IE} {as : ISs} {bs : List ISs} {fr fr1 fr2 fr3 : Fr} {v : PV} {m p0 : Nat} {al : List Nat} {t p q0 : Bool} {vs vs0 : List PV} {r : Option (Fr × Fl)} [g0 : GetF fr i (some ⟨p0, q0, .lst vs0⟩)] [g : WV G e fr fr1 ⟨v, m, al, t⟩] [d : WDem al fr1 fr2] [g2 : GetF fr2 i (some ⟨1, p, .lst vs⟩)] [sh : Sh vs] [s : SetF fr2 i (some ⟨1, p, .lst (vs ++ [v])⟩) fr3] [k : WK G (as :: bs) fr3 r] :
    WK G (.cons (.app i e) as :: bs) fr r := ⟨by
  rw [evK_cons, evS, if_neg (by unfold isLAt; rw [g0.h]; exact Bool.noConfusion), g.h]
  simp only [Option.bind_some]
  rw [d.h]
  simp only [Option.bind_some]
  rw [g2.h]
  simp only
  rw [if_pos (by rw [decide_eq_true sh.h]; rfl), s.h]
  exact k.h⟩
/-! comprehensions -/
theorem back_self {fr1 fr6 : Fr} {own : List Nat} (h : wipeF fr6 own = wipeF fr1 own) : backF fr1 fr6 own = fr1 := by
  have hl : fr6.length = fr1.length := by
    have := congrArg List.length h
    rwa [wipeF_length, wipeF_length] at this
  apply List.ext_getElem?
  intro i
  by_cases q : i ∈ own
  · exact backF_in hl q
  · rw [backF_out q, ← wipeF_out (fr := fr6) q, h, wipeF_out q]
theorem wipe_wipe (fr : Fr) (own : List Nat) : wipeF (wipeF fr own) own = wipeF fr own := by
  apply List.ext_getElem?
  intro i
  by_cases q : i ∈ own
  · have key : ∀ (g : Fr), (wipeF g own)[i]? = if i < g.length then some none else none := by
      intro g
      by_cases l : i < g.length
      · rw [if_pos l]
        have : i < (wipeF g own).length := by rw [wipeF_length]; exact l
        rw [List.getElem?_eq_getElem this]
        cases e : (wipeF g own)[i] with
        | none => rfl
        | some s => exact absurd (by rw [List.getElem?_eq_getElem this, e]) (wipeF_in (fr := g) q s)
      · rw [if_neg l, List.getElem?_eq_none (by rw [wipeF_length]; omega)]
    rw [key, key, wipeF_length]
  · rw [wipeF_out q]
/-- a comprehension whose turns leave the frame as it is: f tells what a turn gives -/
theorem lc_of {own : List Nat} {pt : Pat} {it : IT} {ts : IEs} {e : IE} {k : Nat} {als : List Nat} {fr fr1 fr0 : Fr} {vs : List PV} {src : List Nat} (w : WI G it fr fr1 vs src []) (h0 : wipeF fr1 own = fr0) (d1 : disj src (mutdL ts ++ mutd e) = true) (d2 : disj als (mutdL ts ++ mutd e) = true) (f : PV → Option PV) (hz : vs.length ≤ sizeLine)
    (h : ∀ v ∈ vs, ∃ fr5, lcTurn G own pt ts e k als v fr0 = some (fr5, f v) ∧ wipeF fr5 own = fr0) : evE G (.lc own pt it ts e k als) fr = some (fr1, ⟨.lst (vs.filterMap f), k, als, false⟩) := by
  subst h0
  rw [evE_lc, w.h]
  simp only [Option.bind_some]
  rw [if_pos (by rw [d1, d2]; rfl)]
  have tw : ∀ v fr2, wipeF fr2 own = wipeF fr1 own → lcTurn G own pt ts e k als v fr2 = lcTurn G own pt ts e k als v (wipeF fr1 own) := fun v fr2 e => by
    unfold lcTurn
    rw [e, wipe_wipe]
  have key : ∀ (vs : List PV) (fr2 : Fr) (acc : List PV), (∀ v ∈ vs, ∃ fr5, lcTurn G own pt ts e k als v (wipeF fr1 own) = some (fr5, f v) ∧ wipeF fr5 own = wipeF fr1 own) → wipeF fr2 own = wipeF fr1 own → acc.length + vs.length ≤ sizeLine →
      ∃ fr6, lcGo (lcTurn G own pt ts e k als) vs fr2 acc = some (fr6, acc ++ vs.filterMap f) ∧ wipeF fr6 own = wipeF fr1 own := by
    intro vs
    induction vs with
    | nil => intro fr2 acc _ hw _; exact ⟨fr2, by rw [List.filterMap_nil, List.append_nil]; rfl, hw⟩
    | cons v vs ih =>
      intro fr2 acc h hw hl
      rw [List.length_cons] at hl
      obtain ⟨fr5, h1, h2⟩ := h v List.mem_cons_self
      rw [lcGo_cons, tw v fr2 hw, h1]
      simp only [Option.bind_some]
      cases ef : f v with
      | none =>
        obtain ⟨fr6, h3, h4⟩ := ih fr5 acc (fun u hu => h u (List.mem_cons_of_mem _ hu)) h2 (by omega)
        exact ⟨fr6, by rw [List.filterMap_cons, ef]; exact h3, h4⟩
      | some x =>
        simp only
        rw [if_pos (by omega)]
        obtain ⟨fr6, h3, h4⟩ := ih fr5 (acc ++ [x]) (fun u hu => h u (List.mem_cons_of_mem _ hu)) h2 (by rw [List.length_append, List.length_singleton]; omega)
        refine ⟨fr6, ?_, h4⟩
        rw [h3, List.filterMap_cons, ef, List.append_assoc]
        rfl
  obtain ⟨fr6, h1, h2⟩ := key vs fr1 [] h rfl (by rw [List.length_nil]; omega)
  rw [h1]
  simp only [Option.bind_some, List.nil_append]
  rw [back_self h2]
/-- one turn without tests -/
theorem lc_turn {own : List Nat} {pt : Pat} {e : IE} {k : Nat} {als : List Nat} {fr0 fr3 fr5 : Fr} {v : PV} {o : Od} (hw : wipeF fr0 own = fr0) (p : WPat pt v fr0 fr3) (g : WV G e fr3 fr5 o) (ok : elOk k als o = true) {r : Option PV} (hr : some o.v = r) : lcTurn G own pt .nil e k als v fr0 = some (fr5, r) := by
  subst hr
  unfold lcTurn
  rw [hw, p.h]
  simp only [Option.bind_some]
  rw [evT]
  simp only [Option.bind_some]
  rw [g.h]
  simp only [Option.bind_some]
  rw [if_pos ok]
/-- one turn with a test -/
theorem lc_turnT {own : List Nat} {pt : Pat} {c e : IE} {k : Nat} {als : List Nat} {fr0 fr3 fr4 fr5 : Fr} {v : PV} {o : Od} {b : Bool} {m : Nat} {al : List Nat} {t : Bool} (hw : wipeF fr0 own = fr0) (p : WPat pt v fr0 fr3) (gt : WV G c fr3 fr4 ⟨.bl b, m, al, t⟩) (g : b = true → evE G e fr4 = some (fr5, o)) (ok : elOk k als o = true) : lcTurn G own pt (.cons c .nil) e k als v fr0 = some (if b = true then (fr5, some o.v) else (fr4, none)) := by
  unfold lcTurn
  rw [hw, p.h]
  simp only [Option.bind_some]
  rw [evT, gt.h]
  simp only [Option.bind_some]
  cases b with
  | true =>
    simp only
    rw [g rfl]
    simp only [Option.bind_some]
    rw [if_pos ok, if_pos trivial]
  | false => simp
end
end VI
namespace VI
open PySem PySem.Spec PyProof.Rows L2
/-! ### the exceptions' classes -/
/-- a class's method -/
def metOf (st : Stmt) (j : Nat) : Stmt := match st with
  | .ClassDef _ _ _ body _ _ _ _ _ _ _ => body.getD j (.Pass ⟨0, 0, 0, 0⟩)
  | _ => .Pass ⟨0, 0, 0, 0⟩
/-- self.f = x -/
def isSt (st : Stmt) (f x : Str) : Bool := match st with
  | .Assign [.Attribute (.Name s _) g _] (.Name y _) _ => decide (s = ("self" : Str)) && (decide (g = f) && decide (y = x))
  | _ => false
theorem isSt_ok {st : Stmt} {f x : Str} (h : isSt st f x = true) : ∃ p1 p2 p3 p4, st = .Assign [.Attribute (.Name "self" p1) f p2] (.Name x p3) p4 := by
  unfold isSt at h
  split at h
  · simp only [Bool.and_eq_true, decide_eq_true_eq] at h
    obtain ⟨rfl, rfl, rfl⟩ := h
    exact ⟨_, _, _, _, rfl⟩
  · cases h
section
variable {P : Program} {w : World} {K : PySem.W.Frag} {mg : Str → Option Value} {base : Heap} {G : GE}
theorem vis_par {N ps : List Str} {sc : Scope} (S : FnScope N ps sc) {x : Str} (hx : x ∈ ps) : Vis sc x := (S.par x hx).imp id .inl
theorem ini1 {qual f : Str} {pa : Arguments} {body : List Stmt} {sc : Scope} {fI : Addr} {fd : FuncData} {C : Addr} (F : FunD K "__init__" qual pa body sc [] [] fI fd) (S : FnScope ["self", f] ["self", f] sc) (st : Stmt) (hb : body = [st]) (hs : isSt st f f = true) (T : OexC K C) (no : PySem.W.findIn K (.ref C) f = some none)
    (hd : (f == ("__debug__" : Str)) = false) (hc : (f == ("__classdict__" : Str)) = false) : FnOk P w K mg base CX0 1 fI fd ["self", f] (spIni C [f]) := by
  obtain ⟨p1, p2, p3, p4, rfl⟩ := isSt_ok hs
  subst hb
  refine F.ok S (fun vs H Q E h => by
    obtain ⟨a, us, rfl, hl, _⟩ := h
    rw [List.length_cons, hl]; rfl) fun cdv A outer s H vs Q E hr h => ?_
  obtain ⟨a, us, rfl, hl, ha, q⟩ := h
  obtain ⟨u, rfl⟩ : ∃ u, us = [u] := by
    cases us with
    | nil => cases hl
    | cons u us =>
      cases us with
      | nil => exact ⟨u, rfl⟩
      | cons _ _ => simp at hl
  refine ⟨_, PSs.nox (pss_one (ps_ost (pe_var (i := 0) rfl (vis_par S (by simp)) (by decide) (by decide)) (pe_var (i := 1) rfl (vis_par S (by simp)) hd hc))), ?_⟩
  refine ⟨u, rfl, .ref a, rfl, a, C, rfl, T, no, .inl ⟨ha, fun dx hdx hne => ?_⟩⟩
  refine q dx _ hdx hne upd_same ?_ fun b h1 h2 => ?_
  · rw [upd_ne hne, upd_same]; rfl
  · rw [upd_ne h1, upd_ne h2]
theorem ini3 {qual f g k : Str} {pa : Arguments} {body : List Stmt} {sc : Scope} {fI : Addr} {fd : FuncData} {C : Addr} (F : FunD K "__init__" qual pa body sc [] [] fI fd) (S : FnScope ["self", f, g, k] ["self", f, g, k] sc) (s1 s2 s3 : Stmt) (hb : body = [s1, s2, s3]) (h1 : isSt s1 f f = true) (h2 : isSt s2 g g = true) (h3 : isSt s3 k k = true) (T : OexC K C)
    (n1 : PySem.W.findIn K (.ref C) f = some none) (n2 : PySem.W.findIn K (.ref C) g = some none) (n3 : PySem.W.findIn K (.ref C) k = some none)
    (d1 : (f == ("__debug__" : Str)) = false) (c1 : (f == ("__classdict__" : Str)) = false) (d2 : (g == ("__debug__" : Str)) = false) (c2 : (g == ("__classdict__" : Str)) = false) (d3 : (k == ("__debug__" : Str)) = false) (c3 : (k == ("__classdict__" : Str)) = false) :
    FnOk P w K mg base CX0 1 fI fd ["self", f, g, k] (spIni C [k, g, f]) := by
  obtain ⟨p1, p2, p3, p4, rfl⟩ := isSt_ok h1
  obtain ⟨q1, q2, q3, q4, rfl⟩ := isSt_ok h2
  obtain ⟨r1, r2, r3, r4, rfl⟩ := isSt_ok h3
  subst hb
  refine F.ok S (fun vs H Q E h => by
    obtain ⟨a, us, rfl, hl, _⟩ := h
    rw [List.length_cons, hl]; rfl) fun cdv A outer s H vs Q E hr h => ?_
  obtain ⟨a, us, rfl, hl, ha, q⟩ := h
  obtain ⟨u, v, w', rfl⟩ : ∃ u v w', us = [u, v, w'] := by
    match us, hl with
    | [u, v, w'], _ => exact ⟨u, v, w', rfl⟩
  have self : ∀ {X : Cx}, X.N = (["self", f, g, k] : List Str) → X.env.scope = sc → ∀ p, PE X (.Name "self" p) (tVar 0) := fun {X} hN hs p => pe_var (by rw [hN]; rfl) (by rw [hs]; exact vis_par S (by simp)) (by decide) (by decide)
  refine ⟨_, PSs.nox (pss_cons (ps_ost (self rfl rfl _) (pe_var (i := 1) rfl (vis_par S (by simp)) d1 c1)) (pss_cons (ps_ost (self rfl rfl _) (pe_var (i := 2) rfl (vis_par S (by simp)) d2 c2)) (pss_one (ps_ost (self rfl rfl _) (pe_var (i := 3) rfl (vis_par S (by simp)) d3 c3))))), ?_⟩
  refine ⟨u, rfl, .ref a, rfl, a, C, rfl, T, n1, .inl ⟨ha, fun dx hdx hne => ?_⟩⟩
  refine ⟨v, rfl, .ref a, rfl, a, C, rfl, T, n2, .inr ⟨dx, _, upd_same, by rw [upd_ne hne, upd_same], by simp, ?_⟩⟩
  have hda : a ≠ dx := Ne.symm hne
  refine ⟨w', rfl, .ref a, rfl, a, C, rfl, T, n3, .inr ⟨dx, _, by rw [upd_ne hda, upd_same], upd_same, by simp, ?_⟩⟩
  refine q dx _ hdx hne ?_ ?_ fun b h1 h2 => ?_
  · rw [upd_ne hda, upd_ne hda, upd_same]
  · rw [upd_same]; rfl
  · rw [upd_ne h2, upd_ne h2, upd_ne h1, upd_ne h2]
end
/-! ### what the head looks at -/
def oexB (K : PySem.W.Frag) (C : Addr) : Bool := (match K.lookup C with
  | some ⟨.type t, _, .cls cd, sl⟩ => decide (t = "type") && (match cd.mro, sl.toList with
    | .ref c2 :: bm, [_, _, _, _, some (.builtin m), _] => decide (c2 = C) && (decide (m = "ValueError.__new__") && (!cd.hasDel && (cd.hasDict && PySem.HandSPX.refsVE bm)))
    | _, _ => false)
  | _ => false) && (He.eqO (PySem.W.findIn K (.ref C) "__setattr__") (some (some (.builtin "object.__setattr__"))) && (decide (PySem.W.subIn K (.ref C) (.type "BaseException") = some true) && (decide (PySem.W.typeIn K (.ref C) = some (.type "type")) && PySem.W.keepIn K (.ref C))))
theorem oexB_ok {K : PySem.W.Frag} {C : Addr} (h : oexB K C = true) : OexC K C := by
  unfold oexB at h
  obtain ⟨h1, h⟩ := He.ba h
  obtain ⟨h2, h⟩ := He.ba h
  obtain ⟨h3, h⟩ := He.ba h
  obtain ⟨h4, h5⟩ := He.ba h
  refine ⟨?_, He.eqO_ok h2, of_decide_eq_true h3, of_decide_eq_true h4, h5⟩
  split at h1
  · rename_i t dd cd sl ho
    obtain ⟨e1, g1⟩ := He.ba h1
    have e1 := of_decide_eq_true e1
    subst e1
    split at g1
    · rename_i c2 bm k0 k1 k2 k3 m k5 e2 e3
      obtain ⟨f1, g2⟩ := He.ba g1
      obtain ⟨f2, g3⟩ := He.ba g2
      obtain ⟨h6, g4⟩ := He.ba g3
      obtain ⟨h7, h8⟩ := He.ba g4
      have f1 := of_decide_eq_true f1
      have f2 := of_decide_eq_true f2
      have q6 : cd.hasDel = false := by simpa using h6
      have q7 : cd.hasDict = true := h7
      clear h6 h7
      subst f1 f2
      obtain ⟨nm, bs, mro, ns, qn, hd, sn, sub, ab, col, del⟩ := cd
      dsimp only at e2 q6 q7
      subst e2 q6 q7
      have es : sl = #[k0, k1, k2, k3, some (.builtin "ValueError.__new__"), k5] := by
        obtain ⟨l⟩ := sl
        simp only at e3
        rw [e3]
      subst es
      exact ⟨nm, qn, ns, bs, bm, sn, sub, ab, col, dd, k0, k1, k2, k3, k5, ho, h8⟩
    · cases g1
  · cases h1
def caOf (K : PySem.W.Frag) (xc : List (Str × List Str × List Nat)) (c : Nat) : Addr := match xc[c]? with
  | some (x, _, _) => He.ga K x
  | none => 0
def clsB (K : PySem.W.Frag) (ca : Nat → Addr) (n : Nat) (xa : List Str) (x : Str) (ns : List Str) (l : List Nat) : Bool :=
  He.eqO (PySem.W.nsIn K mainGlobals x) (some (some (.ref (He.ga K x)))) && (xfB K (He.ga K x) && ((PySem.W.clsIn K (He.ga K x)).isSome && (He.eqO (PySem.W.findIn K (.ref (He.ga K x)) "__class__") (some (some (.builtin "object.__class__"))) &&
  (decide (PySem.W.specialIn K (.builtin "object.__class__") "__get__" = some (some (.builtin "getset_descriptor.__get__"))) && (decide (PySem.W.takesIn K (.builtin "object.__class__") = some true) && (decide (PySem.W.mroIn K (He.ga K x) (.type "object") = some true) && (decide (PySem.W.kitOne K (.ref (He.ga K x)) (.type "ValueError") = some true) &&
  (xa.all (fun f => He.eqO (PySem.W.findIn K (.ref (He.ga K x)) f) (some none)) && ((List.range n).all (fun c => decide (PySem.W.kitOne K (.ref (ca c)) (.ref (He.ga K x)) = some (l.contains c)) && decide (PySem.W.exmOne K (.ref (ca c)) (.ref (He.ga K x)) = some (l.contains c))) &&
  (ns.isEmpty || (oexB K (He.ga K x) && (He.eqO (PySem.W.findIn K (.ref (He.ga K x)) "__init__") (some (some (.ref (He.ma K (He.ga K x) "__init__")))) && decide (PySem.W.typeIn K (.ref (He.ma K (He.ga K x) "__init__")) = some (.type "function"))))))))))))))
theorem clsB_ok {K : PySem.W.Frag} {h : Heap} {mg : Str → Option Value} (X : K.In h) (G : h.Ns mainGlobals mg) {ca : Nat → Addr} {n : Nat} {xa : List Str} {x : Str} {ns : List Str} {l : List Nat} (e : clsB K ca n xa x ns l = true) :
    ClsOk K mg ca n xa x l (He.ga K x) ∧ (ns ≠ [] → OexC K (He.ga K x) ∧ PySem.W.findIn K (.ref (He.ga K x)) "__init__" = some (some (.ref (He.ma K (He.ga K x) "__init__"))) ∧ PySem.W.typeIn K (.ref (He.ma K (He.ga K x) "__init__")) = some (.type "function")) := by
  unfold clsB at e
  obtain ⟨h1, e⟩ := He.ba e
  obtain ⟨h2, e⟩ := He.ba e
  obtain ⟨h3, e⟩ := He.ba e
  obtain ⟨h4, e⟩ := He.ba e
  obtain ⟨h5, e⟩ := He.ba e
  obtain ⟨h6, e⟩ := He.ba e
  obtain ⟨h7, e⟩ := He.ba e
  obtain ⟨hv, e⟩ := He.ba e
  obtain ⟨h8, e⟩ := He.ba e
  obtain ⟨h9, e⟩ := He.ba e
  have key : ∀ c, c < n → PySem.W.kitOne K (.ref (ca c)) (.ref (He.ga K x)) = some (l.contains c) ∧ PySem.W.exmOne K (.ref (ca c)) (.ref (He.ga K x)) = some (l.contains c) := fun c hc => by
    obtain ⟨a, b⟩ := He.ba (List.all_eq_true.mp h9 c (List.mem_range.mpr hc))
    exact ⟨of_decide_eq_true a, of_decide_eq_true b⟩
  refine ⟨⟨PySem.W.mg_of X G (He.eqO_ok h1), xfB_ok h2, h3, He.eqO_ok h4, of_decide_eq_true h5, of_decide_eq_true h6, of_decide_eq_true h7, fun f hf => He.eqO_ok (List.all_eq_true.mp h8 f hf), fun c hc => (key c hc).1, fun c hc => (key c hc).2, of_decide_eq_true hv⟩, fun hn => ?_⟩
  rw [Bool.or_eq_true] at e
  rcases e with e | e
  · exact absurd (List.isEmpty_iff.mp e) hn
  · obtain ⟨a, e⟩ := He.ba e
    obtain ⟨b, c⟩ := He.ba e
    exact ⟨oexB_ok a, He.eqO_ok b, of_decide_eq_true c⟩
def xcB (K : PySem.W.Frag) (xa : List Str) (xc : List (Str × List Str × List Nat)) : Bool := xc.all fun q => clsB K (caOf K xc) xc.length xa q.1 q.2.1 q.2.2
end VI
namespace VI
open PySem PySem.Spec PyProof.Rows L2

/-! ### working out a text step by step: conditions are collected -/
class Cj (a b : Prop) (c : outParam Prop) : Prop where
  h : c → a ∧ b
instance (priority := 10) cj_d {a b : Prop} : Cj a b (a ∧ b) := ⟨id⟩
instance (priority := 20) cj_r {a : Prop} : Cj a True a := ⟨fun h => ⟨h, trivial⟩⟩
instance cj_t {b : Prop} : Cj True b b := ⟨fun h => ⟨trivial, h⟩⟩
/-- a condition under a test -/
class Ci (k : Bool) (b : Prop) (c : outParam Prop) : Prop where
  h : c → k = true → b
instance (priority := 10) ci_d {k : Bool} {b : Prop} : Ci k b (k = true → b) := ⟨id⟩
instance ci_t {k : Bool} : Ci k True True := ⟨fun _ _ => trivial⟩
/-- a truth as a statement -/
class TP (k : Bool) (P : outParam Prop) : Prop where
  h : k = true ↔ P
instance (priority := 10) tp_d {k : Bool} : TP k (k = true) := ⟨Iff.rfl⟩
instance tp_dec {p : Prop} [d : Decidable p] : TP (decide p) p := ⟨decide_eq_true_iff⟩
instance tp_not {k : Bool} {P : Prop} [t : TP k P] : TP (!k) (¬ P) := ⟨by rw [← t.h]; simp⟩
instance tp_and {k l : Bool} {P Q : Prop} [t : TP k P] [u : TP l Q] : TP (k && l) (P ∧ Q) := ⟨by rw [← t.h, ← u.h, Bool.and_eq_true]⟩
instance tp_or {k l : Bool} {P Q : Prop} [t : TP k P] [u : TP l Q] : TP (k || l) (P ∨ Q) := ⟨by rw [← t.h, ← u.h, Bool.or_eq_true]⟩
theorem TP.f {k : Bool} {P : Prop} (t : TP k P) : k = false ↔ ¬ P := by rw [← t.h]; simp
/-! truths put together -/
class BNot (k : Bool) (r : outParam Bool) : Prop where
  h : (!k) = r
instance (priority := 10) bnot_d {k : Bool} : BNot k (!k) := ⟨rfl⟩
instance bnot_t : BNot true false := ⟨rfl⟩
instance bnot_f : BNot false true := ⟨rfl⟩
class BAnd (k l : Bool) (r : outParam Bool) : Prop where
  h : (k && l) = r
instance (priority := 10) band_d {k l : Bool} : BAnd k l (k && l) := ⟨rfl⟩
instance (priority := 20) band_rt {k : Bool} : BAnd k true k := ⟨by simp⟩
instance (priority := 20) band_rf {k : Bool} : BAnd k false false := ⟨by simp⟩
instance band_t {l : Bool} : BAnd true l l := ⟨rfl⟩
instance band_f {l : Bool} : BAnd false l false := ⟨rfl⟩
class BOr (k l : Bool) (r : outParam Bool) : Prop where
  h : (k || l) = r
instance (priority := 10) bor_d {k l : Bool} : BOr k l (k || l) := ⟨rfl⟩
instance (priority := 20) bor_rt {k : Bool} : BOr k true true := ⟨by simp⟩
instance (priority := 20) bor_rf {k : Bool} : BOr k false k := ⟨by simp⟩
instance bor_t {l : Bool} : BOr true l true := ⟨rfl⟩
instance bor_f {l : Bool} : BOr false l l := ⟨rfl⟩

/-- a pair of whole numbers -/
abbrev pr (p : Int × Int) : PV := .tup [.int p.1, .int p.2]
/-! primitives under a condition -/
class PFc (p : Prim) (vs : List PV) (C : outParam Prop) (v : outParam PV) : Prop where
  h : C → primF p vs = some v
instance (priority := 50) pfc_of {p : Prim} {vs : List PV} {v : PV} [f : PF p vs v] : PFc p vs True v := ⟨fun _ => f.h⟩
/-- the product is not too long -/
def MulC (x y : Int) : Prop := mulOk x y = true
theorem mulC {x y : Int} (k l : Nat) (h1 : x.natAbs < 2 ^ k) (h2 : y.natAbs < 2 ^ l) (h : k + l < 1000000) : MulC x y := by
  haveI : Sm x k := ⟨h1⟩
  haveI : Sm y l := ⟨h2⟩
  exact mulOk_sm h
instance (priority := 40) pfc_mul {x y : Int} : PFc .mul [.int x, .int y] (MulC x y) (.int (x * y)) := ⟨fun h => by
  show pvMul (.int x) (.int y) = _
  unfold pvMul
  simp only
  rw [if_pos (show mulOk x y = true from h)]⟩
theorem pv_fdivW {x y : Int} (h : 0 < y) (h2 : y < 18446744073709551616) : primF .fdiv [.int x, .int y] = some (.int (x / y)) := by
  show pvDiv (.int x) (.int y) = _
  unfold pvDiv
  simp only
  rw [← Int.fdiv_eq_ediv_of_nonneg x (by omega)]
  have h3 : y.natAbs.log2 < 64 := (Nat.log2_lt (by omega)).mpr (by show y.natAbs < 2 ^ 64; omega)
  have h4 : y.natAbs.log2 < 9000 := Nat.lt_trans h3 (by decide)
  split
  · rfl
  · rw [if_pos ⟨h, h4⟩]
instance (priority := 40) pfc_fdiv {x y : Int} : PFc .fdiv [.int x, .int y] (0 < y ∧ y < 18446744073709551616) (.int (x / y)) := ⟨fun h => pv_fdivW h.1 h.2⟩
instance (priority := 40) pfc_mod {x y : Int} : PFc .mod [.int x, .int y] (0 < y) (.int (x % y)) := ⟨fun h => pv_mod h⟩
instance (priority := 2000) pfc_pow {n m : Nat} [a : Tr (Nat.ble n 1000000)] [b : Tr (Nat.ble m 1000000)] : PFc .pow [.int (no_index (OfNat.ofNat m)), .int (no_index (OfNat.ofNat n))] True (.int ((OfNat.ofNat m : Int) ^ (OfNat.ofNat n : Nat))) := ⟨fun _ => pf_pow.h⟩
/-! an item by its place -/
/-- the item at n, wherever there is one -/
class Ix (vs : List PV) (n : Nat) (C : outParam Prop) (v : outParam PV) : Prop where
  h : C → vs[n]? = some v
instance (priority := 50) ix_of {vs : List PV} {n : Nat} {v : PV} [g : GetP vs n v] : Ix vs n True v := ⟨fun _ => g.h⟩
instance ix_map {α : Type} [Inhabited α] {g : α → PV} {l : List α} {n : Nat} : Ix (l.map g) n (n < l.length) (g (l.getD n default)) := ⟨fun h => by
  rw [List.getElem?_map, List.getElem?_eq_getElem h, List.getD_eq_getElem?_getD, List.getElem?_eq_getElem h]; rfl⟩
/-- whole numbers, one by one -/
class AsI (vs : List PV) (l : outParam (List Int)) : Prop where
  h : vs = l.map PV.int
instance asi_n : AsI [] [] := ⟨rfl⟩
instance asi_c {x : Int} {vs : List PV} {l : List Int} [g : AsI vs l] : AsI (.int x :: vs) (x :: l) := ⟨by rw [List.map_cons, g.h]⟩
class AsS (vs : List PV) (l : outParam (List Str)) : Prop where
  h : vs = l.map PV.str
instance ass_n : AsS [] [] := ⟨rfl⟩
instance ass_c {x : Str} {vs : List PV} {l : List Str} [g : AsS vs l] : AsS (.str x :: vs) (x :: l) := ⟨by rw [List.map_cons, g.h]⟩
instance (priority := 20) ix_asI {vs : List PV} {l : List Int} {x : Int} {n : Nat} [g : AsI (.int x :: vs) l] : Ix (.int x :: vs) n (n < l.length) (.int (l.getD n default)) := ⟨fun h => by
  rw [g.h]; exact (ix_map (g := PV.int)).h h⟩
instance (priority := 20) ix_asS {vs : List PV} {l : List Str} {x : Str} {n : Nat} [g : AsS (.str x :: vs) l] : Ix (.str x :: vs) n (n < l.length) (.str (l.getD n default)) := ⟨fun h => by
  rw [g.h]; exact (ix_map (g := PV.str)).h h⟩
theorem getD_all {α : Type} {l : List α} {P : α → Prop} (h : ∀ x ∈ l, P x) {i : Nat} (hi : i < l.length) {d : α} : P (l.getD i d) := by
  rw [List.getD_eq_getElem?_getD, List.getElem?_eq_getElem hi]
  exact h _ (List.getElem_mem hi)
/-- the place that a whole number tells -/
class PosC (n : Nat) (i : Int) (C : outParam Prop) (k : outParam Nat) : Prop where
  h : C → L2.ixN n i = some k
instance (priority := 10) pos_d {n : Nat} {i : Int} : PosC n i (0 ≤ i ∧ i < n) i.toNat := ⟨fun h => by
  have := ixN_nat (n := n) (k := i.toNat) (by omega)
  rwa [Int.toNat_of_nonneg h.1] at this⟩
instance pos_nat {n k : Nat} : PosC n (k : Int) (k < n) k := ⟨fun h => ixN_nat h⟩
instance pos_lit {n k : Nat} : PosC n (no_index (OfNat.ofNat k : Int)) ((OfNat.ofNat k : Nat) < n) (OfNat.ofNat k : Nat) := ⟨fun h => ixN_nat (k := k) h⟩
theorem ixN_neg {n k : Nat} (h0 : 0 < k) (h : k ≤ n) : L2.ixN n (-(k : Int)) = some (n - k) := by
  unfold L2.ixN
  rw [if_neg (by omega), if_pos (by omega)]
  congr 1
  omega
instance pos_neg {n k : Nat} : PosC n (-(no_index (OfNat.ofNat k : Int))) ((0 : Nat) < (OfNat.ofNat k : Nat) ∧ (OfNat.ofNat k : Nat) ≤ n) (n - (OfNat.ofNat k : Nat)) := ⟨fun h => ixN_neg (k := k) h.1 h.2⟩
class Len (vs : List PV) (n : outParam Nat) : Prop where
  h : vs.length = n
instance (priority := 10) len_d {vs : List PV} : Len vs vs.length := ⟨rfl⟩
instance len_n : Len [] 0 := ⟨rfl⟩
instance len_c {v : PV} {vs : List PV} {n : Nat} [g : LenN vs n] : Len (v :: vs) (n + 1) := ⟨by rw [List.length_cons, g.h]⟩
instance len_m {α : Type} {g : α → PV} {l : List α} : Len (l.map g) l.length := ⟨by rw [List.length_map]⟩
theorem atI_of {vs : List PV} {i : Int} {k : Nat} {v : PV} (h : L2.ixN vs.length i = some k) (h2 : vs[k]? = some v) : L2.atI vs i = some v := by
  unfold L2.atI; rw [h]; exact h2
/-- the item at a place that is a whole number -/
class IxZ (vs : List PV) (i : Int) (C : outParam Prop) (v : outParam PV) : Prop where
  h : C → L2.atI vs i = some v
instance (priority := 60) ixz_lit {vs : List PV} {n : Nat} {v : PV} [g : GetP vs n v] : IxZ vs (no_index (OfNat.ofNat n : Int)) True v := ⟨fun _ => pv_ixL n rfl g.h⟩
instance (priority := 50) ixz_d {vs : List PV} {i : Int} {n k : Nat} {C1 C2 C : Prop} {v : PV} [l : Len vs n] [p : PosC n i C1 k] [x : Ix vs k C2 v] [c : Cj C1 C2 C] : IxZ vs i C v := ⟨fun h => by
  obtain ⟨h1, h2⟩ := c.h h
  exact atI_of (by rw [l.h]; exact p.h h1) (x.h h2)⟩
instance pfc_ixL {vs : List PV} {i : Int} {C : Prop} {v : PV} [x : IxZ vs i C v] : PFc .idx [.lst vs, .int i] C v := ⟨fun h => x.h h⟩
instance pfc_ixT {vs : List PV} {i : Int} {C : Prop} {v : PV} [x : IxZ vs i C v] : PFc .idx [.tup vs, .int i] C v := ⟨fun h => x.h h⟩
/-! lengths -/
instance pfc_len {vs : List PV} {n : Nat} [l : Len vs n] : PFc .len [.lst vs] True (.int n) := ⟨fun _ => by show some (PV.int vs.length) = _; rw [l.h]⟩
instance pfc_lenT {vs : List PV} {n : Nat} [l : Len vs n] : PFc .len [.tup vs] True (.int n) := ⟨fun _ => by show some (PV.int vs.length) = _; rw [l.h]⟩
instance pfc_lenS {vs : List PV} {n : Nat} [l : Len vs n] : PFc .len [.scr vs] True (.int n) := ⟨fun _ => by show some (PV.int vs.length) = _; rw [l.h]⟩
/-! slices -/
class Cut (vs : List PV) (lo hi : Option Int) (C : outParam Prop) (ws : outParam (List PV)) : Prop where
  h : C → cutP vs lo hi = ws
theorem sIx_none_lo (n : Nat) : HT.sIx n 0 none = 0 := rfl
theorem sIx_none_hi (n : Nat) : HT.sIx n n none = n := rfl
theorem sIx_pos {n d : Nat} {i : Int} (h : 0 ≤ i) : HT.sIx n d (some i) = min i.toNat n := by
  unfold HT.sIx
  simp only
  first
  | (split <;> split <;> omega)
  | (split <;> omega)
  | omega
instance cutI_all {α : Type} {g : α → PV} {l : List α} : Cut (l.map g) none none True (l.map g) := ⟨fun _ => by
  unfold cutP
  rw [sIx_none_lo, sIx_none_hi, List.drop_zero, Nat.sub_zero, List.take_length]⟩
instance cut_lo {α : Type} {g : α → PV} {l : List α} {i : Int} : Cut (l.map g) (some i) none (0 ≤ i) ((l.drop i.toNat).map g) := ⟨fun h => by
  unfold cutP
  rw [sIx_pos h, sIx_none_hi, List.length_map, List.map_drop, List.take_of_length_le (by rw [List.length_drop, List.length_map]; omega)]
  by_cases z : i.toNat ≤ l.length
  · rw [Nat.min_eq_left z]
  · rw [Nat.min_eq_right (by omega), List.drop_eq_nil_of_le (by rw [List.length_map]; omega), List.drop_eq_nil_of_le (by rw [List.length_map]; omega)]⟩
instance cut_hi {α : Type} {g : α → PV} {l : List α} {i : Int} : Cut (l.map g) none (some i) (0 ≤ i) ((l.take i.toNat).map g) := ⟨fun h => by
  unfold cutP
  rw [sIx_none_lo, sIx_pos h, List.length_map, List.drop_zero, Nat.sub_zero, List.map_take]
  by_cases z : i.toNat ≤ l.length
  · rw [Nat.min_eq_left z]
  · rw [Nat.min_eq_right (by omega), List.take_of_length_le (by rw [List.length_map]; omega), List.take_of_length_le (by rw [List.length_map]; omega)]⟩
instance (priority := 3000) cut_last {α : Type} {g : α → PV} {l : List α} : Cut (l.map g) none (some (no_index (-1))) True (l.dropLast.map g) := ⟨fun _ => by
  have e : HT.sIx (l.map g).length (l.map g).length (some (-1)) = (l.map g).length - 1 := by
    unfold HT.sIx
    simp only
    rw [if_pos (by decide)]
    omega
  unfold cutP
  rw [e, sIx_none_lo, List.drop_zero, Nat.sub_zero, ← List.dropLast_eq_take, List.map_dropLast]⟩
instance cut_lh {α : Type} {g : α → PV} {l : List α} {i j : Int} : Cut (l.map g) (some i) (some j) (0 ≤ i ∧ 0 ≤ j) (((l.drop i.toNat).take (j - i).toNat).map g) := ⟨fun h => by
  unfold cutP
  rw [sIx_pos h.1, sIx_pos h.2, List.map_take, List.map_drop, List.length_map]
  have e1 : (l.map g).drop (min i.toNat l.length) = (l.map g).drop i.toNat := by
    by_cases c : i.toNat ≤ l.length
    · rw [Nat.min_eq_left c]
    · rw [Nat.min_eq_right (by omega), List.drop_eq_nil_of_le (by simp), List.drop_eq_nil_of_le (by simp; omega)]
  rw [e1]
  by_cases c : j.toNat ≤ l.length
  · by_cases d : i.toNat ≤ l.length
    · congr 1
      omega
    · rw [List.drop_eq_nil_of_le (by simp; omega)]; simp
  · rw [List.take_of_length_le (by simp; omega), List.take_of_length_le (by simp; omega)]⟩
instance pfc_sl00 {vs ws : List PV} {C : Prop} [c : Cut vs none none C ws] : PFc (.sl false false) [.lst vs] C (.lst ws) := ⟨fun h => by show some (PV.lst (cutP vs none none)) = _; rw [c.h h]⟩
instance pfc_sl10 {vs ws : List PV} {C : Prop} {i : Int} [c : Cut vs (some i) none C ws] : PFc (.sl true false) [.lst vs, .int i] C (.lst ws) := ⟨fun h => by show some (PV.lst (cutP vs (some i) none)) = _; rw [c.h h]⟩
instance pfc_sl01 {vs ws : List PV} {C : Prop} {i : Int} [c : Cut vs none (some i) C ws] : PFc (.sl false true) [.lst vs, .int i] C (.lst ws) := ⟨fun h => by show some (PV.lst (cutP vs none (some i))) = _; rw [c.h h]⟩
instance pfc_sl11 {vs ws : List PV} {C : Prop} {i j : Int} [c : Cut vs (some i) (some j) C ws] : PFc (.sl true true) [.lst vs, .int i, .int j] C (.lst ws) := ⟨fun h => by show some (PV.lst (cutP vs (some i) (some j))) = _; rw [c.h h]⟩
instance pfc_slT00 {vs ws : List PV} {C : Prop} [c : Cut vs none none C ws] : PFc (.sl false false) [.tup vs] C (.tup ws) := ⟨fun h => by show some (PV.tup (cutP vs none none)) = _; rw [c.h h]⟩
instance pfc_slT10 {vs ws : List PV} {C : Prop} {i : Int} [c : Cut vs (some i) none C ws] : PFc (.sl true false) [.tup vs, .int i] C (.tup ws) := ⟨fun h => by show some (PV.tup (cutP vs (some i) none)) = _; rw [c.h h]⟩
instance pfc_slT01 {vs ws : List PV} {C : Prop} {i : Int} [c : Cut vs none (some i) C ws] : PFc (.sl false true) [.tup vs, .int i] C (.tup ws) := ⟨fun h => by show some (PV.tup (cutP vs none (some i))) = _; rw [c.h h]⟩
/-! a list backwards -/
class Rv (vs : List PV) (ws : outParam (List PV)) : Prop where
  h : vs.reverse = ws
instance (priority := 10) rv_d {vs : List PV} : Rv vs vs.reverse := ⟨rfl⟩
instance rv_m {α : Type} {g : α → PV} {l : List α} : Rv (l.map g) (l.reverse.map g) := ⟨by rw [List.map_reverse]⟩
instance (priority := 2000) pfc_rev {vs ws : List PV} [r : Rv vs ws] : PFc .slrev [.lst vs] True (.lst ws) := ⟨fun _ => by show some (PV.lst vs.reverse) = _; rw [r.h]⟩
/-! lists put together -/
class Join (a b : List PV) (c : outParam (List PV)) : Prop where
  h : a ++ b = c
instance (priority := 10) join_d {a b : List PV} : Join a b (a ++ b) := ⟨rfl⟩
instance join_n {b : List PV} : Join [] b b := ⟨rfl⟩
instance (priority := 500) join_c {v : PV} {a b c : List PV} [g : Join a b c] : Join (v :: a) b (v :: c) := ⟨by rw [List.cons_append, g.h]⟩
instance join_m {α : Type} {g : α → PV} {a b : List α} : Join (a.map g) (b.map g) ((a ++ b).map g) := ⟨by rw [List.map_append]⟩
instance join_i1 {a : List Int} {x : Int} : Join (a.map PV.int) [.int x] ((a ++ [x]).map PV.int) := ⟨by rw [List.map_append]; rfl⟩
instance join_1i {a : List Int} {x : Int} : Join [.int x] (a.map PV.int) ((x :: a).map PV.int) := ⟨rfl⟩
instance (priority := 600) join_nm {α : Type} {g : α → PV} {b : List α} : Join [] (b.map g) (b.map g) := ⟨rfl⟩
instance (priority := 600) join_mn {α : Type} {g : α → PV} {b : List α} : Join (b.map g) [] (b.map g) := ⟨by rw [List.append_nil]⟩
instance pfc_add {a b c : List PV} {n m : Nat} [j : Join a b c] [l : Len a n] [l2 : Len b m] : PFc .add [.lst a, .lst b] (n + m ≤ 16777216) (.lst c) := ⟨fun h => by
  show (if a.length + b.length ≤ sizeLine then some (PV.lst (a ++ b)) else none) = _
  rw [if_pos (by rw [l.h, l2.h]; exact h), j.h]⟩
instance pfc_addT {a b c : List PV} {n m : Nat} [j : Join a b c] [l : Len a n] [l2 : Len b m] : PFc .add [.tup a, .tup b] (n + m ≤ 16777216) (.tup c) := ⟨fun h => by
  show (if a.length + b.length ≤ sizeLine then some (PV.tup (a ++ b)) else none) = _
  rw [if_pos (by rw [l.h, l2.h]; exact h), j.h]⟩
/-- one more at the end -/
class Snoc (vs : List PV) (v : PV) (ws : outParam (List PV)) : Prop where
  h : vs ++ [v] = ws
instance (priority := 10) snoc_d {vs : List PV} {v : PV} : Snoc vs v (vs ++ [v]) := ⟨rfl⟩
instance snoc_n {v : PV} : Snoc [] v [v] := ⟨rfl⟩
instance snoc_c {a v : PV} {vs ws : List PV} [g : Snoc vs v ws] : Snoc (a :: vs) v (a :: ws) := ⟨by rw [List.cons_append, g.h]⟩
instance snoc_i {l : List Int} {x : Int} : Snoc (l.map PV.int) (.int x) ((l ++ [x]).map PV.int) := ⟨by rw [List.map_append]; rfl⟩
instance snoc_p {l : List (Int × Int)} {x y : Int} : Snoc (l.map pr) (.tup [.int x, .int y]) ((l ++ [(x, y)]).map pr) := ⟨by rw [List.map_append]; rfl⟩
/-! a list times a number -/
class Rep (vs : List PV) (k : Int) (ws : outParam (List PV)) : Prop where
  h : (List.replicate k.toNat vs).flatten = ws
instance (priority := 10) rep_d {vs : List PV} {k : Int} : Rep vs k (List.replicate k.toNat vs).flatten := ⟨rfl⟩
theorem flat_one {α : Type} (n : Nat) (v : α) : (List.replicate n [v]).flatten = List.replicate n v := by
  induction n with
  | zero => rfl
  | succ n ih => rw [List.replicate_succ, List.flatten_cons, ih, List.replicate_succ]; rfl
instance rep_i {x k : Int} : Rep [.int x] k ((List.replicate k.toNat x).map PV.int) := ⟨by rw [flat_one, List.map_replicate]⟩
instance (priority := 30) rep_1 {v : PV} {k : Int} : Rep [v] k (List.replicate k.toNat v) := ⟨flat_one _ _⟩
instance pfc_rep {vs ws : List PV} {k : Int} {n : Nat} [r : Rep vs k ws] [l : Len vs n] : PFc .mul [.lst vs, .int k] (k < 16777216 ∧ (n : Int) * k ≤ 16777216 ∧ -(2 ^ 63) ≤ k) (.lst ws) := ⟨fun h => by
  show (if -(2 ^ 63) ≤ k ∧ k < 2 ^ 63 ∧ vs.length * k.toNat ≤ sizeLine then some (PV.lst (List.replicate k.toNat vs).flatten) else none) = _
  have key : vs.length * k.toNat ≤ sizeLine := by
    rw [l.h]
    by_cases k0 : 0 ≤ k
    · have e : ((n * k.toNat : Nat) : Int) = (n : Int) * k := by rw [Int.natCast_mul, Int.toNat_of_nonneg k0]
      have := h.2.1
      show n * k.toNat ≤ 2 ^ 24
      rw [show (2 : Nat) ^ 24 = 16777216 from rfl]
      omega
    · rw [show k.toNat = 0 by omega, Nat.mul_zero]; exact Nat.zero_le _
  rw [if_pos ⟨h.2.2, by omega, key⟩, r.h]⟩
/-! a list as it is -/
instance pfc_list {vs : List PV} : PFc .list [.lst vs] True (.lst vs) := ⟨fun _ => rfl⟩
instance pfc_sum {l : List Int} : PFc .sum [.lst (l.map PV.int)] True (.int l.sum) := ⟨fun _ => by
  have e : asInts (l.map PV.int) = some l := by
    induction l with
    | nil => rfl
    | cons a l ih => rw [List.map_cons]; unfold asInts; rw [ih]; rfl
  show (asInts (l.map PV.int)).map _ = _
  rw [e]; rfl⟩
theorem asBls_map (l : List Bool) : asBls (l.map PV.bl) = some l := by
  induction l with
  | nil => rfl
  | cons a l ih => rw [List.map_cons]; unfold asBls; rw [ih]; rfl
instance pfc_any {l : List Bool} : PFc .any [.lst (l.map PV.bl)] True (.bl (l.any id)) := ⟨fun _ => by
  show (asBls (l.map PV.bl)).map _ = _
  rw [asBls_map]; rfl⟩
instance pfc_all {l : List Bool} : PFc .all [.lst (l.map PV.bl)] True (.bl (l.all id)) := ⟨fun _ => by
  show (asBls (l.map PV.bl)).map _ = _
  rw [asBls_map]; rfl⟩
end VI
namespace VI
open PySem PySem.Spec PyProof.Rows L2

/-! equal data -/
class EqV (a b : PV) (k : outParam Bool) : Prop where
  h : pvEq a b = k
class EqVs (a b : List PV) (k : outParam Bool) : Prop where
  h : pvEqs a b = k
instance (priority := 10) eqv_d {a b : PV} : EqV a b (pvEq a b) := ⟨rfl⟩
instance eqv_nn : EqV .non .non true := ⟨rfl⟩
instance eqv_ii {x y : Int} : EqV (.int x) (.int y) (decide (x = y)) := ⟨by unfold pvEq; exact (Bool.beq_eq_decide_eq x y)⟩
instance eqv_bb {x y : Bool} : EqV (.bl x) (.bl y) (decide (x = y)) := ⟨by unfold pvEq; exact (Bool.beq_eq_decide_eq x y)⟩
instance eqv_ss {x y : Str} : EqV (.str x) (.str y) (decide (x = y)) := ⟨by unfold pvEq; exact (Bool.beq_eq_decide_eq x y)⟩
instance eqv_non_int  {y : Int} : EqV (.non) (.int y) false := ⟨rfl⟩
instance eqv_non_bl  {y : Bool} : EqV (.non) (.bl y) false := ⟨rfl⟩
instance eqv_non_str  {y : Str} : EqV (.non) (.str y) false := ⟨rfl⟩
instance eqv_non_lst  {y : List PV} : EqV (.non) (.lst y) false := ⟨rfl⟩
instance eqv_non_tup  {y : List PV} : EqV (.non) (.tup y) false := ⟨rfl⟩
instance eqv_int_non {x : Int}  : EqV (.int x) (.non) false := ⟨rfl⟩
instance eqv_int_str {x : Int} {y : Str} : EqV (.int x) (.str y) false := ⟨rfl⟩
instance eqv_int_lst {x : Int} {y : List PV} : EqV (.int x) (.lst y) false := ⟨rfl⟩
instance eqv_int_tup {x : Int} {y : List PV} : EqV (.int x) (.tup y) false := ⟨rfl⟩
instance eqv_bl_non {x : Bool}  : EqV (.bl x) (.non) false := ⟨rfl⟩
instance eqv_bl_str {x : Bool} {y : Str} : EqV (.bl x) (.str y) false := ⟨rfl⟩
instance eqv_bl_lst {x : Bool} {y : List PV} : EqV (.bl x) (.lst y) false := ⟨rfl⟩
instance eqv_bl_tup {x : Bool} {y : List PV} : EqV (.bl x) (.tup y) false := ⟨rfl⟩
instance eqv_str_non {x : Str}  : EqV (.str x) (.non) false := ⟨rfl⟩
instance eqv_str_int {x : Str} {y : Int} : EqV (.str x) (.int y) false := ⟨rfl⟩
instance eqv_str_bl {x : Str} {y : Bool} : EqV (.str x) (.bl y) false := ⟨rfl⟩
instance eqv_str_lst {x : Str} {y : List PV} : EqV (.str x) (.lst y) false := ⟨rfl⟩
instance eqv_str_tup {x : Str} {y : List PV} : EqV (.str x) (.tup y) false := ⟨rfl⟩
instance eqv_lst_non {x : List PV}  : EqV (.lst x) (.non) false := ⟨rfl⟩
instance eqv_lst_int {x : List PV} {y : Int} : EqV (.lst x) (.int y) false := ⟨rfl⟩
instance eqv_lst_bl {x : List PV} {y : Bool} : EqV (.lst x) (.bl y) false := ⟨rfl⟩
instance eqv_lst_str {x : List PV} {y : Str} : EqV (.lst x) (.str y) false := ⟨rfl⟩
instance eqv_lst_tup {x : List PV} {y : List PV} : EqV (.lst x) (.tup y) false := ⟨rfl⟩
instance eqv_tup_non {x : List PV}  : EqV (.tup x) (.non) false := ⟨rfl⟩
instance eqv_tup_int {x : List PV} {y : Int} : EqV (.tup x) (.int y) false := ⟨rfl⟩
instance eqv_tup_bl {x : List PV} {y : Bool} : EqV (.tup x) (.bl y) false := ⟨rfl⟩
instance eqv_tup_str {x : List PV} {y : Str} : EqV (.tup x) (.str y) false := ⟨rfl⟩
instance eqv_tup_lst {x : List PV} {y : List PV} : EqV (.tup x) (.lst y) false := ⟨rfl⟩
instance eqv_l {a b : List PV} {k : Bool} [g : EqVs a b k] : EqV (.lst a) (.lst b) k := ⟨by unfold pvEq; exact g.h⟩
instance eqv_t {a b : List PV} {k : Bool} [g : EqVs a b k] : EqV (.tup a) (.tup b) k := ⟨by unfold pvEq; exact g.h⟩
instance (priority := 10) eqvs_d {a b : List PV} : EqVs a b (pvEqs a b) := ⟨rfl⟩
instance eqvs_nn : EqVs [] [] true := ⟨rfl⟩
instance eqvs_nc {v : PV} {a : List PV} : EqVs [] (v :: a) false := ⟨rfl⟩
instance eqvs_cn {v : PV} {a : List PV} : EqVs (v :: a) [] false := ⟨rfl⟩
instance eqvs_cc {v w : PV} {a b : List PV} {k l r : Bool} [g : EqV v w k] [h : EqVs a b l] [n : BAnd k l r] : EqVs (v :: a) (w :: b) r := ⟨by
  unfold pvEqs; rw [g.h, h.h, n.h]⟩
/-- a way to write things down by which different things differ -/
class EqG {α : Type} [DecidableEq α] (g : α → PV) : Prop where
  h : ∀ x y, pvEq (g x) (g y) = decide (x = y)
instance eqg_i : EqG PV.int := ⟨fun x y => by unfold pvEq; exact (Bool.beq_eq_decide_eq x y)⟩
instance eqg_b : EqG PV.bl := ⟨fun x y => by unfold pvEq; exact (Bool.beq_eq_decide_eq x y)⟩
instance eqg_s : EqG PV.str := ⟨fun x y => by unfold pvEq; exact (Bool.beq_eq_decide_eq x y)⟩
theorem pvEqs_map {α : Type} [DecidableEq α] {g : α → PV} [e : EqG g] : ∀ (a b : List α), pvEqs (a.map g) (b.map g) = decide (a = b)
  | [], [] => by simp [pvEqs]
  | [], _ :: _ => by simp [pvEqs]
  | _ :: _, [] => by simp [pvEqs]
  | x :: a, y :: b => by
    rw [List.map_cons, List.map_cons]
    unfold pvEqs
    rw [e.h, pvEqs_map a b]
    by_cases h : x = y <;> by_cases h2 : a = b <;> simp [h, h2]
instance (priority := 900) eqvs_m {α : Type} [DecidableEq α] {g : α → PV} [e : EqG g] {a b : List α} : EqVs (a.map g) (b.map g) (decide (a = b)) := ⟨pvEqs_map a b⟩
instance eqvs_mn {α : Type} {g : α → PV} {a : List α} : EqVs (a.map g) [] a.isEmpty := ⟨by cases a <;> rfl⟩
instance eqg_l {α : Type} [DecidableEq α] {g : α → PV} [e : EqG g] : EqG (fun l : List α => PV.lst (l.map g)) := ⟨fun x y => by show pvEqs _ _ = _; exact pvEqs_map x y⟩
instance eqg_t2 {α β : Type} [DecidableEq α] [DecidableEq β] {g : α → PV} {f : β → PV} [e : EqG g] [e2 : EqG f] : EqG (fun p : α × β => PV.tup [g p.1, f p.2]) := ⟨fun x y => by
  show (pvEq _ _ && (pvEq _ _ && true)) = _
  rw [e.h, e2.h, Bool.and_true]
  obtain ⟨a, b⟩ := x
  obtain ⟨c, d⟩ := y
  by_cases h : a = c <;> by_cases h2 : b = d <;> simp [h, h2]⟩
instance eqg_pr : EqG pr := ⟨(eqg_t2 (g := PV.int) (f := PV.int)).h⟩
instance (priority := 1500) eqv_self {x : Int} : EqV (.int x) (.int x) true := ⟨by rw [eqv_ii.h]; simp⟩
instance (priority := 1500) eqvs_self {α : Type} [DecidableEq α] {g : α → PV} [e : EqG g] {a : List α} : EqVs (a.map g) (a.map g) true := ⟨by rw [pvEqs_map]; simp⟩
/-- a truth worked out -/
class BEv (b : Bool) (k : outParam Bool) : Prop where
  h : b = k
instance bev_t : BEv (no_index true) true := ⟨rfl⟩
instance bev_f : BEv (no_index false) false := ⟨rfl⟩
theorem nbeq (a m : Nat) : decide ((a : Int) = (m : Int)) = Nat.beq a m := by
  by_cases h : a = m
  · subst h; simp
  · have h2 : ¬ (a : Int) = (m : Int) := by omega
    rw [decide_eq_false h2]
    symm
    exact Bool.eq_false_iff.mpr fun z => h (Nat.eq_of_beq_eq_true z)
instance (priority := 1600) eqv_cast {a m : Nat} {k : Bool} [b : BEv (Nat.beq a m) k] : EqV (.int (a : Int)) (.int (no_index (OfNat.ofNat m : Int))) k := ⟨by rw [eqv_ii.h, ← b.h]; exact nbeq a m⟩
instance (priority := 1600) eqv_lits {a m : Nat} {k : Bool} [b : BEv (Nat.beq a m) k] : EqV (.int (no_index (OfNat.ofNat a : Int))) (.int (no_index (OfNat.ofNat m : Int))) k := ⟨by rw [eqv_ii.h, ← b.h]; exact nbeq a m⟩
/-! data that can be compared -/
class OkV (a : PV) (d : outParam Nat) : Prop where
  h : okD d a = true
class OkVs (a : List PV) (d : outParam Nat) : Prop where
  h : okDs d a = true
class StrOk (s : Str) : Prop where
  h : PyData.strOk s = true
mutual
theorem okD_mono : ∀ (d e : Nat) (a : PV), d ≤ e → okD d a = true → okD e a = true
  | d, e, .non, _, h => by unfold okD; rfl
  | d, e, .bl _, _, h => by unfold okD; rfl
  | d, e, .int _, _, h => by unfold okD; rfl
  | d, e, .str s, _, h => by unfold okD at h ⊢; exact h
  | 0, e, .lst vs, _, h => by unfold okD at h; cases h
  | 0, e, .tup vs, _, h => by unfold okD at h; cases h
  | d + 1, 0, .lst vs, l, h => by omega
  | d + 1, 0, .tup vs, l, h => by omega
  | d + 1, e + 1, .lst vs, l, h => by unfold okD at h ⊢; exact okDs_mono d e vs (by omega) h
  | d + 1, e + 1, .tup vs, l, h => by unfold okD at h ⊢; exact okDs_mono d e vs (by omega) h
  | d, e, .dk _ _, _, h => by cases d <;> (unfold okD at h; cases h)
  | d, e, .dt _ _, _, h => by cases d <;> (unfold okD at h; cases h)
  | d, e, .ty _, _, h => by cases d <;> (unfold okD at h; cases h)
  | d, e, .scr _, _, h => by cases d <;> (unfold okD at h; cases h)
theorem okDs_mono : ∀ (d e : Nat) (a : List PV), d ≤ e → okDs d a = true → okDs e a = true
  | d, e, [], _, h => by unfold okDs; rfl
  | d, e, v :: vs, l, h => by
    unfold okDs at h ⊢
    rw [Bool.and_eq_true] at h ⊢
    exact ⟨okD_mono d e v l h.1, okDs_mono d e vs l h.2⟩
end
/-- the greater one -/
class Mx (a b : Nat) (c : outParam Nat) : Prop where
  h : a ≤ c ∧ b ≤ c
instance mx_s {a b c : Nat} [g : Mx a b c] : Mx (a + 1) (b + 1) (c + 1) := ⟨by have := g.h; omega⟩
instance mx_r {a : Nat} : Mx a 0 a := ⟨by omega⟩
instance mx_l {b : Nat} : Mx 0 b b := ⟨by omega⟩
instance ok_n : OkV .non 0 := ⟨by unfold okD; rfl⟩
instance ok_b {x : Bool} : OkV (.bl x) 0 := ⟨by unfold okD; rfl⟩
instance ok_i {x : Int} : OkV (.int x) 0 := ⟨by unfold okD; rfl⟩
instance ok_s {x : Str} [s : StrOk x] : OkV (.str x) 0 := ⟨by unfold okD; exact s.h⟩
instance ok_l {a : List PV} {d : Nat} [g : OkVs a d] : OkV (.lst a) (d + 1) := ⟨by unfold okD; exact g.h⟩
instance ok_t {a : List PV} {d : Nat} [g : OkVs a d] : OkV (.tup a) (d + 1) := ⟨by unfold okD; exact g.h⟩
instance oks_n : OkVs [] 0 := ⟨by unfold okDs; rfl⟩
instance oks_c {v : PV} {vs : List PV} {d e f : Nat} [g : OkV v d] [h : OkVs vs e] [m : Mx d e f] : OkVs (v :: vs) f := ⟨by
  unfold okDs
  rw [Bool.and_eq_true]
  exact ⟨okD_mono _ _ _ m.h.1 g.h, okDs_mono _ _ _ m.h.2 h.h⟩⟩
theorem okDs_all {d : Nat} : ∀ {vs : List PV}, (∀ v ∈ vs, okD d v = true) → okDs d vs = true
  | [], _ => by unfold okDs; rfl
  | v :: vs, h => by
    unfold okDs
    rw [Bool.and_eq_true]
    exact ⟨h v List.mem_cons_self, okDs_all fun u hu => h u (List.mem_cons_of_mem _ hu)⟩
class OkG {α : Type} (g : α → PV) (d : outParam Nat) : Prop where
  h : ∀ x, okD d (g x) = true
instance okg_i : OkG PV.int 0 := ⟨fun x => by unfold okD; rfl⟩
instance okg_b : OkG PV.bl 0 := ⟨fun x => by unfold okD; rfl⟩
instance okg_l {α : Type} {g : α → PV} {d : Nat} [e : OkG g d] : OkG (fun l : List α => PV.lst (l.map g)) (d + 1) := ⟨fun x => by
  unfold okD
  refine okDs_all fun v hv => ?_
  obtain ⟨y, _, rfl⟩ := List.mem_map.mp hv
  exact e.h y⟩
instance okg_t2 {α β : Type} {g : α → PV} {f : β → PV} {d e k : Nat} [a : OkG g d] [b : OkG f e] [m : Mx d e k] : OkG (fun p : α × β => PV.tup [g p.1, f p.2]) (k + 1) := ⟨fun x => by
  unfold okD
  refine okDs_all fun v hv => ?_
  rcases List.mem_cons.mp hv with rfl | hv
  · exact okD_mono _ _ _ m.h.1 (a.h _)
  · rw [List.mem_singleton.mp hv]
    exact okD_mono _ _ _ m.h.2 (b.h _)⟩
instance okg_pr : OkG pr 1 := ⟨(okg_t2 (g := PV.int) (f := PV.int)).h⟩
instance oks_m {α : Type} {g : α → PV} {d : Nat} [e : OkG g d] {l : List α} : OkVs (l.map g) d := ⟨okDs_all fun v hv => by
  obtain ⟨y, _, rfl⟩ := List.mem_map.mp hv
  exact e.h y⟩
instance pfc_eq {a b : PV} {d e f : Nat} {k : Bool} [x : EqV a b k] [g : OkV a d] [h : OkV b e] [mx : Mx d e f] [t : Tr (Nat.ble f 40)] : PFc .eq [a, b] True (.bl k) := ⟨fun _ => by
  have l := Nat.le_of_ble_eq_true t.h
  show (if okD dMax a && okD dMax b then some (PV.bl (pvEq a b)) else none) = _
  rw [okD_mono d dMax a (Nat.le_trans mx.h.1 l) g.h, okD_mono e dMax b (Nat.le_trans mx.h.2 l) h.h, x.h]
  rfl⟩
instance pfc_ne {a b : PV} {d e f : Nat} {k r : Bool} [x : EqV a b k] [n : BNot k r] [g : OkV a d] [h : OkV b e] [mx : Mx d e f] [t : Tr (Nat.ble f 40)] : PFc .ne [a, b] True (.bl r) := ⟨fun _ => by
  have l := Nat.le_of_ble_eq_true t.h
  show (if okD dMax a && okD dMax b then some (PV.bl (!pvEq a b)) else none) = _
  rw [okD_mono d dMax a (Nat.le_trans mx.h.1 l) g.h, okD_mono e dMax b (Nat.le_trans mx.h.2 l) h.h, x.h, n.h]
  rfl⟩
/-! what is in a list -/
class InV (v : PV) (vs : List PV) (k : outParam Bool) : Prop where
  h : (vs.any fun z => pvEq z v) = k
instance (priority := 10) inv_d {v : PV} {vs : List PV} : InV v vs (vs.any fun z => pvEq z v) := ⟨rfl⟩
instance inv_n {v : PV} : InV v [] false := ⟨rfl⟩
instance inv_c {v w : PV} {vs : List PV} {k l r : Bool} [g : EqV w v k] [h : InV v vs l] [n : BOr k l r] : InV v (w :: vs) r := ⟨by rw [List.any_cons, g.h, h.h, n.h]⟩
instance (priority := 900) inv_i {x : Int} {l : List Int} : InV (.int x) (l.map PV.int) (decide (x ∈ l)) := ⟨by
  induction l with
  | nil => rfl
  | cons a l ih =>
    rw [List.map_cons, List.any_cons, ih, eqv_ii.h]
    by_cases h : a = x
    · simp [h]
    · have h2 : ¬ x = a := fun e => h e.symm
      simp [h, h2]⟩
instance pfc_in {a : PV} {vs : List PV} {d e f : Nat} {k : Bool} [x : InV a vs k] [g : OkV a d] [h : OkVs vs e] [mx : Mx d e f] [t : Tr (Nat.ble f 40)] : PFc .isIn [a, .lst vs] True (.bl k) := ⟨fun _ => by
  have l := Nat.le_of_ble_eq_true t.h
  show (if okD dMax a && okDs dMax vs then some (vs.any fun z => pvEq z a) else none).map PV.bl = _
  rw [okD_mono d dMax a (Nat.le_trans mx.h.1 l) g.h, okDs_mono e dMax vs (Nat.le_trans mx.h.2 l) h.h, x.h]
  rfl⟩
instance pfc_notIn {a : PV} {vs : List PV} {d e f : Nat} {k r : Bool} [x : InV a vs k] [n : BNot k r] [g : OkV a d] [h : OkVs vs e] [mx : Mx d e f] [t : Tr (Nat.ble f 40)] : PFc .notIn [a, .lst vs] True (.bl r) := ⟨fun _ => by
  have l := Nat.le_of_ble_eq_true t.h
  show (if okD dMax a && okDs dMax vs then some (vs.any fun z => pvEq z a) else none).map (fun k => PV.bl (!k)) = _
  rw [okD_mono d dMax a (Nat.le_trans mx.h.1 l) g.h, okDs_mono e dMax vs (Nat.le_trans mx.h.2 l) h.h, x.h, ← n.h]
  rfl⟩
instance pfc_inT {a : PV} {vs : List PV} {k : Bool} [x : InV a vs k] [t : Tr (plainB a && vs.all plainB)] : PFc .isIn [a, .tup vs] True (.bl k) := ⟨fun _ => by
  show (if plainB a && vs.all plainB then some (vs.any fun z => pvEq z a) else none).map PV.bl = _
  rw [t.h, x.h]
  rfl⟩
instance pfc_isNon {a : PV} : PFc .isNone [a] True (.bl (isNon a)) := ⟨fun _ => rfl⟩
class NonV (a : PV) (k : outParam Bool) : Prop where
  h : isNon a = k
instance (priority := 10) nonv_d {a : PV} : NonV a (isNon a) := ⟨rfl⟩
instance nonv_n : NonV .non true := ⟨rfl⟩
instance nonv_i {x : Int} : NonV (.int x) false := ⟨rfl⟩
instance nonv_b {x : Bool} : NonV (.bl x) false := ⟨rfl⟩
instance nonv_s {x : Str} : NonV (.str x) false := ⟨rfl⟩
instance nonv_l {x : List PV} : NonV (.lst x) false := ⟨rfl⟩
instance nonv_t {x : List PV} : NonV (.tup x) false := ⟨rfl⟩
instance (priority := 2000) pfc_isNon2 {a : PV} {k : Bool} [g : NonV a k] : PFc .isNone [a] True (.bl k) := ⟨fun _ => by show some (PV.bl (isNon a)) = _; rw [g.h]⟩
instance (priority := 2000) pfc_notNon {a : PV} {k r : Bool} [g : NonV a k] [n : BNot k r] : PFc .notNone [a] True (.bl r) := ⟨fun _ => by show some (PV.bl (!isNon a)) = _; rw [g.h, n.h]⟩
end VI
namespace VI
open PySem PySem.Spec PyProof.Rows L2

/-! ### expressions under a condition -/
section
variable {G : GE}
class WEc (G : GE) (e : IE) (fr : Fr) (C : outParam Prop) (fr' : outParam Fr) (o : outParam Od) : Prop where
  h : C → evE G e fr = some (fr', o)
class WLc (G : GE) (e : IEs) (fr : Fr) (C : outParam Prop) (fr' : outParam Fr) (os : outParam (List Od)) : Prop where
  h : C → evL G e fr = some (fr', os)
instance wec_c {v : PV} {fr : Fr} : WEc G (.cst v) fr True fr ⟨v, 0, [], false⟩ := ⟨fun _ => ev_cst⟩
instance wec_v {i m : Nat} {fr : Fr} {p : Bool} {v : PV} {al : List Nat} {t : Bool} [g : GetF fr i (some ⟨m, p, v⟩)] [o : VO i m v al t] : WEc G (.var i) fr True fr ⟨v, 0, al, t⟩ := ⟨fun _ => by rw [ev_var g.h, o.h]⟩
instance wlc_n {fr : Fr} : WLc G .nil fr True fr [] := ⟨fun _ => evl_nil⟩
instance wlc_c {a : IE} {as : IEs} {fr fr1 fr2 : Fr} {v : PV} {m : Nat} {al : List Nat} {t : Bool} {os : List Od} {C1 C2 C : Prop} [g : WEc G a fr C1 fr1 ⟨v, m, al, t⟩] [d : DjL al as] [h : WLc G as fr1 C2 fr2 os] [c : Cj C1 C2 C] : WLc G (.cons a as) fr C fr2 (⟨v, m, al, t⟩ :: os) := ⟨fun z => evl_cons (g.h (c.h z).1) d.h (h.h (c.h z).2)⟩
instance wec_p {p : Prim} {as : IEs} {fr fr1 : Fr} {os : List Od} {vs : List PV} {v : PV} {k : PK} {m : Nat} {al : List Nat} {C1 C2 C : Prop} [g : WLc G as fr C1 fr1 os] [w : Vs os vs] [f : PFc p vs C2 v] [c : Cj C1 C2 C] [kd : PKd p k] [a : PAl p k os al] [pm : PMd p v m] : WEc G (.prim p as) fr C fr1 ⟨v, m, al, false⟩ := ⟨fun z => by
  rw [ev_prim (g.h (c.h z).1) (by rw [w.h]; exact f.h (c.h z).2), a.h kd.h, pm.h]⟩
instance wec_not {a : IE} {fr fr1 : Fr} {k r : Bool} {m : Nat} {al : List Nat} {t : Bool} {C : Prop} [g : WEc G a fr C fr1 ⟨.bl k, m, al, t⟩] [n : BNot k r] : WEc G (.not a) fr C fr1 ⟨.bl r, 0, [], false⟩ := ⟨fun z => by rw [ev_not (g.h z) rfl, n.h]⟩
/-- a truth's operand -/
class OdF (m : Nat) (al : List Nat) (t : Bool) : Prop where
  h : ∀ v : PV, (⟨v, m, al, t⟩ : Od) = ⟨v, 0, [], false⟩
instance odf : OdF 0 [] false := ⟨fun _ => rfl⟩
theorem ev_ife {c a b : IE} {fr fr1 : Fr} {o : Od} {k : Bool} (h : evE G c fr = some (fr1, o)) (ho : o.v = .bl k) : evE G (.ife c a b) fr = if k = true then evE G a fr1 else evE G b fr1 := by
  rw [evE, h]
  simp only [Option.bind_some, ho]
  cases k <;> rfl
/-- two values by a truth -/
class IfV (k : Bool) (a b : PV) (r : outParam PV) : Prop where
  h : (if k = true then a else b) = r
instance (priority := 10) ifv_d {k : Bool} {a b : PV} : IfV k a b (if k = true then a else b) := ⟨rfl⟩
instance ifv_i {k : Bool} {x y : Int} : IfV k (.int x) (.int y) (.int (if k = true then x else y)) := ⟨by cases k <;> rfl⟩
instance ifv_b {k : Bool} {x y : Bool} : IfV k (.bl x) (.bl y) (.bl (if k = true then x else y)) := ⟨by cases k <;> rfl⟩
instance ifv_s {k : Bool} {x y : Str} : IfV k (.str x) (.str y) (.str (if k = true then x else y)) := ⟨by cases k <;> rfl⟩
class IfC (G : GE) (k : Bool) (a b : IE) (fr : Fr) (C : outParam Prop) (fr' : outParam Fr) (o : outParam Od) : Prop where
  h : C → (if k = true then evE G a fr else evE G b fr) = some (fr', o)
instance ifc_t {a b : IE} {fr fr' : Fr} {C : Prop} {o : Od} [g : WEc G a fr C fr' o] : IfC G true a b fr C fr' o := ⟨fun z => g.h z⟩
instance ifc_f {a b : IE} {fr fr' : Fr} {C : Prop} {o : Od} [g : WEc G b fr C fr' o] : IfC G false a b fr C fr' o := ⟨fun z => g.h z⟩
instance (priority := 10) ifc_d {k nk : Bool} {a b : IE} {fr : Fr} {C1 C2 D1 D2 C : Prop} {v w r : PV} {m m2 : Nat} {al al2 : List Nat} {t t2 : Bool} [g : WEc G a fr C1 fr ⟨v, m, al, t⟩] [f : OdF m al t] [g2 : WEc G b fr C2 fr ⟨w, m2, al2, t2⟩] [f2 : OdF m2 al2 t2] [c1 : Ci k C1 D1] [bn : BNot k nk] [c2 : Ci nk C2 D2] [c : Cj D1 D2 C] [i : IfV k v w r] : IfC G k a b fr C fr ⟨r, 0, [], false⟩ := ⟨fun z => by
  rw [← i.h]
  cases k with
  | true => rw [if_pos rfl, g.h (c1.h (c.h z).1 rfl), f.h]; rfl
  | false => rw [if_neg (by decide), g2.h (c2.h (c.h z).2 (by rw [← bn.h]; rfl)), f2.h]; rfl⟩
instance wec_ife {c a b : IE} {fr fr1 fr2 : Fr} {k : Bool} {m : Nat} {al : List Nat} {t : Bool} {C1 C2 C : Prop} {o : Od} [g : WEc G c fr C1 fr1 ⟨.bl k, m, al, t⟩] [h : IfC G k a b fr1 C2 fr2 o] [cj : Cj C1 C2 C] : WEc G (.ife c a b) fr C fr2 o := ⟨fun z => by
  rw [ev_ife (g.h (cj.h z).1) rfl]
  exact h.h (cj.h z).2⟩
/-! a chain of two comparisons, in one frame -/
theorem ev_chain {p q : Prim} {a b c : IE} {fr : Fr} {oa ob oc : Od} {k l : Bool} (h1 : evE G a fr = some (fr, oa)) (d1 : disj oa.al (mutd b) = true) (h2 : evE G b fr = some (fr, ob)) (hp : primF p [oa.v, ob.v] = some (.bl k)) (d2 : disj ob.al (mutd c) = true) (h3 : k = true → evE G c fr = some (fr, oc)) (hq : k = true → primF q [ob.v, oc.v] = some (.bl l)) :
    evE G (.chain p q a b c) fr = some (fr, ⟨.bl (k && l), 0, [], false⟩) := by
  rw [evE, h1]
  simp only [Option.bind_some]
  rw [if_pos d1, h2]
  simp only [Option.bind_some]
  rw [hp]
  simp only [Option.bind_some]
  cases k with
  | false => rfl
  | true =>
    simp only
    rw [if_pos d2, h3 rfl]
    simp only [Option.bind_some]
    rw [hq rfl]
    rfl
instance wec_chain {p q : Prim} {a b c : IE} {fr : Fr} {va vb vc : PV} {m1 m2 m3 : Nat} {a1 a2 a3 : List Nat} {t1 t2 t3 : Bool} {k l r : Bool} {C1 C2 C3 C4 C5 D34 D C12 C124 C : Prop} [g1 : WEc G a fr C1 fr ⟨va, m1, a1, t1⟩] [d1 : DjE a1 b] [g2 : WEc G b fr C2 fr ⟨vb, m2, a2, t2⟩] [d2 : DjE a2 c] [g3 : WEc G c fr C3 fr ⟨vc, m3, a3, t3⟩]
    [f1 : PFc p [va, vb] C4 (.bl k)] [f2 : PFc q [vb, vc] C5 (.bl l)] [c35 : Cj C3 C5 D34] [ci : Ci k D34 D] [c12 : Cj C1 C2 C12] [c124 : Cj C12 C4 C124] [cc : Cj C124 D C] [n : BAnd k l r] : WEc G (.chain p q a b c) fr C fr ⟨.bl r, 0, [], false⟩ := ⟨fun z => by
  have z1 := c124.h (cc.h z).1
  have z2 := c12.h z1.1
  rw [← n.h]
  exact ev_chain (oa := ⟨va, m1, a1, t1⟩) (ob := ⟨vb, m2, a2, t2⟩) (oc := ⟨vc, m3, a3, t3⟩) (g1.h z2.1) d1.h (g2.h z2.2) (f1.h z1.2) d2.h (fun e => g3.h (c35.h (ci.h (cc.h z).2 e)).1) (fun e => f2.h (c35.h (ci.h (cc.h z).2 e)).2)⟩
/-! calls -/
class DenC (den : Den) (vs : List PV) (C : outParam Prop) (v : outParam PV) (m : outParam Nat) (outs : outParam (List PV)) : Prop where
  h : C → den vs = some (v, m, outs)
instance (priority := 100) denc_of {den : Den} {vs : List PV} {v : PV} {m : Nat} {outs : List PV} [d : DenR den vs v m outs] : DenC den vs True v m outs := ⟨fun _ => d.h⟩
instance wec_call0 {l : List Den} {ex : Option HxI} {j : Nat} {mu : List Nat} {as : IEs} {fr fr1 : Fr} {os : List Od} {vs : List PV} {den : Den} {v : PV} {m : Nat} {al : List Nat} {C1 C2 C : Prop} [z : Zs mu] [li : LenI as mu] [g : WLc (GsX l ex) as fr C1 fr1 os] [w : Vs os vs] [gd : GetG l j den] [d : DenC den vs C2 v m []] [c : Cj C1 C2 C] [k : KLs os al] :
    WEc (GsX l ex) (.call j mu false as) fr C fr1 ⟨v, m, al, false⟩ := ⟨fun y => by
  have y1 := g.h (c.h y).1
  have y2 := d.h (c.h y).2
  obtain ⟨h1, h2, h3⟩ := evLm_of z y1 li.h
  have := ev_call (na := false) (fr2 := fr1) h1 h2 (by rw [h3]; unfold nodupB disj; simp) (by rw [w.h, gd.h]; exact y2) (by rw [muPos_z z]; rfl) (by rw [h3]; rfl)
  rw [this, alM_z z (by rw [evL_len y1, li.h]), k.h]
  rfl⟩
/-- what is flat -/
class FlV (v : PV) (m : Nat) : Prop where
  h : flatM m v = true
class FlVs (vs : List PV) (m : Nat) : Prop where
  h : flatMs m vs = true
instance flv_n {m : Nat} : FlV .non m := ⟨by unfold flatM; rfl⟩
instance flv_b {x : Bool} {m : Nat} : FlV (.bl x) m := ⟨by unfold flatM; rfl⟩
instance flv_i {x : Int} {m : Nat} : FlV (.int x) m := ⟨by unfold flatM; rfl⟩
instance flv_s {x : Str} {m : Nat} : FlV (.str x) m := ⟨by unfold flatM; rfl⟩
instance flv_t {x : List PV} {m : Nat} [g : FlVs x m] : FlV (.tup x) m := ⟨by unfold flatM; exact g.h⟩
instance flv_l {x : List PV} {m : Nat} [g : FlVs x m] : FlV (.lst x) (m + 1) := ⟨by unfold flatM; exact g.h⟩
instance flvs_n {m : Nat} : FlVs [] m := ⟨by unfold flatMs; rfl⟩
instance flvs_c {v : PV} {vs : List PV} {m : Nat} [g : FlV v m] [h : FlVs vs m] : FlVs (v :: vs) m := ⟨by unfold flatMs; rw [g.h, h.h]; rfl⟩
class FlG {α : Type} (g : α → PV) (m : Nat) : Prop where
  h : ∀ x, flatM m (g x) = true
instance flg_i {m : Nat} : FlG PV.int m := ⟨fun _ => by unfold flatM; rfl⟩
instance flg_b {m : Nat} : FlG PV.bl m := ⟨fun _ => by unfold flatM; rfl⟩
instance flg_s {m : Nat} : FlG PV.str m := ⟨fun _ => by unfold flatM; rfl⟩
theorem flatMs_all {m : Nat} : ∀ {vs : List PV}, (∀ v ∈ vs, flatM m v = true) → flatMs m vs = true
  | [], _ => by unfold flatMs; rfl
  | v :: vs, h => by
    unfold flatMs
    rw [Bool.and_eq_true]
    exact ⟨h v List.mem_cons_self, flatMs_all fun u hu => h u (List.mem_cons_of_mem _ hu)⟩
instance flg_pr {m : Nat} : FlG pr m := ⟨fun _ => by show flatMs _ _ = true; simp [flatMs, flatM]⟩
instance flvs_m {α : Type} {g : α → PV} {m : Nat} {l : List α} [e : FlG g m] : FlVs (l.map g) m := ⟨flatMs_all fun v hv => by
  obtain ⟨y, _, rfl⟩ := List.mem_map.mp hv
  exact e.h y⟩
instance wec_call0f {l : List Den} {ex : Option HxI} {j : Nat} {mu : List Nat} {as : IEs} {fr fr1 : Fr} {os : List Od} {vs : List PV} {den : Den} {v : PV} {m : Nat} {C1 C2 C : Prop} [z : Zs mu] [li : LenI as mu] [g : WLc (GsX l ex) as fr C1 fr1 os] [w : Vs os vs] [gd : GetG l j den] [d : DenC den vs C2 v m []] [c : Cj C1 C2 C] [f : FlV v m] :
    WEc (GsX l ex) (.call j mu true as) fr C fr1 ⟨v, m, [], false⟩ := ⟨fun y => by
  have y1 := g.h (c.h y).1
  have y2 := d.h (c.h y).2
  obtain ⟨h1, h2, h3⟩ := evLm_of z y1 li.h
  exact ev_call (na := true) (fr2 := fr1) h1 h2 (by rw [h3]; unfold nodupB disj; simp) (by rw [w.h, gd.h]; exact y2) (by rw [muPos_z z, if_pos rfl, f.h]; rfl) (by rw [h3]; rfl)⟩
theorem call1_ok2 {l : List Den} {ex : Option HxI} {j m k m0 : Nat} {mu : List Nat} {i : Nat} {as : IEs} {fr fr1 fr2 : Fr} {os : List Od} {p p0 : Bool} {v00 v0 out v : PV} {vs : List PV} {den : Den} {na : Bool} (z : Zs mu) (li : lenI as = mu.length) (g : evL (GsX l ex) as fr = some (fr1, os)) (h0 : fr[i]? = some (some ⟨m0, p0, v00⟩)) (h1 : fr1[i]? = some (some ⟨m + 1, p, v0⟩))
    (w : os.map (·.v) = vs) (gd : GsX l ex j = den) (d : den (v0 :: vs) = some (v, k, [out])) (an : alsOf (·.al) os = []) (hna : na = true → flatM k v = true ∧ flatM (m + 1) out = true) (st : fr1.set i (some ⟨m + 1, p, out⟩) = fr2) :
    evE (GsX l ex) (.call j ((m + 1) :: mu) na (.cons (.var i) as)) fr = some (fr2, ⟨v, k, [], false⟩) := by
  obtain ⟨i1, i2, i3⟩ := evLm_of z g li
  have c1 : evLm (GsX l ex) ((m + 1) :: mu) (.cons (.var i) as) fr = some (fr1, ⟨.non, 0, [], false⟩ :: os) := evm_cons (by unfold isSlot varOf; simp only; rw [h0]) i1
  have c2 : fillM ((m + 1) :: mu) (.cons (.var i) as) (⟨.non, 0, [], false⟩ :: os) fr1 = some (v0 :: os.map (·.v)) := by
    unfold fillM
    rw [i2]
    simp only [Option.bind_some]
    rw [if_neg (by omega), h1]
    simp
  have c3 : mutArgs ((m + 1) :: mu) (.cons (.var i) as) = [i] := by
    rw [mutArgs_cons, if_neg (by omega), i3]
    rfl
  have am : alM ((m + 1) :: mu) (⟨.non, 0, [], false⟩ :: os) = [] := by
    unfold alM
    rw [if_neg (by omega), alM_z z (by rw [evL_len g, li]), an]
  have := ev_call (G := GsX l ex) (j := j) (na := na) (fr2 := fr2) c1 c2 (by rw [c3, am]; rfl) (by rw [w, gd]; exact d) (by
    cases na with
    | true =>
      obtain ⟨e1, e2⟩ := hna rfl
      rw [if_pos rfl, muPos_cons, if_neg (by omega), muPos_z z]
      unfold flatsM flatsM
      rw [e1, e2]
      rfl
    | false => rw [if_neg (by decide), am]; simp) (by
    rw [c3]
    unfold putM
    rw [h1]
    simp only
    unfold putM
    rw [st])
  rw [this, am]
  cases na <;> rfl
instance wec_call1 {l : List Den} {ex : Option HxI} {j m k m0 : Nat} {mu : List Nat} {i : Nat} {as : IEs} {fr fr1 fr2 : Fr} {os : List Od} {p p0 : Bool} {v00 v0 out v : PV} {vs : List PV} {den : Den} {C1 C2 C : Prop} [z : Zs mu] [li : LenI as mu] [h0 : GetF fr i (some ⟨m0, p0, v00⟩)] [g : WLc (GsX l ex) as fr C1 fr1 os] [h1 : GetF fr1 i (some ⟨m + 1, p, v0⟩)]
    [w : Vs os vs] [gd : GetG l j den] [d : DenC den (v0 :: vs) C2 v k [out]] [c : Cj C1 C2 C] [an : AlNil os] [st : SetF fr1 i (some ⟨m + 1, p, out⟩) fr2] : WEc (GsX l ex) (.call j ((m + 1) :: mu) false (.cons (.var i) as)) fr C fr2 ⟨v, k, [], false⟩ :=
  ⟨fun y => call1_ok2 z li.h (g.h (c.h y).1) h0.h h1.h w.h (gd.h _) (d.h (c.h y).2) an.h (fun z => nomatch z) st.h⟩
/-- a comprehension told from outside -/
instance wec_lc {own : List Nat} {pt : Pat} {it : IT} {ts : IEs} {e : IE} {k : Nat} {als : List Nat} {fr fr' : Fr} {o : Od} [g : WV G (.lc own pt it ts e k als) fr fr' o] : WEc G (.lc own pt it ts e k als) fr True fr' o := ⟨fun _ => g.h⟩
/-- and, behind its left side -/
class AndC (G : GE) (k : Bool) (b : IE) (fr : Fr) (C : outParam Prop) (fr' : outParam Fr) (o : outParam Od) : Prop where
  h : C → (if k = true then evE G b fr else some (fr, ⟨.bl false, 0, [], false⟩)) = some (fr', o)
instance andc_f {b : IE} {fr : Fr} : AndC G false b fr True fr ⟨.bl false, 0, [], false⟩ := ⟨fun _ => rfl⟩
instance andc_t {b : IE} {fr fr' : Fr} {C : Prop} {o : Od} [g : WEc G b fr C fr' o] : AndC G true b fr C fr' o := ⟨fun z => g.h z⟩
instance (priority := 10) andc_d {k l r : Bool} {b : IE} {fr : Fr} {C D : Prop} {m : Nat} {al : List Nat} {t : Bool} [g : WEc G b fr C fr ⟨.bl l, m, al, t⟩] [f : OdF m al t] [c : Ci k C D] [n : BAnd k l r] : AndC G k b fr D fr ⟨.bl r, 0, [], false⟩ := ⟨fun z => by
  rw [← n.h]
  cases k with
  | true => rw [if_pos rfl, g.h (c.h z rfl), f.h]; rfl
  | false => rfl⟩
instance wec_and {a b : IE} {fr fr1 fr2 : Fr} {k : Bool} {m : Nat} {al : List Nat} {t : Bool} {C1 C2 C : Prop} {o : Od} [g : WEc G a fr C1 fr1 ⟨.bl k, m, al, t⟩] [h : AndC G k b fr1 C2 fr2 o] [c : Cj C1 C2 C] : WEc G (.and a b) fr C fr2 o := ⟨fun z => by
  have h1 := g.h (c.h z).1
  have h2 := h.h (c.h z).2
  cases k with
  | true => exact ev_and_t h1 rfl h2
  | false => rw [ev_and_f h1 rfl]; exact h2⟩
class OrC (G : GE) (k : Bool) (b : IE) (fr : Fr) (C : outParam Prop) (fr' : outParam Fr) (o : outParam Od) : Prop where
  h : C → (if k = true then some (fr, ⟨.bl true, 0, [], false⟩) else evE G b fr) = some (fr', o)
instance orc_t {b : IE} {fr : Fr} : OrC G true b fr True fr ⟨.bl true, 0, [], false⟩ := ⟨fun _ => rfl⟩
instance orc_f {b : IE} {fr fr' : Fr} {C : Prop} {o : Od} [g : WEc G b fr C fr' o] : OrC G false b fr C fr' o := ⟨fun z => g.h z⟩
instance (priority := 10) orc_d {k l r nk : Bool} {b : IE} {fr : Fr} {C D : Prop} {m : Nat} {al : List Nat} {t : Bool} [g : WEc G b fr C fr ⟨.bl l, m, al, t⟩] [f : OdF m al t] [bn : BNot k nk] [c : Ci nk C D] [n : BOr k l r] : OrC G k b fr D fr ⟨.bl r, 0, [], false⟩ := ⟨fun z => by
  rw [← n.h]
  cases k with
  | true => rfl
  | false => rw [if_neg (by decide), g.h (c.h z (by rw [← bn.h]; rfl)), f.h]; rfl⟩
instance wec_or {a b : IE} {fr fr1 fr2 : Fr} {k : Bool} {m : Nat} {al : List Nat} {t : Bool} {C1 C2 C : Prop} {o : Od} [g : WEc G a fr C1 fr1 ⟨.bl k, m, al, t⟩] [h : OrC G k b fr1 C2 fr2 o] [c : Cj C1 C2 C] : WEc G (.or a b) fr C fr2 o := ⟨fun z => by
  have h1 := g.h (c.h z).1
  have h2 := h.h (c.h z).2
  cases k with
  | false => exact ev_or_f h1 rfl h2
  | true => rw [ev_or_t h1 rfl]; exact h2⟩
end
end VI
namespace VI
open PySem PySem.Spec PyProof.Rows L2

section
variable {G : GE}
/-! what is walked, under a condition -/
class WIc (G : GE) (it : IT) (fr : Fr) (C : outParam Prop) (fr' : outParam Fr) (vs : outParam (List PV)) (src al : outParam (List Nat)) : Prop where
  h : C → evI G it fr = some (fr', ⟨vs, src, al⟩)
/-- what a value's walk gives -/
class ItV (v : PV) (C : outParam Prop) (vs : outParam (List PV)) : Prop where
  h : C → iterOf v = some vs
instance itv_l {vs : List PV} : ItV (.lst vs) True vs := ⟨fun _ => rfl⟩
instance itv_t {vs : List PV} : ItV (.tup vs) True vs := ⟨fun _ => rfl⟩
instance itv_c {vs : List PV} : ItV (.scr vs) True vs := ⟨fun _ => rfl⟩
instance itv_s {s : Str} : ItV (.str s) (s.length ≤ 16777216) (s.cps.toList.map fun c => .str ⟨#[c]⟩) := ⟨fun h => by
  unfold iterOf; simp only; rw [if_pos (show s.length ≤ sizeLine from h)]⟩
instance wic_seq {e : IE} {fr fr1 : Fr} {v : PV} {vs : List PV} {m : Nat} {al r : List Nat} {t : Bool} {C C2 D : Prop} [g : WEc G e fr C fr1 ⟨v, m, al, t⟩] [i : ItV v C2 vs] [c : Cj C C2 D] [l : EL1 al t r] : WIc G (.seq e) fr D fr1 vs al r := ⟨fun z => by
  rw [evI, g.h (c.h z).1]; simp only [Option.bind_some]; rw [i.h (c.h z).2]; simp only [Option.bind_some]; rw [l.h]⟩
instance wic_r1 {e : IE} {fr fr1 : Fr} {j : Int} {m : Nat} {al : List Nat} {t : Bool} {C D : Prop} [g : WEc G e fr C fr1 ⟨.int j, m, al, t⟩] [c : Cj C (-4611686018427387904 ≤ j ∧ j < 4611686018427387904) D] : WIc G (.rng1 e) fr D fr1 (rangeP 0 j.toNat) [] [] := ⟨fun z => by
  rw [evI, g.h (c.h z).1]
  simp only [Option.bind_some, rng1F]
  have hh := (c.h z).2
  rw [if_pos (by omega)]
  rfl⟩
instance wic_r2 {e e2 : IE} {fr fr1 fr2 : Fr} {i j : Int} {m m2 : Nat} {al al2 : List Nat} {t t2 : Bool} {C C2 C3 D : Prop} [g : WEc G e fr C fr1 ⟨.int i, m, al, t⟩] [g2 : WEc G e2 fr1 C2 fr2 ⟨.int j, m2, al2, t2⟩] [c : Cj C C2 C3] [c2 : Cj C3 (-4611686018427387904 ≤ i ∧ i < 4611686018427387904 ∧ -4611686018427387904 ≤ j ∧ j < 4611686018427387904) D] : WIc G (.rng2 e e2) fr D fr2 (rangeP i (j - i).toNat) [] [] := ⟨fun z => by
  rw [evI, g.h (c.h (c2.h z).1).1]
  simp only [Option.bind_some]
  rw [g2.h (c.h (c2.h z).1).2]
  simp only [Option.bind_some, rng2F]
  have hh := (c2.h z).2
  rw [if_pos (by omega)]
  rfl⟩
instance wic_rev {e : IE} {fr fr1 : Fr} {vs ws : List PV} {m : Nat} {al r : List Nat} {t : Bool} {C : Prop} [g : WEc G e fr C fr1 ⟨.lst vs, m, al, t⟩] [l : EL1 al t r] [rv : Rv vs ws] : WIc G (.rev e) fr C fr1 ws al r := ⟨fun z => by rw [evI, g.h z]; simp only [Option.bind_some]; rw [l.h, rv.h]⟩
instance wic_enum {e : IE} {fr fr1 : Fr} {vs : List PV} {m : Nat} {al r : List Nat} {t : Bool} {C : Prop} [g : WEc G e fr C fr1 ⟨.lst vs, m, al, t⟩] [l : EL1 al t r] : WIc G (.enum e) fr C fr1 (enumP 0 vs) al r := ⟨fun z => by rw [evI, g.h z]; simp only [Option.bind_some]; rw [l.h]⟩
instance wic_zip {e e2 : IE} {fr fr1 fr2 : Fr} {vs ws : List PV} {m m2 : Nat} {al al2 r r2 s s2 : List Nat} {t t2 : Bool} {C C2 D : Prop} [g : WEc G e fr C fr1 ⟨.lst vs, m, al, t⟩] [dj : DjE al e2] [g2 : WEc G e2 fr1 C2 fr2 ⟨.lst ws, m2, al2, t2⟩] [c : Cj C C2 D] [l : EL1 al t r] [l2 : EL1 al2 t2 r2] [a1 : Ap al al2 s] [a2 : Ap r r2 s2] : WIc G (.zip e e2) fr D fr2 (zipP vs ws) s s2 := ⟨fun z => by
  rw [evI, g.h (c.h z).1]
  simp only [Option.bind_some]
  rw [if_pos dj.h, g2.h (c.h z).2]
  simp only [Option.bind_some]
  rw [l.h, l2.h, a1.h, a2.h]⟩

/-! ### statements, from here to the end -/
structure SK (G : GE) (bs : List ISs) (fr : Fr) (Q : Fr → Fl → Prop) : Prop where
  h : ∃ fr' fl, evK G bs fr = some (fr', fl) ∧ Q fr' fl
variable {as : ISs} {bs : List ISs} {fr fr1 fr2 fr3 fr4 : Fr} {Q : Fr → Fl → Prop}
theorem sk_end (h : Q fr .next) : SK G [] fr Q := ⟨_, _, rfl, h⟩
theorem sk_nil (h : SK G bs fr Q) : SK G (.nil :: bs) fr Q := by
  obtain ⟨fr', fl, e, q⟩ := h
  refine ⟨fr', fl, ?_, q⟩
  show (evSs G .nil fr).bind _ = _
  rw [evSs]
  exact e
theorem sk_next {a : IS} (e : evS G a fr = some (fr1, .next)) (h : SK G (as :: bs) fr1 Q) : SK G (.cons a as :: bs) fr Q := by
  obtain ⟨fr', fl, e2, q⟩ := h
  exact ⟨fr', fl, by rw [evK_cons, e]; exact e2, q⟩
theorem sk_asg {i : Nat} {e : IE} {v : PV} {m : Nat} {al : List Nat} {t : Bool} {C : Prop} [g : WEc G e fr C fr1 ⟨v, m, al, t⟩] [d : WDem al fr1 fr2] [s : WSet i m v fr2 fr3] (c : C) (h : SK G (as :: bs) fr3 Q) : SK G (.cons (.asg i e) as :: bs) fr Q :=
  sk_next (es_asg (g.h c) d.h s.h) h
theorem sk_asgT {p : Pat} {e : IE} {v : PV} {m : Nat} {al : List Nat} {t : Bool} {C : Prop} [g : WEc G e fr C fr1 ⟨v, m, al, t⟩] [d : WDem al fr1 fr2] [s : WPat p v fr2 fr3] (c : C) (h : SK G (as :: bs) fr3 Q) : SK G (.cons (.asgT p e) as :: bs) fr Q :=
  sk_next (es_asgT (g.h c) d.h s.h) h
theorem sk_ex {e : IE} {o : Od} {C : Prop} [g : WEc G e fr C fr1 o] (c : C) (h : SK G (as :: bs) fr1 Q) : SK G (.cons (.ex e) as :: bs) fr Q :=
  sk_next (by rw [evS, g.h c]; rfl) h
theorem sk_pass (h : SK G (as :: bs) fr Q) : SK G (.cons .pass as :: bs) fr Q := sk_next (by rw [evS]) h
theorem sk_ret {e : IE} {v : PV} {m : Nat} {al : List Nat} {t : Bool} {C : Prop} [n : NVar e] [g : WEc G e fr C fr1 ⟨v, m, al, t⟩] [d : WDem al fr1 fr2] (c : C) (h : Q fr2 (.ret v m)) : SK G (.cons (.ret e) as :: bs) fr Q :=
  ⟨_, _, by rw [evK_cons, es_rt n.h (g.h c) d.h rfl rfl]; rfl, h⟩
theorem sk_retV0 {i : Nat} {v : PV} {p : Bool} [g : GetF fr i (some ⟨0, p, v⟩)] (h : Q fr (.ret v 0)) : SK G (.cons (.ret (.var i)) as :: bs) fr Q :=
  ⟨_, _, by rw [evK_cons, es_rtV g.h]; rfl, h⟩
theorem sk_retV1 {i m : Nat} {v : PV} [g : GetF fr i (some ⟨m + 1, false, v⟩)] [s : SetF fr i none fr1] (h : Q fr1 (.ret v (m + 1))) : SK G (.cons (.ret (.var i)) as :: bs) fr Q :=
  ⟨_, _, by
    rw [evK_cons, evS, g.h]
    simp only
    rw [if_neg (by omega), if_neg (by decide), s.h]
    rfl, h⟩
theorem sk_retN (h : Q fr (.ret .non 0)) : SK G (.cons .retN as :: bs) fr Q := ⟨_, _, by rw [evK_cons, evS]; rfl, h⟩
theorem sk_brk (h : Q fr .brk) : SK G (.cons .brk as :: bs) fr Q := ⟨_, _, by rw [evK_cons, evS]; rfl, h⟩
theorem sk_cont (h : Q fr .cont) : SK G (.cons .cont as :: bs) fr Q := ⟨_, _, by rw [evK_cons, evS]; rfl, h⟩
theorem sk_iteT {c : IE} {a b : ISs} {m : Nat} {al : List Nat} {t : Bool} {C : Prop} [g : WEc G c fr C fr1 ⟨.bl true, m, al, t⟩] (hc : C) (h : SK G (a :: as :: bs) fr1 Q) : SK G (.cons (.ite c a b) as :: bs) fr Q := by
  obtain ⟨fr', fl, e, q⟩ := h
  exact ⟨fr', fl, by rw [evK_cons, es_ite (g.h hc) rfl]; exact e, q⟩
theorem sk_iteF {c : IE} {a b : ISs} {m : Nat} {al : List Nat} {t : Bool} {C : Prop} [g : WEc G c fr C fr1 ⟨.bl false, m, al, t⟩] (hc : C) (h : SK G (b :: as :: bs) fr1 Q) : SK G (.cons (.ite c a b) as :: bs) fr Q := by
  obtain ⟨fr', fl, e, q⟩ := h
  exact ⟨fr', fl, by rw [evK_cons, es_ite (g.h hc) rfl]; exact e, q⟩
theorem sk_ite {c : IE} {a b : ISs} {k : Bool} {m : Nat} {al : List Nat} {t : Bool} {C P : Prop} [g : WEc G c fr C fr1 ⟨.bl k, m, al, t⟩] [tp : TP k P] (hc : C) (h : P → SK G (a :: as :: bs) fr1 Q) (h2 : ¬ P → SK G (b :: as :: bs) fr1 Q) : SK G (.cons (.ite c a b) as :: bs) fr Q := by
  cases k with
  | true => exact sk_iteT hc (h (tp.h.mp rfl))
  | false => exact sk_iteF hc (h2 (tp.f.mp rfl))
/-- which ways there are -/
class BrP (k : Bool) (A B : Prop) (R : outParam Prop) : Prop where
  h : R → (k = true → A) ∧ (k = false → B)
instance brp_t {A B : Prop} : BrP true A B A := ⟨fun h => ⟨fun _ => h, fun e => nomatch e⟩⟩
instance brp_f {A B : Prop} : BrP false A B B := ⟨fun h => ⟨fun e => (nomatch e), fun _ => h⟩⟩
instance (priority := 10) brp_d {k : Bool} {A B P : Prop} [t : TP k P] : BrP k A B ((P → A) ∧ (¬ P → B)) := ⟨fun h => ⟨fun e => h.1 (t.h.mp e), fun e => h.2 (t.f.mp e)⟩⟩
theorem sk_iteB {c : IE} {a b : ISs} {k : Bool} {m : Nat} {al : List Nat} {t : Bool} {C R : Prop} [g : WEc G c fr C fr1 ⟨.bl k, m, al, t⟩] [br : BrP k (SK G (a :: as :: bs) fr1 Q) (SK G (b :: as :: bs) fr1 Q) R] (hc : C) (h : R) : SK G (.cons (.ite c a b) as :: bs) fr Q := by
  obtain ⟨h1, h2⟩ := br.h h
  cases k with
  | true => exact sk_iteT hc (h1 rfl)
  | false => exact sk_iteF hc (h2 rfl)
theorem sk_aug {i : Nat} {e : IE} {x y : Int} {m m0 : Nat} {al : List Nat} {t p : Bool} {C : Prop} [g0 : GetF fr i (some ⟨m0, p, .int x⟩)] [g : WEc G e fr C fr1 ⟨.int y, m, al, t⟩] [s : WSet i 0 (.int (x + y)) fr1 fr2] (c : C) (h : SK G (as :: bs) fr2 Q) : SK G (.cons (.aug i .add e) as :: bs) fr Q :=
  sk_next (by
    rw [evS, g.h c]
    simp only [Option.bind_some]
    rw [g0.h]
    simp only [augF, Option.bind_some]
    rw [s.h]
    rfl) h
theorem sk_augS {i : Nat} {e : IE} {x y : Int} {m m0 : Nat} {al : List Nat} {t p : Bool} {C : Prop} [g0 : GetF fr i (some ⟨m0, p, .int x⟩)] [g : WEc G e fr C fr1 ⟨.int y, m, al, t⟩] [s : WSet i 0 (.int (x - y)) fr1 fr2] (c : C) (h : SK G (as :: bs) fr2 Q) : SK G (.cons (.aug i .sub e) as :: bs) fr Q :=
  sk_next (by
    rw [evS, g.h c]
    simp only [Option.bind_some]
    rw [g0.h]
    simp only [augF, Option.bind_some]
    rw [s.h]
    rfl) h
/-- an item is put at the end of an owned list -/
theorem sk_app {i : Nat} {e : IE} {v : PV} {m p0 n : Nat} {al : List Nat} {t p q0 : Bool} {vs vs0 ws : List PV} {C : Prop} [g0 : GetF fr i (some ⟨p0, q0, .lst vs0⟩)] [g : WEc G e fr C fr1 ⟨v, m, al, t⟩] [d : WDem al fr1 fr2] [g2 : GetF fr2 i (some ⟨1, p, .lst vs⟩)] [l : Len vs n] [sn : Snoc vs v ws] [s : SetF fr2 i (some ⟨1, p, .lst ws⟩) fr3] (c : C) (hn : n < 16777216) (h : SK G (as :: bs) fr3 Q) :
    SK G (.cons (.app i e) as :: bs) fr Q :=
  sk_next (by
    have hl : vs.length < sizeLine := by rw [l.h]; exact hn
    rw [evS, if_neg (by unfold isLAt; rw [g0.h]; exact Bool.noConfusion), g.h c]
    simp only [Option.bind_some]
    rw [d.h]
    simp only [Option.bind_some]
    rw [g2.h]
    simp only
    rw [if_pos (by rw [decide_eq_true hl]; rfl), sn.h, s.h]) h
/-- an owned list (m levels) is put at the end of a list that owns one level more -/
theorem sk_app2 {i : Nat} {e : IE} {v : PV} {m p0 n : Nat} {t p q0 : Bool} {vs vs0 ws : List PV} {C : Prop} [g0 : GetF fr i (some ⟨p0, q0, .lst vs0⟩)] [g : WEc G e fr C fr1 ⟨v, m, [], t⟩] [g2 : GetF fr1 i (some ⟨m + 1, p, .lst vs⟩)] [l : Len vs n] [sn : Snoc vs v ws] [s : SetF fr1 i (some ⟨m + 1, p, .lst ws⟩) fr3] (c : C) (hn : n < 16777216) (h : SK G (as :: bs) fr3 Q) :
    SK G (.cons (.app i e) as :: bs) fr Q :=
  sk_next (by
    have hl : vs.length < sizeLine := by rw [l.h]; exact hn
    rw [evS, if_neg (by unfold isLAt; rw [g0.h]; exact Bool.noConfusion), g.h c]
    simp only [Option.bind_some]
    rw [show dem [] fr1 = some fr1 from rfl]
    simp only [Option.bind_some]
    rw [g2.h]
    simp only
    rw [if_pos (by rw [decide_eq_true hl]; unfold putOk; simp), sn.h, s.h]) h
/-- an item is set -/
class SetZ (vs : List PV) (i : Int) (v : PV) (C : outParam Prop) (ws : outParam (List PV)) : Prop where
  h : C → ∃ k, L2.ixN vs.length i = some k ∧ vs.set k v = ws
instance (priority := 60) setz_lit {vs ws : List PV} {n : Nat} {v : PV} [g : SetP vs n v ws] : SetZ vs (no_index (OfNat.ofNat n : Int)) v True ws := ⟨fun _ => ⟨n, ixN_nat g.h.1, g.h.2⟩⟩
class SetM (vs : List PV) (k : Nat) (v : PV) (ws : outParam (List PV)) : Prop where
  h : vs.set k v = ws
instance (priority := 10) setm_d {vs : List PV} {k : Nat} {v : PV} : SetM vs k v (vs.set k v) := ⟨rfl⟩
instance setm_i {l : List Int} {k : Nat} {x : Int} : SetM (l.map PV.int) k (.int x) ((l.set k x).map PV.int) := ⟨by rw [List.map_set]⟩
instance setm_b {l : List Bool} {k : Nat} {x : Bool} : SetM (l.map PV.bl) k (.bl x) ((l.set k x).map PV.bl) := ⟨by rw [List.map_set]⟩
instance setm_s {l : List Str} {k : Nat} {x : Str} : SetM (l.map PV.str) k (.str x) ((l.set k x).map PV.str) := ⟨by rw [List.map_set]⟩
instance (priority := 50) setz_d {vs ws : List PV} {i : Int} {v : PV} {n k : Nat} {C : Prop} [l : Len vs n] [p : PosC n i C k] [s : SetM vs k v ws] : SetZ vs i v C ws := ⟨fun c => ⟨k, by rw [l.h]; exact p.h c, s.h⟩⟩
theorem sk_seti {i p' : Nat} {e ix : IE} {v : PV} {z : Int} {m : Nat} {al : List Nat} {t p pp : Bool} {m2 : Nat} {al2 : List Nat} {t2 : Bool} {vs vs0 ws : List PV} {C C2 C3 : Prop} [g : WEc G e fr C fr1 ⟨v, m, al, t⟩] [dj : DjE al ix] [g1 : GetF fr1 i (some ⟨p', pp, .lst vs0⟩)]
    [gi : WEc G ix fr1 C2 fr2 ⟨.int z, m2, al2, t2⟩] [d : WDem al fr2 fr3] [g3 : GetF fr3 i (some ⟨1, p, .lst vs⟩)] [sz : SetZ vs z v C3 ws] [s : SetF fr3 i (some ⟨1, p, .lst ws⟩) fr4] (c : C) (c2 : C2) (c3 : C3) (h : SK G (as :: bs) fr4 Q) : SK G (.cons (.seti i ix e) as :: bs) fr Q :=
  sk_next (by
    obtain ⟨k, hk, hs⟩ := sz.h c3
    rw [evS, g.h c]
    simp only [Option.bind_some]
    rw [if_pos (by rw [dj.h, Bool.true_and]; unfold isLAt; rw [g1.h]; rfl), gi.h c2]
    simp only [Option.bind_some]
    rw [d.h]
    simp only [Option.bind_some]
    rw [g3.h]
    simp only [hk]
    rw [if_pos (by unfold putOk; rfl), hs, s.h]) h
/-- a place of a list of lists is set -/
class SetZ2 (vs : List PV) (z y : Int) (v : PV) (C : outParam Prop) (ws : outParam (List PV)) : Prop where
  h : C → ∃ n k us, ixN vs.length z = some n ∧ vs[n]? = some (.lst us) ∧ ixN us.length y = some k ∧ vs.set n (.lst (us.set k v)) = ws
theorem ixN_of {n : Nat} {z : Int} (h0 : 0 ≤ z) (h1 : z < n) : ixN n z = some z.toNat := by unfold ixN; rw [if_pos h0, if_pos h1]
instance setz2_m {β : Type} {g : β → PV} {rows : List (List β)} {z y : Int} {b : β} : SetZ2 (rows.map fun r => .lst (r.map g)) z y (g b) ((0 ≤ z ∧ z < rows.length) ∧ (0 ≤ y ∧ y < (rows.getD z.toNat []).length)) ((rows.set z.toNat ((rows.getD z.toNat []).set y.toNat b)).map fun r => .lst (r.map g)) := ⟨fun ⟨⟨h1, h2⟩, h3, h4⟩ => by
  have hz : z.toNat < rows.length := by omega
  have e : rows.getD z.toNat [] = rows[z.toNat] := by rw [List.getD_eq_getElem?_getD, List.getElem?_eq_getElem hz]; rfl
  refine ⟨z.toNat, y.toNat, (rows.getD z.toNat []).map g, ixN_of h1 (by rw [List.length_map]; exact h2), ?_, ixN_of h3 (by rw [List.length_map]; exact h4), ?_⟩
  · rw [List.getElem?_map, List.getElem?_eq_getElem hz, e]; rfl
  · rw [List.map_set, List.map_set]⟩
theorem sk_setij {i p' : Nat} {e ix jx : IE} {v : PV} {z y : Int} {m : Nat} {t p pp : Bool} {m2 m3 : Nat} {al2 al3 : List Nat} {t2 t3 : Bool} {vs vs0 ws : List PV} {fr1 fr2 fr3 fr4 : Fr} {C C2 C3 C4 : Prop} [g : WEc G e fr C fr1 ⟨v, m, [], t⟩] [nm : NoMut jx] [g1 : GetF fr1 i (some ⟨p', pp, .lst vs0⟩)]
    [gi : WEc G ix fr1 C2 fr2 ⟨.int z, m2, al2, t2⟩] [gj : WEc G jx fr2 C3 fr3 ⟨.int y, m3, al3, t3⟩] [g3 : GetF fr3 i (some ⟨2, p, .lst vs⟩)] [sz : SetZ2 vs z y v C4 ws] [s : SetF fr3 i (some ⟨2, p, .lst ws⟩) fr4] (c : C) (c2 : C2) (c3 : C3) (c4 : C4) (h : SK G (as :: bs) fr4 Q) : SK G (.cons (.setij i ix jx e) as :: bs) fr Q :=
  sk_next (by
    obtain ⟨n, k, us, h1, h2, h3, h4⟩ := sz.h c4
    rw [evS, g.h c]
    simp only [Option.bind_some]
    rw [if_pos (by unfold isLAt; rw [g1.h]; rfl), gi.h c2]
    simp only [Option.bind_some]
    rw [if_pos (by rw [nm.h]; rfl), gj.h c3]
    simp only [Option.bind_some]
    rw [dem]
    simp only [Option.bind_some]
    rw [g3.h]
    simp only [h1, h2, h3]
    rw [if_pos trivial, h4, s.h]) h
theorem sk_augi {i : Nat} {e ix : IE} {x y z : Int} {m : Nat} {al : List Nat} {t p : Bool} {m2 : Nat} {al2 : List Nat} {t2 : Bool} {vs ws vs0 vs1 : List PV} {p0 p1 : Nat} {q0 q1 : Bool} {C C2 C3 C4 : Prop} [g0 : GetF fr i (some ⟨p0, q0, .lst vs0⟩)] [gi : WEc G ix fr C fr1 ⟨.int z, m2, al2, t2⟩] [g1 : GetF fr1 i (some ⟨p1, q1, .lst vs1⟩)] [gp : IxZ vs1 z C3 (.int x)]
    [g : WEc G e fr1 C2 fr2 ⟨.int y, m, al, t⟩] [g3 : GetF fr2 i (some ⟨1, p, .lst vs⟩)] [sz : SetZ vs z (.int (x + y)) C4 ws] [s : SetF fr2 i (some ⟨1, p, .lst ws⟩) fr3] (c : C) (c2 : C2) (c3 : C3) (c4 : C4) (h : SK G (as :: bs) fr3 Q) : SK G (.cons (.augi i .add ix e) as :: bs) fr Q :=
  sk_next (by
    obtain ⟨k, hk, hs⟩ := sz.h c4
    rw [evS, if_neg (by unfold isLAt; rw [g0.h]; exact Bool.noConfusion), gi.h c]
    simp only [Option.bind_some]
    rw [if_neg (by unfold isLAt; rw [g1.h]; exact Bool.noConfusion), g1.h]
    simp only
    have ix1 : pvIdx (.lst vs1) (.int z) = some (.int x) := gp.h c3
    rw [ix1]
    simp only [Option.bind_some]
    rw [g.h c2]
    simp only [Option.bind_some, augF]
    rw [g3.h]
    simp only [hk]
    rw [if_pos trivial, hs, s.h]) h
theorem sk_augiS {i : Nat} {e ix : IE} {x y z : Int} {m : Nat} {al : List Nat} {t p : Bool} {m2 : Nat} {al2 : List Nat} {t2 : Bool} {vs ws vs0 vs1 : List PV} {p0 p1 : Nat} {q0 q1 : Bool} {C C2 C3 C4 : Prop} [g0 : GetF fr i (some ⟨p0, q0, .lst vs0⟩)] [gi : WEc G ix fr C fr1 ⟨.int z, m2, al2, t2⟩] [g1 : GetF fr1 i (some ⟨p1, q1, .lst vs1⟩)] [gp : IxZ vs1 z C3 (.int x)]
    [g : WEc G e fr1 C2 fr2 ⟨.int y, m, al, t⟩] [g3 : GetF fr2 i (some ⟨1, p, .lst vs⟩)] [sz : SetZ vs z (.int (x - y)) C4 ws] [s : SetF fr2 i (some ⟨1, p, .lst ws⟩) fr3] (c : C) (c2 : C2) (c3 : C3) (c4 : C4) (h : SK G (as :: bs) fr3 Q) : SK G (.cons (.augi i .sub ix e) as :: bs) fr Q :=
  sk_next (by
    obtain ⟨k, hk, hs⟩ := sz.h c4
    rw [evS, if_neg (by unfold isLAt; rw [g0.h]; exact Bool.noConfusion), gi.h c]
    simp only [Option.bind_some]
    rw [if_neg (by unfold isLAt; rw [g1.h]; exact Bool.noConfusion), g1.h]
    simp only
    have ix1 : pvIdx (.lst vs1) (.int z) = some (.int x) := gp.h c3
    rw [ix1]
    simp only [Option.bind_some]
    rw [g.h c2]
    simp only [Option.bind_some, augF]
    rw [g3.h]
    simp only [hk]
    rw [if_pos trivial, hs, s.h]) h

/-! ### loops -/
/-- the walk of a for -/
structure SF (G : GE) (p : Pat) (b : ISs) (vs : List PV) (fr : Fr) (Q : Fr → Fl → Prop) : Prop where
  h : ∃ fr' fl, forGo (asgP p) (evSs G b) vs fr = some (fr', fl) ∧ Q fr' fl
/-- one turn -/
structure TB (G : GE) (p : Pat) (b : ISs) (v : PV) (fr : Fr) (Q : Fr → Fl → Prop) : Prop where
  h : ∃ fr1, asgP p v fr = some fr1 ∧ SK G [b] fr1 Q
theorem tb_of {p : Pat} {b : ISs} {v : PV} [w : WPat p v fr fr1] (h : SK G [b] fr1 Q) : TB G p b v fr Q := ⟨fr1, w.h, h⟩
theorem sk_for {p : Pat} {it : IT} {b : ISs} {vs : List PV} {src al : List Nat} {C : Prop} [w : WIc G it fr C fr1 vs src al] [d : WDem al fr1 fr2] (c : C) (dj : disj src (mutdSs b) = true) (h : SF G p b vs fr2 fun fr' fl => match fl with
    | .next => SK G (as :: bs) fr' Q
    | fl => Q fr' fl) : SK G (.cons (.for p it b) as :: bs) fr Q := by
  obtain ⟨fr', fl, e, q⟩ := h
  have e2 : evS G (.for p it b) fr = some (fr', fl) := by
    rw [evS, w.h c]
    simp only [Option.bind_some]
    rw [if_pos dj, d.h]
    exact e
  cases fl with
  | next => exact sk_next e2 q
  | brk => exact ⟨fr', .brk, by rw [evK_cons, e2]; rfl, q⟩
  | cont => exact ⟨fr', .cont, by rw [evK_cons, e2]; rfl, q⟩
  | ret v m => exact ⟨fr', .ret v m, by rw [evK_cons, e2]; rfl, q⟩
theorem sf_nil {p : Pat} {b : ISs} (h : Q fr .next) : SF G p b [] fr Q := ⟨fr, .next, rfl, h⟩
theorem sf_cons {p : Pat} {b : ISs} {v : PV} {vs : List PV} (h : TB G p b v fr fun fr' fl => match fl with
    | .next => SF G p b vs fr' Q
    | .cont => SF G p b vs fr' Q
    | .brk => Q fr' .next
    | fl => Q fr' fl) : SF G p b (v :: vs) fr Q := by
  obtain ⟨fr1, e1, fr2, fl, e2, q⟩ := h
  rw [evK_one] at e2
  refine ⟨?_⟩
  rw [forGo_cons, e1]
  simp only [Option.bind_some]
  rw [e2]
  simp only [Option.bind_some]
  cases fl with
  | next => exact q.h
  | cont => exact q.h
  | brk => exact ⟨fr2, .next, rfl, q⟩
  | ret v m => exact ⟨fr2, .ret v m, rfl, q⟩
/-- by an invariant over the turns -/
theorem sf_inv {p : Pat} {b : ISs} {vs : List PV} {S : Type} (st : S → Fr) (I : Nat → S → Prop) (s0 : S) (h0 : fr = st s0) (i0 : I 0 s0)
    (step : ∀ k v s, vs[k]? = some v → I k s → TB G p b v (st s) fun fr' fl => match fl with
      | .next => ∃ s', fr' = st s' ∧ I (k + 1) s'
      | .cont => ∃ s', fr' = st s' ∧ I (k + 1) s'
      | .brk => Q fr' .next
      | fl => Q fr' fl) (fin : ∀ s, I vs.length s → Q (st s) .next) : SF G p b vs fr Q := by
  subst h0
  have key : ∀ (m n : Nat) (s : S), vs.length - n = m → n ≤ vs.length → I n s → SF G p b (vs.drop n) (st s) Q := by
    intro m
    induction m with
    | zero =>
      intro n s hm hn i
      have : n = vs.length := by omega
      subst this
      rw [List.drop_eq_nil_of_le (Nat.le_refl _)]
      exact sf_nil (fin s i)
    | succ m ih =>
      intro n s hm hn i
      have hn : n < vs.length := by omega
      rw [List.drop_eq_getElem_cons hn]
      obtain ⟨fr1, e1, fr2, fl, e2, q⟩ := step n vs[n] s (List.getElem?_eq_getElem hn) i
      refine sf_cons ⟨fr1, e1, fr2, fl, e2, ?_⟩
      cases fl with
      | next =>
        obtain ⟨s', e, i'⟩ := q
        subst e
        exact ih (n + 1) s' (by omega) (by omega) i'
      | cont =>
        obtain ⟨s', e, i'⟩ := q
        subst e
        exact ih (n + 1) s' (by omega) (by omega) i'
      | brk => exact q
      | ret v m => exact q
  exact key vs.length 0 s0 rfl (Nat.zero_le _) i0
theorem sf_range {p : Pat} {b : ISs} {lo : Int} {n : Nat} {S : Type} (st : S → Fr) (I : Nat → S → Prop) (s0 : S) (h0 : fr = st s0) (i0 : I 0 s0)
    (step : ∀ (k : Nat) s, k < n → I k s → TB G p b (.int (lo + k)) (st s) fun fr' fl => match fl with
      | .next => ∃ s', fr' = st s' ∧ I (k + 1) s'
      | .cont => ∃ s', fr' = st s' ∧ I (k + 1) s'
      | .brk => Q fr' .next
      | fl => Q fr' fl) (fin : ∀ s, I n s → Q (st s) .next) : SF G p b (rangeP lo n) fr Q :=
  sf_inv st I s0 h0 i0 (fun k v s hv i => by obtain ⟨rfl, hk⟩ := rangeP_at hv; exact step k s hk i) (by rw [rangeP_length]; exact fin)
/-- from 0 on -/
theorem sf_range0 {p : Pat} {b : ISs} {n : Nat} {S : Type} (st : S → Fr) (I : Nat → S → Prop) (s0 : S) (h0 : fr = st s0) (i0 : I 0 s0)
    (step : ∀ (k : Nat) s, k < n → I k s → TB G p b (.int (k : Int)) (st s) fun fr' fl => match fl with
      | .next => ∃ s', fr' = st s' ∧ I (k + 1) s'
      | .cont => ∃ s', fr' = st s' ∧ I (k + 1) s'
      | .brk => Q fr' .next
      | fl => Q fr' fl) (fin : ∀ s, I n s → Q (st s) .next) : SF G p b (rangeP 0 n) fr Q :=
  sf_range st I s0 h0 i0 (fun k s hk i => by rw [Int.zero_add]; exact step k s hk i) fin
theorem sf_map {p : Pat} {b : ISs} {α : Type} {g : α → PV} {l : List α} {S : Type} (st : S → Fr) (I : Nat → S → Prop) (s0 : S) (h0 : fr = st s0) (i0 : I 0 s0)
    (step : ∀ (k : Nat) x s, l[k]? = some x → I k s → TB G p b (g x) (st s) fun fr' fl => match fl with
      | .next => ∃ s', fr' = st s' ∧ I (k + 1) s'
      | .cont => ∃ s', fr' = st s' ∧ I (k + 1) s'
      | .brk => Q fr' .next
      | fl => Q fr' fl) (fin : ∀ s, I l.length s → Q (st s) .next) : SF G p b (l.map g) fr Q :=
  sf_inv st I s0 h0 i0 (fun k v s hv i => by
    rw [List.getElem?_map] at hv
    cases e : l[k]? with
    | none => rw [e] at hv; cases hv
    | some x => rw [e] at hv; cases hv; exact step k x s e i) (by rw [List.length_map]; exact fin)
theorem sf_enum {p : Pat} {b : ISs} {α : Type} {g : α → PV} {l : List α} {S : Type} (st : S → Fr) (I : Nat → S → Prop) (s0 : S) (h0 : fr = st s0) (i0 : I 0 s0)
    (step : ∀ (k : Nat) x s, l[k]? = some x → I k s → TB G p b (.tup [.int (k : Int), g x]) (st s) fun fr' fl => match fl with
      | .next => ∃ s', fr' = st s' ∧ I (k + 1) s'
      | .cont => ∃ s', fr' = st s' ∧ I (k + 1) s'
      | .brk => Q fr' .next
      | fl => Q fr' fl) (fin : ∀ s, I l.length s → Q (st s) .next) : SF G p b (enumP 0 (l.map g)) fr Q :=
  sf_inv st I s0 h0 i0 (fun k v s hv i => by
    obtain ⟨w, hw, e⟩ := enumP_get hv
    rw [List.getElem?_map] at hw
    cases e2 : l[k]? with
    | none => rw [e2] at hw; cases hw
    | some x =>
      rw [e2] at hw
      cases hw
      rw [e, Nat.zero_add]
      exact step k x s e2 i) (by rw [enumP_length, List.length_map]; exact fin)
/-- a test -/
structure SC (G : GE) (c : IE) (fr : Fr) (A B : Fr → Prop) : Prop where
  h : ∃ fr1 k m al t, evE G c fr = some (fr1, ⟨.bl k, m, al, t⟩) ∧ (k = true → A fr1) ∧ (k = false → B fr1)
theorem sc_of {c : IE} {k : Bool} {m : Nat} {al : List Nat} {t : Bool} {C P : Prop} {A B : Fr → Prop} [g : WEc G c fr C fr1 ⟨.bl k, m, al, t⟩] [tp : TP k P] (hc : C) (h : P → A fr1) (h2 : ¬ P → B fr1) : SC G c fr A B :=
  ⟨fr1, k, m, al, t, g.h hc, fun e => h (tp.h.mp e), fun e => h2 (tp.f.mp e)⟩
theorem sc_ofB {c : IE} {k : Bool} {m : Nat} {al : List Nat} {t : Bool} {C R : Prop} {A B : Fr → Prop} [g : WEc G c fr C fr1 ⟨.bl k, m, al, t⟩] [br : BrP k (A fr1) (B fr1) R] (hc : C) (h : R) : SC G c fr A B :=
  ⟨fr1, k, m, al, t, g.h hc, (br.h h).1, (br.h h).2⟩
theorem sk_whl {c : IE} {b : ISs} {S : Type} (st : S → Fr) (I : Nat → S → Prop) (n0 : Nat) (s0 : S) (h0 : fr = st s0) (i0 : I n0 s0)
    (step : ∀ n s, I n s → SC G c (st s) (fun fr1 => SK G [b] fr1 fun fr' fl => match fl with
      | .next => ∃ n' s', fr' = st s' ∧ n' < n ∧ I n' s'
      | .cont => ∃ n' s', fr' = st s' ∧ n' < n ∧ I n' s'
      | .brk => SK G (as :: bs) fr' Q
      | fl => Q fr' fl) (fun fr1 => SK G (as :: bs) fr1 Q)) : SK G (.cons (.whl c b) as :: bs) fr Q := by
  subst h0
  have key : ∀ n s, I n s → ∃ fr' fl, evS G (.whl c b) (st s) = some (fr', fl) ∧ (match fl with | .next => SK G (as :: bs) fr' Q | fl => Q fr' fl) := by
    intro n
    induction n using Nat.strongRecOn with
    | ind n ih =>
      intro s i
      obtain ⟨fr1, k, m, al, t, e1, h1, h2⟩ := step n s i
      cases k with
      | false =>
        refine ⟨fr1, .next, ?_, h2 rfl⟩
        rw [evS, wh_eq, e1]
        rfl
      | true =>
        obtain ⟨fr2, fl, e2, q⟩ := h1 rfl
        rw [evK_one] at e2
        cases fl with
        | next =>
          obtain ⟨n', s', e, l, i'⟩ := q
          subst e
          obtain ⟨fr', fl', e3, q'⟩ := ih n' l s' i'
          refine ⟨fr', fl', ?_, q'⟩
          rw [evS] at e3 ⊢
          rw [wh_eq, e1]
          simp only [Option.bind_some]
          rw [e2]
          exact e3
        | cont =>
          obtain ⟨n', s', e, l, i'⟩ := q
          subst e
          obtain ⟨fr', fl', e3, q'⟩ := ih n' l s' i'
          refine ⟨fr', fl', ?_, q'⟩
          rw [evS] at e3 ⊢
          rw [wh_eq, e1]
          simp only [Option.bind_some]
          rw [e2]
          exact e3
        | brk =>
          refine ⟨fr2, .next, ?_, q⟩
          rw [evS, wh_eq, e1]
          simp only [Option.bind_some]
          rw [e2]
          rfl
        | ret v m =>
          refine ⟨fr2, .ret v m, ?_, q⟩
          rw [evS, wh_eq, e1]
          simp only [Option.bind_some]
          rw [e2]
          rfl
  obtain ⟨fr', fl, e2, q⟩ := key n0 s0 i0
  cases fl with
  | next => exact sk_next e2 q
  | brk => exact ⟨fr', .brk, by rw [evK_cons, e2]; rfl, q⟩
  | cont => exact ⟨fr', .cont, by rw [evK_cons, e2]; rfl, q⟩
  | ret v m => exact ⟨fr', .ret v m, by rw [evK_cons, e2]; rfl, q⟩
/-! a def -/
/-- what is wanted at a def's end -/
def RQ (mu : List Nat) (P : PV → Nat → List PV → Prop) : Fr → Fl → Prop := fun fr fl => match fl with
  | .ret v m => ∃ outs, outsOf 0 mu fr = some outs ∧ P v m outs
  | .next => ∃ outs, outsOf 0 mu fr = some outs ∧ P .non 0 outs
  | _ => False
theorem den_sk {n : Nat} {mu : List Nat} {is : ISs} {vs : List PV} {fr0 : Fr} {P : PV → Nat → List PV → Prop} (hl : vs.length = mu.length) (hf : initFr n mu vs = fr0) (h : SK G [is] fr0 (RQ mu P)) : ∃ v m outs, denOf G n mu is vs = some (v, m, outs) ∧ P v m outs := by
  obtain ⟨fr', fl, e, q⟩ := h
  rw [evK_one] at e
  unfold denOf
  rw [if_pos hl, hf, e]
  simp only [Option.bind_some]
  cases fl with
  | ret v m =>
    obtain ⟨outs, e2, p⟩ := q
    exact ⟨v, m, outs, by rw [e2]; rfl, p⟩
  | next =>
    obtain ⟨outs, e2, p⟩ := q
    exact ⟨.non, 0, outs, by rw [e2]; rfl, p⟩
  | brk => exact q.elim
  | cont => exact q.elim
theorem den_skR {n : Nat} {mu : List Nat} {is : ISs} {vs : List PV} {fr0 : Fr} {v : PV} {m : Nat} {outs : List PV} (hl : vs.length = mu.length) (hf : initFr n mu vs = fr0) (h : SK G [is] fr0 (RQ mu fun a b c => a = v ∧ b = m ∧ c = outs)) : DenR (denOf G n mu is) vs v m outs := by
  obtain ⟨a, b, c, e, rfl, rfl, rfl⟩ := den_sk hl hf h
  exact ⟨e⟩
end
end VI
namespace VI
open PySem PySem.Spec PyProof.Rows L2

/-! ### the walk as steps -/
theorem nat_mul_lt {x y : Int} {k l : Nat} (h1 : x.natAbs < 2 ^ k) (h2 : y.natAbs < 2 ^ l) : (x * y).natAbs < 2 ^ (k + l) := by
  rw [Int.natAbs_mul, Nat.pow_add]
  exact Nat.mul_lt_mul'' h1 h2
theorem nat_add_lt {x y : Int} {k l : Nat} (h1 : x.natAbs < 2 ^ k) (h2 : y.natAbs < 2 ^ l) : (x + y).natAbs < 2 ^ (k + l + 1) := by
  haveI : Sm x k := ⟨h1⟩
  haveI : Sm y l := ⟨h2⟩
  exact (inferInstance : Sm (x + y) (k + l + 1)).h
theorem nat_sub_lt {x y : Int} {k l : Nat} (h1 : x.natAbs < 2 ^ k) (h2 : y.natAbs < 2 ^ l) : (x - y).natAbs < 2 ^ (k + l + 1) := by
  haveI : Sm x k := ⟨h1⟩
  haveI : Sm y l := ⟨h2⟩
  exact (inferInstance : Sm (x - y) (k + l + 1)).h
theorem bd64 {x : Int} (h : -18446744073709551616 < x ∧ x < 18446744073709551616) : x.natAbs < 2 ^ 64 := by
  show x.natAbs < 18446744073709551616
  omega
theorem mulC_b {x y : Int} {k l : Nat} (h1 : x.natAbs < 2 ^ k) (h2 : y.natAbs < 2 ^ l) (h : k + l < 1000000) : MulC x y := mulC k l h1 h2 h
theorem log_lt {x : Int} (h : -18446744073709551616 < x ∧ x < 18446744073709551616) : x.natAbs.log2 < 1920 := by
  by_cases z : x.natAbs = 0
  · rw [z]; decide
  · exact Nat.lt_trans ((Nat.log2_lt z).mpr (bd64 h)) (by decide)
theorem rq_ret {mu : List Nat} {P : PV → Nat → List PV → Prop} {fr : Fr} {v : PV} {m : Nat} {outs : List PV} (ho : outsOf 0 mu fr = some outs) (h : P v m outs) : RQ mu P fr (.ret v m) := ⟨outs, ho, h⟩
theorem rq_next {mu : List Nat} {P : PV → Nat → List PV → Prop} {fr : Fr} {outs : List PV} (ho : outsOf 0 mu fr = some outs) (h : P .non 0 outs) : RQ mu P fr .next := ⟨outs, ho, h⟩
/-- a slot of no weight -/
abbrev FS := {o : Option Sl // Fre o}
instance fs_fre {o : FS} : Fre o.1 := o.2
abbrev fs0 : FS := ⟨none, inferInstance⟩
abbrev sl (v : PV) : Option Sl := some ⟨0, false, v⟩
abbrev sl1 (v : PV) : Option Sl := some ⟨1, false, v⟩
abbrev slp (v : PV) : Option Sl := some ⟨1, true, v⟩
abbrev T2 (a b : Int) : PV := .tup [.int a, .int b]
abbrev li (l : List Int) : PV := .lst (l.map PV.int)
end VI
local macro_rules | `(tactic| walk_at "vbd") => `(tactic| first
  | (refine VI.bd64 ?_; omega)
  | (apply VI.nat_mul_lt; (· walk_at "vbd"); (· walk_at "vbd"))
  | (apply VI.nat_add_lt; (· walk_at "vbd"); (· walk_at "vbd"))
  | (apply VI.nat_sub_lt; (· walk_at "vbd"); (· walk_at "vbd")))
local macro_rules | `(tactic| walk_at "vmul") => `(tactic| (apply VI.mulC_b; (· walk_at "vbd"); (· walk_at "vbd"); (· decide)))
/-- side conditions -/
local macro_rules | `(tactic| walk_at "vside1") => `(tactic| first
  | exact True.intro
  | omega
  | assumption
  | walk_at "vmul"
  | (refine VI.log_lt ?_; omega)
  | (with_reducible exact rfl)
  | (simp only [List.length_cons, List.length_nil, List.length_append, List.length_map, List.length_dropLast, List.length_take, List.length_drop, List.length_reverse, List.length_replicate, List.length_set]; omega)
  | (intro hk; (try simp only [Bool.not_not, decide_eq_true_eq, Bool.and_eq_true, Bool.or_eq_true, Bool.not_eq_true', decide_eq_false_iff_not] at hk); walk_at "vside"))
local macro_rules | `(tactic| walk_at "vside") => `(tactic| first
  | exact True.intro
  | ((repeat' (with_reducible apply And.intro)) <;> walk_at "vside1"))
local macro_rules | `(tactic| walk_at "vstep") => `(tactic| first
  | refine VI.sk_nil ?_
  | refine VI.sk_end ?_
  | (refine VI.sk_asg ?c ?h; (case c => walk_at "vside"))
  | (refine VI.sk_iteB ?c ?h; (case c => walk_at "vside"); try (refine And.intro (fun hc => ?_) (fun hc => ?_) <;> try (first | (exfalso; omega) | exact absurd rfl hc | exact absurd hc (by decide) | contradiction)))
  | (refine VI.sk_asgT ?c ?h; (case c => walk_at "vside"))
  | refine VI.sk_retV0 ?_
  | refine VI.sk_retV1 ?_
  | (refine VI.sk_ret ?c ?h; (case c => walk_at "vside"))
  | refine VI.sk_retN ?_
  | refine VI.sk_brk ?_
  | refine VI.sk_cont ?_
  | (refine VI.sk_app ?c ?n ?h; (case c => walk_at "vside"); (case n => walk_at "vside"))
  | (refine VI.sk_app2 ?c ?n ?h; (case c => walk_at "vside"); (case n => walk_at "vside"))
  | (refine VI.sk_aug ?c ?h; (case c => walk_at "vside"))
  | (refine VI.sk_augS ?c ?h; (case c => walk_at "vside"))
  | (refine VI.sk_ex ?c ?h; (case c => walk_at "vside"))
  | (refine VI.sk_seti ?c ?c2 ?c3 ?h; (case c => walk_at "vside"); (case c2 => walk_at "vside"); (case c3 => walk_at "vside"))
  | (refine VI.sk_setij ?c ?c2 ?c3 ?c4 ?h; (case c => walk_at "vside"); (case c2 => walk_at "vside"); (case c3 => walk_at "vside"); (case c4 => walk_at "vside"))
  | (refine VI.sk_augi ?c ?c2 ?c3 ?c4 ?h; (case c => walk_at "vside"); (case c2 => walk_at "vside"); (case c3 => walk_at "vside"); (case c4 => walk_at "vside"))
  | (refine VI.sk_augiS ?c ?c2 ?c3 ?c4 ?h; (case c => walk_at "vside"); (case c2 => walk_at "vside"); (case c3 => walk_at "vside"); (case c4 => walk_at "vside"))
  | refine VI.sk_pass ?_
  | refine VI.rq_ret rfl ?_
  | refine VI.rq_next rfl ?_)
/-- as far as it goes; ways that cannot be are left out -/
local macro_rules | `(tactic| walk_at "vsteps") => `(tactic| repeat' (first | walk_at "vstep" | (exfalso; omega)))
local macro_rules | `(tactic| walk_at "vfor") => `(tactic| (refine VI.sk_for ?c ?dj ?h; (case c => walk_at "vside"); (case dj => rfl)))
local macro_rules | `(tactic| walk_at "vtest") => `(tactic| (refine VI.sc_ofB ?c ?h; (case c => walk_at "vside"); try (refine And.intro (fun hc => ?_) (fun hc => ?_) <;> try (first | (exfalso; omega) | exact absurd rfl hc | exact absurd hc (by decide) | contradiction))))
local macro_rules | `(tactic| walk_at "vopen") => `(tactic| first
  | refine VI.sk_asg ?c ?h
  | refine VI.sk_iteB ?c ?h
  | refine VI.sk_asgT ?c ?h
  | refine VI.sk_ret ?c ?h
  | refine VI.sk_app ?c ?n ?h
  | refine VI.sk_aug ?c ?h
  | refine VI.sk_augS ?c ?h
  | refine VI.sk_ex ?c ?h
  | refine VI.sk_seti ?c ?c2 ?c3 ?h
  | refine VI.sk_augi ?c ?c2 ?c3 ?c4 ?h
  | refine VI.sk_for ?c ?dj ?h)
namespace VI
open PySem PySem.Spec PyProof.Rows L2
instance : PKd .gcd .flat := ⟨rfl⟩
instance : PKd .str1 .flat := ⟨rfl⟩
instance : PKd .max1 .flat := ⟨rfl⟩
instance : PKd .min1 .flat := ⟨rfl⟩
instance : PKd .sorted .flat := ⟨rfl⟩
instance pmd_sorted {x : List PV} : PMd .sorted (.lst x) 1 := ⟨rfl⟩
instance pfc_gcd {x y : Int} : PFc .gcd [.int x, .int y] True (.int ((Int.gcd x y : Nat) : Int)) := ⟨fun _ => rfl⟩
instance pmd_idx {v : PV} : PMd .idx v 0 := ⟨rfl⟩
/-- a number as a text -/
abbrev strI (x : Int) : Str := Str.ofString (toString x)
instance pfc_str1 {x : Int} : PFc .str1 [.int x] (x.natAbs.log2 < 1920) (.str (strI x)) := ⟨fun h => by
  show (if x.natAbs.log2 < 1920 then some (PV.str (Str.ofString (toString x))) else none) = _
  rw [if_pos h]⟩
theorem asInts_map (l : List Int) : asInts (l.map PV.int) = some l := by
  induction l with
  | nil => rfl
  | cons a l ih => rw [List.map_cons]; unfold asInts; rw [ih]; rfl
/-- a list of whole numbers, however written -/
class Ints (vs : List PV) (l : outParam (List Int)) : Prop where
  h : vs = l.map PV.int
instance ints_m {l : List Int} : Ints (l.map PV.int) l := ⟨rfl⟩
instance ints_n : Ints [] [] := ⟨rfl⟩
instance ints_c {x : Int} {vs : List PV} {l : List Int} [g : AsI vs l] : Ints (.int x :: vs) (x :: l) := ⟨by rw [List.map_cons, g.h]⟩
instance pfc_max1 {vs : List PV} {l : List Int} [g : Ints vs l] : PFc .max1 [.lst vs] (0 < l.length) (.int (maxL l)) := ⟨fun h => by
  show pvMax1 (.lst vs) = _
  rw [g.h]
  unfold pvMax1
  simp only
  rw [asInts_map]
  cases l with
  | nil => exact absurd h (by simp)
  | cons a l => rfl⟩
instance pfc_min1 {vs : List PV} {l : List Int} [g : Ints vs l] : PFc .min1 [.lst vs] (0 < l.length) (.int (minL l)) := ⟨fun h => by
  show pvMin1 (.lst vs) = _
  rw [g.h]
  unfold pvMin1
  simp only
  rw [asInts_map]
  cases l with
  | nil => exact absurd h (by simp)
  | cons a l => rfl⟩
instance : PKd .range1 .flat := ⟨rfl⟩
instance : PKd .range2 .flat := ⟨rfl⟩
instance pmd_range1 {x : List PV} : PMd .range1 (.lst x) 1 := ⟨rfl⟩
instance pmd_range2 {x : List PV} : PMd .range2 (.lst x) 1 := ⟨rfl⟩
instance pfc_range1 {j : Int} : PFc .range1 [.int j] (0 ≤ j ∧ j ≤ 16777216) (.lst ((rgI 0 j.toNat).map PV.int)) := ⟨fun h => by
  show (if 0 ≤ j ∧ j ≤ 16777216 then some (PV.lst (rangeP 0 j.toNat)) else none) = _
  rw [if_pos h, rangeP_I]⟩
instance pfc_range2 {i j : Int} : PFc .range2 [.int i, .int j] ((0 ≤ i ∧ i ≤ 16777216) ∧ (0 ≤ j ∧ j ≤ 16777216)) (.lst ((rgI i (j - i).toNat).map PV.int)) := ⟨fun h => by
  obtain ⟨⟨h1, h2⟩, h3, h4⟩ := h
  have h1 : (0 : Int) ≤ i := h1
  have h2 : i ≤ 16777216 := h2
  have h3 : (0 : Int) ≤ j := h3
  have h4 : j ≤ 16777216 := h4
  show (if -(2 ^ 62) ≤ i ∧ i < 2 ^ 62 ∧ -(2 ^ 62) ≤ j ∧ j < 2 ^ 62 ∧ (j - i).toNat ≤ 16777216 then some (PV.lst (rangeP i (j - i).toNat)) else none) = _
  rw [if_pos ⟨by omega, by omega, by omega, by omega, by omega⟩, rangeP_I]⟩
theorem rgI_length (a : Int) (n : Nat) : (rgI a n).length = n := by unfold rgI; rw [List.length_map, List.length_range]
theorem rgI_mem {a x : Int} {n : Nat} (h : x ∈ rgI a n) : a ≤ x ∧ x < a + n := by
  unfold rgI at h
  obtain ⟨k, hk, rfl⟩ := List.mem_map.mp h
  have := List.mem_range.mp hk
  omega
instance pfc_sorted {vs : List PV} {l : List Int} [g : Ints vs l] : PFc .sorted [.lst vs] True (.lst ((srtI l).map PV.int)) := ⟨fun h => by
  show pvSorted (.lst vs) = _
  unfold pvSorted
  simp only
  rw [g.h, asInts_map]⟩
end VI
namespace VI
open PySem PySem.Spec PyProof.Rows L2
section
variable {G : GE}
/-! ### comprehensions -/
/-- one turn of a comprehension: what it gives -/
structure LT (G : GE) (own : List Nat) (pt : Pat) (ts : IEs) (e : IE) (k : Nat) (als : List Nat) (fr0 : Fr) (v : PV) (r : Option PV) : Prop where
  h : ∃ fr5, lcTurn G own pt ts e k als v fr0 = some (fr5, r) ∧ wipeF fr5 own = fr0
theorem lt_of {own : List Nat} {pt : Pat} {e : IE} {k : Nat} {als : List Nat} {fr0 fr3 fr5 : Fr} {v w : PV} {m : Nat} {al : List Nat} {t : Bool} {C : Prop} [p : WPat pt v fr0 fr3] [g : WEc G e fr3 C fr5 ⟨w, m, al, t⟩] (c : C) (ok : elOk k als ⟨w, m, al, t⟩ = true) (w0 : wipeF fr0 own = fr0) (w5 : wipeF fr5 own = fr0) : LT G own pt .nil e k als fr0 v (some w) :=
  ⟨fr5, lc_turn (o := ⟨w, m, al, t⟩) w0 p ⟨g.h c⟩ ok rfl, w5⟩
/-- with a test -/
theorem lt_if {own : List Nat} {pt : Pat} {ct e : IE} {k : Nat} {als : List Nat} {fr0 fr3 fr4 fr5 : Fr} {v w : PV} {b : Bool} {m m2 : Nat} {al al2 : List Nat} {t t2 : Bool} {C C2 : Prop} [p : WPat pt v fr0 fr3] [gt : WEc G ct fr3 C fr4 ⟨.bl b, m2, al2, t2⟩] [g : WEc G e fr4 C2 fr5 ⟨w, m, al, t⟩] (c : C) (c2 : b = true → C2) (ok : elOk k als ⟨w, m, al, t⟩ = true) (w0 : wipeF fr0 own = fr0) (w4 : wipeF fr4 own = fr0) (w5 : wipeF fr5 own = fr0) :
    LT G own pt (.cons ct .nil) e k als fr0 v (if b = true then some w else none) := by
  have := lc_turnT (o := ⟨w, m, al, t⟩) w0 p ⟨gt.h c⟩ (fun z => g.h (c2 z)) ok
  cases b with
  | true => exact ⟨fr5, this, w5⟩
  | false => exact ⟨fr4, this, w4⟩
theorem lc_fm {own : List Nat} {pt : Pat} {it : IT} {ts : IEs} {e : IE} {k : Nat} {als : List Nat} {fr fr1 fr0 : Fr} {vs : List PV} {src : List Nat} {C : Prop} (f : PV → Option PV) [w : WIc G it fr C fr1 vs src []] (c : C) (h0 : wipeF fr1 own = fr0) (d1 : disj src (mutdL ts ++ mutd e) = true) (d2 : disj als (mutdL ts ++ mutd e) = true) (hz : vs.length ≤ 16777216)
    (h : ∀ v ∈ vs, LT G own pt ts e k als fr0 v (f v)) : WV G (.lc own pt it ts e k als) fr fr1 ⟨.lst (vs.filterMap f), k, als, false⟩ :=
  ⟨lc_of ⟨w.h c⟩ h0 d1 d2 f hz fun v hv => (h v hv).h⟩
/-- every item gives one -/
theorem lc_map {α β : Type} {own : List Nat} {pt : Pat} {it : IT} {ts : IEs} {e : IE} {k : Nat} {als : List Nat} {fr fr1 fr0 : Fr} {g : α → PV} {l : List α} {src : List Nat} {C : Prop} (f : α → β) (g' : β → PV) [w : WIc G it fr C fr1 (l.map g) src []] (c : C) (h0 : wipeF fr1 own = fr0) (d1 : disj src (mutdL ts ++ mutd e) = true) (d2 : disj als (mutdL ts ++ mutd e) = true) (hz : l.length ≤ 16777216)
    (h : ∀ x ∈ l, LT G own pt ts e k als fr0 (g x) (some (g' (f x)))) : WV G (.lc own pt it ts e k als) fr fr1 ⟨.lst ((l.map f).map g'), k, als, false⟩ := by
  have tw : ∀ v fr2, wipeF fr2 own = wipeF fr1 own → lcTurn G own pt ts e k als v fr2 = lcTurn G own pt ts e k als v (wipeF fr1 own) := fun v fr2 e => by
    unfold lcTurn
    rw [e, wipe_wipe]
  subst h0
  refine ⟨?_⟩
  rw [evE_lc, w.h c]
  simp only [Option.bind_some]
  rw [if_pos (by rw [d1, d2]; rfl)]
  have key : ∀ (l : List α) (fr2 : Fr) (acc : List PV), (∀ x ∈ l, LT G own pt ts e k als (wipeF fr1 own) (g x) (some (g' (f x)))) → wipeF fr2 own = wipeF fr1 own → acc.length + l.length ≤ sizeLine →
      ∃ fr6, lcGo (lcTurn G own pt ts e k als) (l.map g) fr2 acc = some (fr6, acc ++ (l.map f).map g') ∧ wipeF fr6 own = wipeF fr1 own := by
    intro l
    induction l with
    | nil => intro fr2 acc _ hw _; exact ⟨fr2, by rw [List.map_nil, List.map_nil, List.map_nil, List.append_nil]; rfl, hw⟩
    | cons v vs ih =>
      intro fr2 acc h hw hl
      rw [List.length_cons] at hl
      obtain ⟨fr5, h1, h2⟩ := (h v List.mem_cons_self).h
      rw [List.map_cons, lcGo_cons, tw _ fr2 hw, h1]
      simp only [Option.bind_some]
      rw [if_pos (by omega)]
      obtain ⟨fr6, h3, h4⟩ := ih fr5 (acc ++ [g' (f v)]) (fun u hu => h u (List.mem_cons_of_mem _ hu)) h2 (by rw [List.length_append, List.length_singleton]; omega)
      refine ⟨fr6, ?_, h4⟩
      rw [h3, List.map_cons, List.map_cons, List.append_assoc]
      rfl
  obtain ⟨fr6, h1, h2⟩ := key l fr1 [] h rfl (by rw [List.length_nil]; exact Nat.le_trans (by omega) hz)
  rw [h1]
  simp only [Option.bind_some, List.nil_append]
  rw [back_self h2]
/-- over plain values -/
theorem lc_mapP {β : Type} {own : List Nat} {pt : Pat} {it : IT} {ts : IEs} {e : IE} {k : Nat} {als : List Nat} {fr fr1 fr0 : Fr} {vs : List PV} {src : List Nat} {C : Prop} (f : PV → β) (g' : β → PV) [w : WIc G it fr C fr1 vs src []] (c : C) (h0 : wipeF fr1 own = fr0) (d1 : disj src (mutdL ts ++ mutd e) = true) (d2 : disj als (mutdL ts ++ mutd e) = true) (hz : vs.length ≤ 16777216)
    (h : ∀ x ∈ vs, LT G own pt ts e k als fr0 x (some (g' (f x)))) : WV G (.lc own pt it ts e k als) fr fr1 ⟨.lst ((vs.map f).map g'), k, als, false⟩ := by
  haveI : WIc G it fr C fr1 (vs.map id) src [] := ⟨fun z => by rw [List.map_id]; exact w.h z⟩
  exact lc_map (g := id) f g' c h0 d1 d2 hz h
/-- over a range -/
theorem lc_mapR {β : Type} {own : List Nat} {pt : Pat} {it : IT} {ts : IEs} {e : IE} {k : Nat} {als : List Nat} {fr fr1 fr0 : Fr} {lo : Int} {n : Nat} {src : List Nat} {C : Prop} (f : Nat → β) (g' : β → PV) [w : WIc G it fr C fr1 (rangeP lo n) src []] (c : C) (h0 : wipeF fr1 own = fr0) (d1 : disj src (mutdL ts ++ mutd e) = true) (d2 : disj als (mutdL ts ++ mutd e) = true) (hz : n ≤ 16777216)
    (h : ∀ x : Nat, x < n → LT G own pt ts e k als fr0 (.int (lo + x)) (some (g' (f x)))) : WV G (.lc own pt it ts e k als) fr fr1 ⟨.lst (((List.range n).map f).map g'), k, als, false⟩ := by
  haveI : WIc G it fr C fr1 ((List.range n).map fun x : Nat => PV.int (lo + x)) src [] := ⟨fun z => w.h z⟩
  exact lc_map (g := fun x : Nat => PV.int (lo + x)) f g' c h0 d1 d2 (by rw [List.length_range]; exact hz) fun x hx => h x (List.mem_range.mp hx)
/-- a comprehension whose turns change the frame: an invariant over what is made so far -/
theorem lc_inv {own : List Nat} {pt : Pat} {it : IT} {ts : IEs} {e : IE} {k : Nat} {als : List Nat} {fr fr1 : Fr} {vs : List PV} {src : List Nat} {C : Prop} [w : WIc G it fr C fr1 vs src []] (c : C) (d1 : disj src (mutdL ts ++ mutd e) = true) (d2 : disj als (mutdL ts ++ mutd e) = true) (hz : vs.length ≤ 16777216)
    {S : Type} (st : S → Fr) (I : Nat → S → List PV → Prop) (s0 : S) (h0 : fr1 = st s0) (i0 : I 0 s0 [])
    (h : ∀ (n : Nat) v s acc, vs[n]? = some v → I n s acc → ∃ fr5 r s', lcTurn G own pt ts e k als v (st s) = some (fr5, r) ∧ wipeF fr5 own = st s' ∧ wipeF (st s') own = st s' ∧ I (n + 1) s' (acc ++ r.toList)) (hb : backF fr1 = fun f o => backF fr1 f o) :
    ∃ s acc, (∃ fr6, wipeF fr6 own = wipeF (st s) own ∧ evE G (.lc own pt it ts e k als) fr = some (backF fr1 fr6 own, ⟨.lst acc, k, als, false⟩)) ∧ I vs.length s acc ∧ acc.length ≤ vs.length := by
  have tw : ∀ v fr2 fr3, wipeF fr2 own = wipeF fr3 own → lcTurn G own pt ts e k als v fr2 = lcTurn G own pt ts e k als v fr3 := fun v fr2 fr3 e => by
    unfold lcTurn
    rw [e]
  have key : ∀ (m n : Nat) (s : S) (fr2 : Fr) (acc : List PV), vs.length - n = m → n ≤ vs.length → wipeF fr2 own = wipeF (st s) own → I n s acc → acc.length ≤ n → ∃ s' fr6 acc', lcGo (lcTurn G own pt ts e k als) (vs.drop n) fr2 acc = some (fr6, acc') ∧ wipeF fr6 own = wipeF (st s') own ∧ I vs.length s' acc' ∧ acc'.length ≤ vs.length := by
    intro m
    induction m with
    | zero =>
      intro n s fr2 acc hm hn hw i ha
      have : n = vs.length := by omega
      subst this
      rw [List.drop_eq_nil_of_le (Nat.le_refl _)]
      exact ⟨s, fr2, acc, rfl, hw, i, ha⟩
    | succ m ih =>
      intro n s fr2 acc hm hn hw i ha
      have hn : n < vs.length := by omega
      rw [List.drop_eq_getElem_cons hn, lcGo_cons, tw _ fr2 (st s) hw]
      obtain ⟨fr5, r, s', h1, h2, h3, h4⟩ := h n vs[n] s acc (List.getElem?_eq_getElem hn) i
      rw [h1]
      simp only [Option.bind_some]
      have hw5 : wipeF fr5 own = wipeF (st s') own := by rw [h3]; exact h2
      cases r with
      | none =>
        obtain ⟨s2, fr6, acc', a, b, c, d⟩ := ih (n + 1) s' fr5 acc (by omega) (by omega) hw5 (by simpa using h4) (by omega)
        exact ⟨s2, fr6, acc', a, b, c, d⟩
      | some x =>
        have hsz : acc.length < sizeLine := Nat.lt_of_lt_of_le (Nat.lt_of_le_of_lt ha hn) hz
        simp only
        rw [if_pos hsz]
        exact ih (n + 1) s' fr5 (acc ++ [x]) (by omega) (by omega) hw5 h4 (by rw [List.length_append, List.length_singleton]; omega)
  obtain ⟨s, fr6, acc, a, b, c', d⟩ := key vs.length 0 s0 fr1 [] rfl (Nat.zero_le _) (by rw [h0]) i0 (Nat.le_refl _)
  refine ⟨s, acc, ⟨fr6, b, ?_⟩, c', d⟩
  rw [evE_lc, w.h c]
  simp only [Option.bind_some]
  rw [if_pos (by rw [d1, d2]; rfl)]
  rw [List.drop_zero] at a
  rw [a]
  rfl
/-- one turn of a comprehension that may change the frame -/
structure LTs (G : GE) (own : List Nat) (pt : Pat) (ts : IEs) (e : IE) (k : Nat) (als : List Nat) (fr0 : Fr) (v : PV) (r : Option PV) (fr1 : Fr) : Prop where
  h : ∃ fr5, lcTurn G own pt ts e k als v fr0 = some (fr5, r) ∧ wipeF fr5 own = fr1
theorem lts_of {own : List Nat} {pt : Pat} {e : IE} {k : Nat} {als : List Nat} {fr0 fr1 fr3 fr5 : Fr} {v w : PV} {m : Nat} {al : List Nat} {t : Bool} {C : Prop} [p : WPat pt v fr0 fr3] [g : WEc G e fr3 C fr5 ⟨w, m, al, t⟩] (c : C) (ok : elOk k als ⟨w, m, al, t⟩ = true) (w0 : wipeF fr0 own = fr0) (w5 : wipeF fr5 own = fr1) : LTs G own pt .nil e k als fr0 v (some w) fr1 :=
  ⟨fr5, lc_turn (o := ⟨w, m, al, t⟩) w0 p ⟨g.h c⟩ ok rfl, w5⟩
theorem lts_if {own : List Nat} {pt : Pat} {ct e : IE} {k : Nat} {als : List Nat} {fr0 fr1 fr3 fr4 fr5 : Fr} {v w : PV} {b : Bool} {m m2 : Nat} {al al2 : List Nat} {t t2 : Bool} {C C2 : Prop} [p : WPat pt v fr0 fr3] [gt : WEc G ct fr3 C fr4 ⟨.bl b, m2, al2, t2⟩] [g : WEc G e fr4 C2 fr5 ⟨w, m, al, t⟩] (c : C) (c2 : b = true → C2) (ok : elOk k als ⟨w, m, al, t⟩ = true) (w0 : wipeF fr0 own = fr0) (w4 : wipeF fr4 own = fr1) (w5 : wipeF fr5 own = fr1) :
    LTs G own pt (.cons ct .nil) e k als fr0 v (if b = true then some w else none) fr1 := by
  have := lc_turnT (o := ⟨w, m, al, t⟩) w0 p ⟨gt.h c⟩ (fun z => g.h (c2 z)) ok
  cases b with
  | true => exact ⟨fr5, this, w5⟩
  | false => exact ⟨fr4, this, w4⟩
theorem back_wipe {fr1 fr6 : Fr} : ∀ {own : List Nat}, (∀ i ∈ own, (fr1[i]?).join = none) → backF fr1 fr6 own = wipeF fr6 own
  | [], _ => rfl
  | i :: is, h => by rw [backF, wipeF, back_wipe fun j hj => h j (List.mem_cons_of_mem _ hj), h i List.mem_cons_self]
/-- a comprehension whose turns change the frame: an invariant over what is made so far -/
theorem lc_st {own : List Nat} {pt : Pat} {it : IT} {ts : IEs} {e : IE} {k : Nat} {als : List Nat} {fr fr1 : Fr} {vs : List PV} {src : List Nat} {C : Prop} [w : WIc G it fr C fr1 vs src []] (c : C) (d1 : disj src (mutdL ts ++ mutd e) = true) (d2 : disj als (mutdL ts ++ mutd e) = true) (hz : vs.length ≤ 16777216)
    {S : Type} (st : S → Fr) (I : Nat → S → List PV → Prop) (s0 : S) (h0 : fr1 = st s0) (i0 : I 0 s0 []) (no : ∀ i ∈ own, (fr1[i]?).join = none)
    (h : ∀ (n : Nat) v s acc, vs[n]? = some v → I n s acc → ∃ r s', LTs G own pt ts e k als (st s) v r (st s') ∧ wipeF (st s') own = st s' ∧ I (n + 1) s' (acc ++ r.toList)) (w0 : wipeF (st s0) own = st s0) :
    ∃ s acc, WV G (.lc own pt it ts e k als) fr (st s) ⟨.lst acc, k, als, false⟩ ∧ I vs.length s acc ∧ acc.length ≤ vs.length := by
  have tw : ∀ v fr2 fr3, wipeF fr2 own = wipeF fr3 own → lcTurn G own pt ts e k als v fr2 = lcTurn G own pt ts e k als v fr3 := fun v fr2 fr3 e => by
    unfold lcTurn
    rw [e]
  have key : ∀ (m n : Nat) (s : S) (fr2 : Fr) (acc : List PV), vs.length - n = m → n ≤ vs.length → wipeF fr2 own = st s → wipeF (st s) own = st s → I n s acc → acc.length ≤ n → ∃ s' fr6 acc', lcGo (lcTurn G own pt ts e k als) (vs.drop n) fr2 acc = some (fr6, acc') ∧ wipeF fr6 own = st s' ∧ I vs.length s' acc' ∧ acc'.length ≤ vs.length := by
    intro m
    induction m with
    | zero =>
      intro n s fr2 acc hm hn hw _ i ha
      have : n = vs.length := by omega
      subst this
      refine ⟨s, fr2, acc, ?_, hw, i, ha⟩
      rw [List.drop_length]
      rfl
    | succ m ih =>
      intro n s fr2 acc hm hn hw hs i ha
      have hn' : n < vs.length := by omega
      obtain ⟨r, s', ⟨fr5, h2, h3⟩, h5, h4⟩ := h n vs[n] s acc (List.getElem?_eq_getElem hn') i
      rw [List.drop_eq_getElem_cons hn', lcGo_cons, tw _ fr2 (st s) (by rw [hw, hs]), h2]
      simp only [Option.bind_some]
      cases r with
      | none =>
        obtain ⟨s2, fr6, acc', a, b, c, d⟩ := ih (n + 1) s' fr5 acc (by omega) (by omega) h3 h5 (by simpa using h4) (by omega)
        exact ⟨s2, fr6, acc', a, b, c, d⟩
      | some x =>
        have hsz : acc.length < sizeLine := Nat.lt_of_lt_of_le (Nat.lt_of_le_of_lt ha hn') hz
        simp only
        rw [if_pos hsz]
        exact ih (n + 1) s' fr5 (acc ++ [x]) (by omega) (by omega) h3 h5 h4 (by rw [List.length_append, List.length_singleton]; omega)
  obtain ⟨s, fr6, acc, a, b, c', d⟩ := key vs.length 0 s0 fr1 [] rfl (Nat.zero_le _) (by rw [h0, w0]) w0 i0 (Nat.le_refl _)
  refine ⟨s, acc, ⟨?_⟩, c', d⟩
  rw [evE_lc, w.h c]
  simp only [Option.bind_some]
  rw [if_pos (by rw [d1, d2]; rfl)]
  rw [List.drop_zero] at a
  rw [a]
  simp only [Option.bind_some]
  rw [back_wipe no, b]
end
end VI
namespace VI
open PySem PySem.Spec PyProof.Rows L2
/-! ### strings that may be compared, steps -/
instance pfc_tupl {vs : List PV} : PFc .tuple [.lst vs] True (.tup vs) := ⟨fun _ => rfl⟩
abbrev OS := {x : PySem.Str // StrOk x}
instance os_ok {x : OS} : StrOk x.1 := x.2
abbrev sv (x : OS) : PV := .str x.1
instance eqg_sv : EqG sv := ⟨fun x y => by
  show pvEq (.str x.1) (.str y.1) = _
  rw [eqg_s.h]
  by_cases e : x = y
  · subst e; simp
  · rw [decide_eq_false e, decide_eq_false fun z => e (Subtype.ext z)]⟩
instance okg_sv : OkG sv 0 := ⟨fun x => by unfold okD; exact x.2.h⟩
instance inv_sv {x : OS} {l : List OS} : InV (.str x.1) (l.map sv) (decide (x ∈ l)) := ⟨by
  induction l with
  | nil => rfl
  | cons a l ih =>
    rw [List.map_cons, List.any_cons, ih, eqg_sv.h a x]
    by_cases h : a = x
    · simp [h]
    · have h2 : ¬ x = a := fun e => h e.symm
      simp [h, h2]⟩
theorem plain_sv (l : List OS) : (l.map sv).all plainB = true := by
  rw [List.all_map, List.all_eq_true]
  intro x _
  show plainB (.str x.1) = true
  unfold plainB
  first | rfl | exact x.2.h
instance (priority := 2000) pfc_inTs {x : OS} {l : List OS} : PFc .isIn [.str x.1, .tup (l.map sv)] True (.bl (decide (x ∈ l))) := ⟨fun _ => by
  show (if plainB (.str x.1) && (l.map sv).all plainB then some ((l.map sv).any fun z => pvEq z (.str x.1)) else none).map PV.bl = _
  rw [plain_sv, inv_sv.h, if_pos (by
    rw [Bool.and_true]
    unfold plainB
    first | rfl | exact x.2.h)]
  rfl⟩
section
variable {G : GE}
/-! ### comprehensions that leave things out -/
theorem lc_fmG {α β : Type} {own : List Nat} {pt : Pat} {it : IT} {ts : IEs} {e : IE} {k : Nat} {als : List Nat} {fr fr1 fr0 : Fr} {g : α → PV} {l : List α} {src : List Nat} {C : Prop} (f : α → Option β) (g' : β → PV) [w : WIc G it fr C fr1 (l.map g) src []] (c : C) (h0 : wipeF fr1 own = fr0) (d1 : disj src (mutdL ts ++ mutd e) = true) (d2 : disj als (mutdL ts ++ mutd e) = true) (hz : l.length ≤ 16777216)
    (h : ∀ x ∈ l, LT G own pt ts e k als fr0 (g x) ((f x).map g')) : WV G (.lc own pt it ts e k als) fr fr1 ⟨.lst ((l.filterMap f).map g'), k, als, false⟩ := by
  have tw : ∀ v fr2, wipeF fr2 own = wipeF fr1 own → lcTurn G own pt ts e k als v fr2 = lcTurn G own pt ts e k als v (wipeF fr1 own) := fun v fr2 e => by
    unfold lcTurn
    rw [e, wipe_wipe]
  subst h0
  refine ⟨?_⟩
  rw [evE_lc, w.h c]
  simp only [Option.bind_some]
  rw [if_pos (by rw [d1, d2]; rfl)]
  have key : ∀ (l : List α) (fr2 : Fr) (acc : List PV), (∀ x ∈ l, LT G own pt ts e k als (wipeF fr1 own) (g x) ((f x).map g')) → wipeF fr2 own = wipeF fr1 own → acc.length + l.length ≤ sizeLine →
      ∃ fr6, lcGo (lcTurn G own pt ts e k als) (l.map g) fr2 acc = some (fr6, acc ++ (l.filterMap f).map g') ∧ wipeF fr6 own = wipeF fr1 own := by
    intro l
    induction l with
    | nil => intro fr2 acc _ hw _; exact ⟨fr2, by rw [List.map_nil, List.filterMap_nil, List.map_nil, List.append_nil]; rfl, hw⟩
    | cons v vs ih =>
      intro fr2 acc h hw hl
      rw [List.length_cons] at hl
      obtain ⟨fr5, h1, h2⟩ := (h v List.mem_cons_self).h
      rw [List.map_cons, lcGo_cons, tw _ fr2 hw, h1]
      simp only [Option.bind_some]
      cases ef : f v with
      | none =>
        obtain ⟨fr6, h3, h4⟩ := ih fr5 acc (fun u hu => h u (List.mem_cons_of_mem _ hu)) h2 (by omega)
        refine ⟨fr6, ?_, h4⟩
        rw [List.filterMap_cons_none ef]
        exact h3
      | some b =>
        simp only [Option.map_some]
        rw [if_pos (by omega)]
        obtain ⟨fr6, h3, h4⟩ := ih fr5 (acc ++ [g' b]) (fun u hu => h u (List.mem_cons_of_mem _ hu)) h2 (by rw [List.length_append, List.length_singleton]; omega)
        refine ⟨fr6, ?_, h4⟩
        rw [h3, List.filterMap_cons_some ef, List.map_cons, List.append_assoc]
        rfl
  obtain ⟨fr6, h1, h2⟩ := key l fr1 [] h rfl (by rw [List.length_nil]; exact Nat.le_trans (by omega) hz)
  rw [h1]
  simp only [Option.bind_some, List.nil_append]
  rw [back_self h2]
theorem fm_filter {α : Type} (p : α → Bool) (l : List α) : l.filterMap (fun x => if p x = true then some x else none) = l.filter p := by
  induction l with
  | nil => rfl
  | cons a l ih =>
    by_cases h : p a = true
    · rw [List.filterMap_cons_some (b := a) (by simp [h]), List.filter_cons_of_pos h, ih]
    · rw [List.filterMap_cons_none (by simp [h]), List.filter_cons_of_neg h, ih]
/-- the items of which p holds, written down by g' -/
theorem lc_filt {α : Type} {own : List Nat} {pt : Pat} {it : IT} {ts : IEs} {e : IE} {k : Nat} {als : List Nat} {fr fr1 fr0 : Fr} {g : α → PV} {l : List α} {src : List Nat} {C : Prop} (p : α → Bool) (g' : α → PV) [w : WIc G it fr C fr1 (l.map g) src []] (c : C) (h0 : wipeF fr1 own = fr0) (d1 : disj src (mutdL ts ++ mutd e) = true) (d2 : disj als (mutdL ts ++ mutd e) = true) (hz : l.length ≤ 16777216)
    (h : ∀ x ∈ l, LT G own pt ts e k als fr0 (g x) (if p x = true then some (g' x) else none)) : WV G (.lc own pt it ts e k als) fr fr1 ⟨.lst ((l.filter p).map g'), k, als, false⟩ := by
  rw [← fm_filter]
  exact lc_fmG (fun x => if p x = true then some x else none) g' c h0 d1 d2 hz fun x hx => by
    have := h x hx
    by_cases q : p x = true
    · rw [if_pos q] at this ⊢; exact this
    · rw [if_neg q] at this ⊢; exact this
/-- over a range from 0 -/
theorem lc_filtR {own : List Nat} {pt : Pat} {it : IT} {ts : IEs} {e : IE} {k : Nat} {als : List Nat} {fr fr1 fr0 : Fr} {n : Nat} {src : List Nat} {C : Prop} (p : Nat → Bool) [w : WIc G it fr C fr1 (rangeP 0 n) src []] (c : C) (h0 : wipeF fr1 own = fr0) (d1 : disj src (mutdL ts ++ mutd e) = true) (d2 : disj als (mutdL ts ++ mutd e) = true) (hz : n ≤ 16777216)
    (h : ∀ x : Nat, x < n → LT G own pt ts e k als fr0 (.int (x : Int)) (if p x = true then some (.int (x : Int)) else none)) : WV G (.lc own pt it ts e k als) fr fr1 ⟨.lst (((List.range n).filter p).map fun x : Nat => PV.int (x : Int)), k, als, false⟩ := by
  haveI : WIc G it fr C fr1 ((List.range n).map fun x : Nat => PV.int (x : Int)) src [] := ⟨fun z => by
    have := w.h z
    unfold rangeP at this
    simpa using this⟩
  exact lc_filt (g := fun x : Nat => PV.int (x : Int)) p _ c h0 d1 d2 (by rw [List.length_range]; exact hz) fun x hx => h x (List.mem_range.mp hx)
end
/-- a step: hand, act, things -/
structure Stp where
  h : OS
  a : OS
  ts : List OS
  deriving DecidableEq
abbrev tsV (ts : List OS) : PV := .tup (ts.map sv)
abbrev stV (s : Stp) : PV := .tup [.str s.h.1, .str s.a.1, tsV s.ts]
instance eqg_st : EqG stV := ⟨fun x y => by
  obtain ⟨h, a, ts⟩ := x
  obtain ⟨h', a', ts'⟩ := y
  show pvEqs [.str h.1, .str a.1, tsV ts] [.str h'.1, .str a'.1, tsV ts'] = _
  have e1 := eqg_sv.h h h'
  have e2 := eqg_sv.h a a'
  have e3 : pvEq (tsV ts) (tsV ts') = decide (ts = ts') := by show pvEqs _ _ = _; exact pvEqs_map ts ts'
  have : pvEqs [.str h.1, .str a.1, tsV ts] [.str h'.1, .str a'.1, tsV ts'] = (decide (h = h') && (decide (a = a') && (decide (ts = ts') && true))) := by
    rw [← e1, ← e2, ← e3]; rfl
  rw [this]
  by_cases c1 : h = h' <;> by_cases c2 : a = a' <;> by_cases c3 : ts = ts' <;> simp [c1, c2, c3]⟩
instance okg_st : OkG stV 2 := ⟨fun s => by
  have h1 : OkV (stV s) 2 := inferInstance
  exact h1.h⟩
def dep (s t : Stp) : Bool := decide (s.h = t.h) || s.ts.any fun x => decide (x ∈ t.ts)
end VI
namespace VI
open PySem PySem.Spec PyProof.Rows L2
/-! ### what is changed in place, worked out -/
class NeN (i j : Nat) : Prop where
  h : (j == i) = false
instance nen_0 {j : Nat} : NeN 0 (j + 1) := ⟨by simp⟩
instance nen_s {i : Nat} : NeN (i + 1) 0 := ⟨by simp⟩
instance nen_ss {i j : Nat} [n : NeN i j] : NeN (i + 1) (j + 1) := ⟨by have := n.h; simpa using this⟩
class NinL (i : Nat) (l : List Nat) : Prop where
  h : l.contains i = false
instance nin_n {i : Nat} : NinL i [] := ⟨rfl⟩
instance nin_c {i j : Nat} {l : List Nat} [n : NeN i j] [m : NinL i l] : NinL i (j :: l) := ⟨by
  have a := m.h
  have b := n.h
  rw [List.contains_cons, a, Bool.or_false]
  have b : ¬ j = i := by simpa using b
  simpa using fun z => b z.symm⟩
class Dn (a l : List Nat) : Prop where
  h : disj a l = true
instance dn_n {l : List Nat} : Dn [] l := ⟨rfl⟩
instance dn_c {i : Nat} {a l : List Nat} [n : NinL i l] [d : Dn a l] : Dn (i :: a) l := ⟨by
  have h1 := n.h
  have h2 := d.h
  unfold disj at h2 ⊢
  rw [List.all_cons, h1, h2]; rfl⟩
class MutA (mu : List Nat) (as : IEs) (l : outParam (List Nat)) : Prop where
  h : mutArgs mu as = l
instance mua_n {as : IEs} : MutA [] as [] := ⟨by cases as <;> rfl⟩
instance mua_e {m : Nat} {mu : List Nat} : MutA (m :: mu) .nil [] := ⟨rfl⟩
instance mua_0 {mu : List Nat} {a : IE} {as : IEs} {l : List Nat} [h : MutA mu as l] : MutA (0 :: mu) (.cons a as) l := ⟨by rw [mutArgs, if_pos rfl, h.h]; rfl⟩
instance mua_s {m i : Nat} {mu : List Nat} {as : IEs} {l : List Nat} [h : MutA mu as l] : MutA ((m + 1) :: mu) (.cons (.var i) as) (i :: l) := ⟨by rw [mutArgs, if_neg (by omega), h.h]; rfl⟩
class MutE (e : IE) (l : outParam (List Nat)) : Prop where
  h : mutd e = l
class MutL (e : IEs) (l : outParam (List Nat)) : Prop where
  h : mutdL e = l
instance mue_c {v : PV} : MutE (.cst v) [] := ⟨by rw [mutd]⟩
instance mue_v {i : Nat} : MutE (.var i) [] := ⟨by rw [mutd]⟩
instance mue_p {p : Prim} {as : IEs} {l : List Nat} [h : MutL as l] : MutE (.prim p as) l := ⟨by rw [mutd, h.h]⟩
instance mue_not {a : IE} {l : List Nat} [h : MutE a l] : MutE (.not a) l := ⟨by rw [mutd, h.h]⟩
instance mue_and {a b : IE} {l l2 l3 : List Nat} [h : MutE a l] [h2 : MutE b l2] [j : Ap l l2 l3] : MutE (.and a b) l3 := ⟨by rw [mutd, h.h, h2.h, j.h]⟩
instance mue_or {a b : IE} {l l2 l3 : List Nat} [h : MutE a l] [h2 : MutE b l2] [j : Ap l l2 l3] : MutE (.or a b) l3 := ⟨by rw [mutd, h.h, h2.h, j.h]⟩
instance mue_call {j : Nat} {mu : List Nat} {na : Bool} {as : IEs} {l l2 l3 : List Nat} [h : MutL as l] [h2 : MutA mu as l2] [a : Ap l l2 l3] : MutE (.call j mu na as) l3 := ⟨by rw [mutd, h.h, h2.h, a.h]⟩
instance mul_n : MutL .nil [] := ⟨by rw [mutdL]⟩
instance mul_c {a : IE} {as : IEs} {l l2 l3 : List Nat} [h : MutE a l] [h2 : MutL as l2] [j : Ap l l2 l3] : MutL (.cons a as) l3 := ⟨by rw [mutdL, h.h, h2.h, j.h]⟩
instance (priority := 5) dje_g {al : List Nat} {e : IE} {l : List Nat} [m : MutE e l] [d : Dn al l] : DjE al e := ⟨by rw [m.h]; exact d.h⟩
instance (priority := 5) djl_g {al : List Nat} {e : IEs} {l : List Nat} [m : MutL e l] [d : Dn al l] : DjL al e := ⟨by rw [m.h]; exact d.h⟩
end VI
namespace VI
open PySem PySem.Spec PyProof.Rows L2
/-! ### raising, and what may raise -/
abbrev exV (c : Nat) (ns : List Str) (vs : List PV) : PV := .exn c ns vs
class NEx (v : PV) : Prop where
  h : ∀ c ns vs, v ≠ .exn c ns vs
instance nex_n : NEx .non := ⟨fun _ _ _ z => nomatch z⟩
instance nex_b {b : Bool} : NEx (.bl b) := ⟨fun _ _ _ z => nomatch z⟩
instance nex_i {i : Int} : NEx (.int i) := ⟨fun _ _ _ z => nomatch z⟩
instance nex_s {s : Str} : NEx (.str s) := ⟨fun _ _ _ z => nomatch z⟩
instance nex_t {vs : List PV} : NEx (.tup vs) := ⟨fun _ _ _ z => nomatch z⟩
instance nex_l {vs : List PV} : NEx (.lst vs) := ⟨fun _ _ _ z => nomatch z⟩
theorem NEx.no {v : PV} (n : NEx v) : notExn v = true := by
  cases v <;> first | rfl | exact absurd rfl (n.h _ _ _)
instance flv_x {c : Nat} {ns : List Str} {vs : List PV} {m : Nat} : FlV (.exn c ns vs) m := ⟨by unfold flatM; rfl⟩
/-- what is plain -/
class ScV (v : PV) : Prop where
  h : scB v = true
instance scv_n : ScV .non := ⟨rfl⟩
instance scv_b {b : Bool} : ScV (.bl b) := ⟨rfl⟩
instance scv_i {i : Int} : ScV (.int i) := ⟨rfl⟩
instance scv_s {s : Str} : ScV (.str s) := ⟨rfl⟩
class ScL (vs : List PV) : Prop where
  h : vs.all scB = true
instance scl_n : ScL [] := ⟨rfl⟩
instance scl_c {v : PV} {vs : List PV} [a : ScV v] [b : ScL vs] : ScL (v :: vs) := ⟨by rw [List.all_cons, a.h, b.h]; rfl⟩
/-- turned round, item by item -/
class Rvl (vs ws : List PV) (r : outParam (List PV)) : Prop where
  h : vs.reverse ++ ws = r
instance rvl_n {ws : List PV} : Rvl [] ws ws := ⟨rfl⟩
instance rvl_c {v : PV} {vs ws r : List PV} [g : Rvl vs (v :: ws) r] : Rvl (v :: vs) ws r := ⟨by rw [← g.h]; simp⟩
section
variable {G : GE} {as : ISs} {bs : List ISs} {fr fr1 fr2 fr3 fr4 : Fr} {Q : Fr → Fl → Prop}
theorem sk_fl {a : IS} {v : PV} {m : Nat} (e : evS G a fr = some (fr1, .ret v m)) (h : Q fr1 (.ret v m)) : SK G (.cons a as :: bs) fr Q := ⟨_, _, by rw [evK_cons, e]; rfl, h⟩
theorem sk_rse {c : Nat} {ns : List Str} {es : IEs} {os : List Od} {vs ws : List PV} {n : Nat} {C : Prop} [g : WLc G es fr C fr1 os] [w : Vs os vs] [s : ScL vs] [r : Rvl vs [] ws] [l : Len vs n] (hc : C) (hn : n = ns.length) (h : Q fr1 (.ret (.exn c ns ws) 0)) : SK G (.cons (.rse c ns es) as :: bs) fr Q := by
  refine sk_fl (v := .exn c ns ws) (m := 0) ?_ h
  have hl : os.length = n := by rw [← l.h, ← w.h, List.length_map]
  have ha : (os.all fun o => scB o.v) = true := by
    have := s.h
    rw [← w.h, List.all_map] at this
    exact this
  have hr := r.h
  rw [List.append_nil] at hr
  rw [evS, g.h hc]
  simp only [Option.bind_some]
  rw [if_pos (by rw [ha, hl, hn]; simp), w.h, hr]
theorem sk_xexN {e : IE} {v : PV} {m : Nat} {al : List Nat} {t : Bool} {C : Prop} [g : WEc G e fr C fr1 ⟨v, m, al, t⟩] [n : NEx v] (c : C) (h : SK G (as :: bs) fr1 Q) : SK G (.cons (.xex e) as :: bs) fr Q :=
  sk_next (by
    rw [evS, g.h c]
    simp only [Option.bind_some]
    cases v <;> first | rfl | exact absurd rfl (n.h _ _ _)) h
theorem sk_xexX {e : IE} {c : Nat} {ns : List Str} {vs : List PV} {m : Nat} {al : List Nat} {t : Bool} {C : Prop} [g : WEc G e fr C fr1 ⟨.exn c ns vs, m, al, t⟩] (hc : C) (h : Q fr1 (.ret (.exn c ns vs) 0)) : SK G (.cons (.xex e) as :: bs) fr Q :=
  sk_fl (by rw [evS, g.h hc]; rfl) h
theorem sk_xasgN {i : Nat} {e : IE} {v : PV} {m : Nat} {al : List Nat} {t : Bool} {C : Prop} [g : WEc G e fr C fr1 ⟨v, m, al, t⟩] [n : NEx v] [d : WDem al fr1 fr2] [s : WSet i m v fr2 fr3] (c : C) (h : SK G (as :: bs) fr3 Q) : SK G (.cons (.xasg i e) as :: bs) fr Q :=
  sk_next (by
    rw [evS, g.h c]
    have k : ((dem al fr1).bind fun fr2 => (setS i m v fr2).bind fun fr3 => some (fr3, Fl.next)) = some (fr3, .next) := by
      rw [d.h]
      simp only [Option.bind_some]
      rw [s.h]; rfl
    simp only [Option.bind_some]
    cases v <;> first | exact absurd rfl (n.h _ _ _) | exact k) h
theorem sk_xasgX {i : Nat} {e : IE} {c : Nat} {ns : List Str} {vs : List PV} {m : Nat} {al : List Nat} {t : Bool} {C : Prop} [g : WEc G e fr C fr1 ⟨.exn c ns vs, m, al, t⟩] (hc : C) (h : Q fr1 (.ret (.exn c ns vs) 0)) : SK G (.cons (.xasg i e) as :: bs) fr Q :=
  sk_fl (by rw [evS, g.h hc]; rfl) h
theorem sk_xretN {e : IE} {v : PV} {m : Nat} {al : List Nat} {t : Bool} {C : Prop} [g : WEc G e fr C fr1 ⟨v, m, al, t⟩] [n : NEx v] [d : WDem al fr1 fr2] (c : C) (h : Q fr2 (.ret v m)) : SK G (.cons (.xret e) as :: bs) fr Q :=
  sk_fl (by
    rw [evS, g.h c]
    have k : ((dem al fr1).bind fun fr2 => some (fr2, Fl.ret v m)) = some (fr2, .ret v m) := by rw [d.h]; rfl
    simp only [Option.bind_some]
    cases v <;> first | exact absurd rfl (n.h _ _ _) | exact k) h
theorem sk_xretX {e : IE} {c : Nat} {ns : List Str} {vs : List PV} {m : Nat} {al : List Nat} {t : Bool} {C : Prop} [g : WEc G e fr C fr1 ⟨.exn c ns vs, m, al, t⟩] (hc : C) (h : Q fr1 (.ret (.exn c ns vs) 0)) : SK G (.cons (.xret e) as :: bs) fr Q :=
  sk_fl (by rw [evS, g.h hc]; rfl) h
theorem sk_xnnN {e : IE} {b : ISs} {m : Nat} {al : List Nat} {t : Bool} {C : Prop} [g : WEc G e fr C fr1 ⟨.non, m, al, t⟩] (c : C) (h : SK G (as :: bs) fr1 Q) : SK G (.cons (.xnn e b) as :: bs) fr Q :=
  sk_next (by rw [evS, g.h c]; rfl) h
theorem sk_xnnX {e : IE} {b : ISs} {c : Nat} {ns : List Str} {vs : List PV} {m : Nat} {al : List Nat} {t : Bool} {C : Prop} [g : WEc G e fr C fr1 ⟨.exn c ns vs, m, al, t⟩] (hc : C) (h : Q fr1 (.ret (.exn c ns vs) 0)) : SK G (.cons (.xnn e b) as :: bs) fr Q :=
  sk_fl (by rw [evS, g.h hc]; rfl) h
/-! ### tests whose right sides change the frame -/
theorem sk_same {a b : IS} (e : evS G a fr = evS G b fr1) (h : SK G (.cons b as :: bs) fr1 Q) : SK G (.cons a as :: bs) fr Q := by
  obtain ⟨fr', fl, e2, q⟩ := h
  exact ⟨fr', fl, by rw [evK_cons, e, ← evK_cons]; exact e2, q⟩
theorem sk_into {a : IS} {b : ISs} (e : evS G a fr = evSs G b fr1) (h : SK G (b :: as :: bs) fr1 Q) : SK G (.cons a as :: bs) fr Q := by
  obtain ⟨fr', fl, e2, q⟩ := h
  refine ⟨fr', fl, ?_, q⟩
  rw [evK_cons, e]
  exact e2
theorem sk_iteAnd {a b : IE} {A B : ISs} {k : Bool} {m : Nat} {al : List Nat} {t : Bool} {C R : Prop} [g : WEc G a fr C fr1 ⟨.bl k, m, al, t⟩] [br : BrP k (SK G (.cons (.ite b A B) as :: bs) fr1 Q) (SK G (B :: as :: bs) fr1 Q) R] (hc : C) (h : R) : SK G (.cons (.ite (.and a b) A B) as :: bs) fr Q := by
  obtain ⟨h1, h2⟩ := br.h h
  have e := g.h hc
  cases k with
  | true =>
    refine sk_same ?_ (h1 rfl)
    rw [evS, evE, e, evS]; rfl
  | false =>
    refine sk_into ?_ (h2 rfl)
    rw [evS, evE, e]; rfl
theorem sk_iteOr {a b : IE} {A B : ISs} {k : Bool} {m : Nat} {al : List Nat} {t : Bool} {C R : Prop} [g : WEc G a fr C fr1 ⟨.bl k, m, al, t⟩] [br : BrP k (SK G (A :: as :: bs) fr1 Q) (SK G (.cons (.ite b A B) as :: bs) fr1 Q) R] (hc : C) (h : R) : SK G (.cons (.ite (.or a b) A B) as :: bs) fr Q := by
  obtain ⟨h1, h2⟩ := br.h h
  have e := g.h hc
  cases k with
  | true =>
    refine sk_into ?_ (h1 rfl)
    rw [evS, evE, e]; rfl
  | false =>
    refine sk_same ?_ (h2 rfl)
    rw [evS, evE, e, evS]; rfl
theorem sk_iteNot {a : IE} {A B : ISs} (h : SK G (.cons (.ite a B A) as :: bs) fr Q) : SK G (.cons (.ite (.not a) A B) as :: bs) fr Q := by
  obtain ⟨fr', fl, e2, q⟩ := h
  have e : ∀ p, evS G (.ite a B A) fr = some p → evS G (.ite (.not a) A B) fr = some p := fun p h => by
    rw [evS] at h ⊢
    rw [evE]
    cases ee : evE G a fr with
    | none => rw [ee] at h; cases h
    | some pr =>
      obtain ⟨f, o⟩ := pr
      rw [ee] at h
      simp only [Option.bind_some] at h ⊢
      split at h
      · rename_i eo; simp only [eo]; exact h
      · rename_i eo; simp only [eo]; exact h
      · cases h
  rw [evK_cons] at e2
  cases ee : evS G (.ite a B A) fr with
  | none => rw [ee] at e2; cases e2
  | some p =>
    rw [ee] at e2
    exact ⟨fr', fl, by rw [evK_cons, e p ee]; exact e2, q⟩
theorem sk_retAnd {a b : IE} {k : Bool} {m : Nat} {al : List Nat} {t : Bool} {C R : Prop} [g : WEc G a fr C fr1 ⟨.bl k, m, al, t⟩] [nv : NVar b] [br : BrP k (SK G (.cons (.ret b) as :: bs) fr1 Q) (Q fr1 (.ret (.bl false) 0)) R] (hc : C) (h : R) : SK G (.cons (.ret (.and a b)) as :: bs) fr Q := by
  obtain ⟨h1, h2⟩ := br.h h
  have e := g.h hc
  cases k with
  | true =>
    refine sk_same ?_ (h1 rfl)
    rw [evS_ret (ie := .and a b) (fun _ z => (nomatch z)), evS_ret nv.h, evE, e]; rfl
  | false => exact sk_fl (by rw [evS_ret (ie := .and a b) (fun _ z => (nomatch z)), evE, e]; rfl) (h2 rfl)
theorem sk_retOr {a b : IE} {k : Bool} {m : Nat} {al : List Nat} {t : Bool} {C R : Prop} [g : WEc G a fr C fr1 ⟨.bl k, m, al, t⟩] [nv : NVar b] [br : BrP k (Q fr1 (.ret (.bl true) 0)) (SK G (.cons (.ret b) as :: bs) fr1 Q) R] (hc : C) (h : R) : SK G (.cons (.ret (.or a b)) as :: bs) fr Q := by
  obtain ⟨h1, h2⟩ := br.h h
  have e := g.h hc
  cases k with
  | true => exact sk_fl (by rw [evS_ret (ie := .or a b) (fun _ z => (nomatch z)), evE, e]; rfl) (h1 rfl)
  | false =>
    refine sk_same ?_ (h2 rfl)
    rw [evS_ret (ie := .or a b) (fun _ z => (nomatch z)), evS_ret nv.h, evE, e]; rfl
/-- a walk over whole numbers, however written -/
theorem sf_ints {p : Pat} {b : ISs} {vs : List PV} {l : List Int} [iv : Ints vs l] {S : Type} (st : S → Fr) (I : Nat → S → Prop) (s0 : S) (h0 : fr = st s0) (i0 : I 0 s0)
    (step : ∀ (k : Nat) x s, l[k]? = some x → I k s → TB G p b (.int x) (st s) fun fr' fl => match fl with
      | .next => ∃ s', fr' = st s' ∧ I (k + 1) s'
      | .cont => ∃ s', fr' = st s' ∧ I (k + 1) s'
      | .brk => Q fr' .next
      | fl => Q fr' fl)
    (fin : ∀ s, I l.length s → Q (st s) .next) : SF G p b vs fr Q := by
  rw [iv.h]
  exact sf_map st I s0 h0 i0 step fin
/-! ### try -/
def contF (G : GE) (as : ISs) (bs : List ISs) (Q : Fr → Fl → Prop) (fr : Fr) : Fl → Prop
  | .next => SK G (as :: bs) fr Q
  | fl => Q fr fl
structure Cont (G : GE) (as : ISs) (bs : List ISs) (Q : Fr → Fl → Prop) (fr : Fr) (fl : Fl) : Prop where
  h : contF G as bs Q fr fl
theorem ct_ret {G : GE} {as : ISs} {bs : List ISs} {Q : Fr → Fl → Prop} {fr : Fr} {v : PV} {m : Nat} (h : Q fr (.ret v m)) : Cont G as bs Q fr (.ret v m) := ⟨h⟩
theorem ct_next {G : GE} {as : ISs} {bs : List ISs} {Q : Fr → Fl → Prop} {fr : Fr} (h : SK G (as :: bs) fr Q) : Cont G as bs Q fr .next := ⟨h⟩
/-- what a handler leaves -/
structure HQ (i : Nat) (fr2 : Fr) (fl2 : Fl) (fr' : Fr) (fl' : Fl) : Prop where
  h : fr'.set i none = fr2 ∧ fl' = fl2
theorem hq_of {i : Nat} {fr2 fr' : Fr} {fl : Fl} [s : SetF fr' i none fr2] : HQ i fr2 fl fr' fl := ⟨⟨s.h, rfl⟩⟩
/-- what a try's body leaves -/
structure TQ (l : List Den) (ex : Option HxI) (i n : Nat) (lc : List Nat) (o : Bool) (hd : ISs) (as : ISs) (bs : List ISs) (Q : Fr → Fl → Prop) (fr1 : Fr) (fl : Fl) : Prop where
  h : (∀ c ns vs m, fl = .ret (.exn c ns vs) m → c < n ∧ slFree fr1 i = true ∧ if lc.contains c = true then ∃ fr2 fl2, (∀ a d, SK (GsX l (some ⟨i, a, d, c, ns, vs⟩)) [hd] (fr1.set i (some ⟨0, false, .exr a d c ns vs⟩)) (HQ i fr2 fl2)) ∧ Cont (GsX l ex) as bs Q fr2 fl2 else o = true ∧ Q fr1 fl) ∧
  ((∀ c ns vs m, fl ≠ .ret (.exn c ns vs) m) → Cont (GsX l ex) as bs Q fr1 fl)
theorem tq_next {l : List Den} {ex : Option HxI} {i n : Nat} {lc : List Nat} {o : Bool} {hd : ISs} (h : SK (GsX l ex) (as :: bs) fr1 Q) : TQ l ex i n lc o hd as bs Q fr1 .next := ⟨⟨fun _ _ _ _ z => (nomatch z), fun _ => ⟨h⟩⟩⟩
theorem tq_ret {l : List Den} {ex : Option HxI} {i n : Nat} {lc : List Nat} {o : Bool} {hd : ISs} {v : PV} {m : Nat} [e : NEx v] (h : Q fr1 (.ret v m)) : TQ l ex i n lc o hd as bs Q fr1 (.ret v m) := ⟨⟨fun c ns vs m2 z => by
  cases z
  exact absurd rfl (e.h _ _ _), fun _ => ⟨h⟩⟩⟩
theorem tq_exn {l : List Den} {ex : Option HxI} {i n : Nat} {lc : List Nat} {o : Bool} {hd : ISs} {c : Nat} {ns : List Str} {vs : List PV} {m : Nat} {fr2 : Fr} {fl2 : Fl} {fr3 : Addr → Addr → Fr} (h1 : c < n) (h2 : lc.contains c = true) [g : GetF fr1 i none]
    [s : ∀ a d, SetF fr1 i (some ⟨0, false, .exr a d c ns vs⟩) (fr3 a d)] (h : ∀ a d, SK (GsX l (some ⟨i, a, d, c, ns, vs⟩)) [hd] (fr3 a d) (HQ i fr2 fl2)) (k : Cont (GsX l ex) as bs Q fr2 fl2) : TQ l ex i n lc o hd as bs Q fr1 (.ret (.exn c ns vs) m) :=
  ⟨⟨fun c' ns' vs' m' z => by
    cases z
    refine ⟨h1, by unfold slFree; rw [g.h], ?_⟩
    rw [if_pos h2]
    exact ⟨fr2, fl2, fun a d => by rw [(s a d).h]; exact h a d, k⟩, fun z => absurd rfl (z _ _ _ _)⟩⟩
theorem sk_try {l : List Den} {ex : Option HxI} {i n : Nat} {lc : List Nat} {o : Bool} {b hd : ISs} (h : SK (GsX l ex) [b] fr (TQ l ex i n lc o hd as bs Q)) : SK (GsX l ex) (.cons (.tryx i n lc o b hd) as :: bs) fr Q := by
  obtain ⟨fr1, fl, e, h⟩ := h
  have eb : evSs (GsX l ex) b fr = some (fr1, fl) := by
    have e : (evSs (GsX l ex) b fr).bind _ = some (fr1, fl) := e
    cases eb : evSs (GsX l ex) b fr with
    | none => rw [eb] at e; cases e
    | some p =>
      obtain ⟨f, g⟩ := p
      rw [eb] at e
      cases g <;> exact e
  have fin : ∀ {fr2 fl2}, evS (GsX l ex) (.tryx i n lc o b hd) fr = some (fr2, fl2) → Cont (GsX l ex) as bs Q fr2 fl2 → SK (GsX l ex) (.cons (.tryx i n lc o b hd) as :: bs) fr Q := fun {fr2 fl2} e k => by
    have k := k.h
    cases fl2 with
    | next => exact sk_next e k
    | brk => exact ⟨_, _, by rw [evK_cons, e]; rfl, k⟩
    | cont => exact ⟨_, _, by rw [evK_cons, e]; rfl, k⟩
    | ret v m => exact ⟨_, _, by rw [evK_cons, e]; rfl, k⟩
  by_cases hx : ∃ c ns vs m, fl = .ret (.exn c ns vs) m
  · obtain ⟨c, ns, vs, m, rfl⟩ := hx
    obtain ⟨h1, h2, h3⟩ := h.h.1 c ns vs m rfl
    by_cases hl : lc.contains c = true
    · rw [if_pos hl] at h3
      obtain ⟨fr2, fl2, h4, h5⟩ := h3
      refine fin ?_ h5
      rw [evS, eb]
      simp only [Option.bind_some]
      rw [if_pos ⟨h1, h2⟩, if_pos hl]
      refine tryR_of fun a d => ?_
      obtain ⟨fr', fl', e1, ⟨e2, e3⟩⟩ := h4 a d
      have e1 : (evSs (GsX l (some ⟨i, a, d, c, ns, vs⟩)) hd (fr1.set i (some ⟨0, false, .exr a d c ns vs⟩))).bind _ = some (fr', fl') := e1
      have e4 : evSs (GsX l (some ⟨i, a, d, c, ns, vs⟩)) hd (fr1.set i (some ⟨0, false, .exr a d c ns vs⟩)) = some (fr', fl') := by
        cases eb : evSs (GsX l (some ⟨i, a, d, c, ns, vs⟩)) hd (fr1.set i (some ⟨0, false, .exr a d c ns vs⟩)) with
        | none => rw [eb] at e1; cases e1
        | some p =>
          obtain ⟨f, g⟩ := p
          rw [eb] at e1
          cases g <;> exact e1
      show (evSs (GsX l (some ⟨i, a, d, c, ns, vs⟩)) hd (fr1.set i (some ⟨0, false, .exr a d c ns vs⟩))).map _ = _
      rw [e4, ← e2, ← e3]
      rfl
    · rw [if_neg hl] at h3
      refine fin (fr2 := fr1) (fl2 := .ret (.exn c ns vs) m) ?_ ⟨h3.2⟩
      rw [evS, eb]
      simp only [Option.bind_some]
      rw [if_pos ⟨h1, h2⟩, if_neg hl, if_pos h3.1]
  · have k := h.h.2 fun c ns vs m z => hx ⟨c, ns, vs, m, z⟩
    refine fin ?_ k
    rw [evS, eb]
    cases fl with
    | next => rfl
    | brk => rfl
    | cont => rfl
    | ret v m =>
      cases v <;> first | rfl | exact absurd ⟨_, _, _, _, rfl⟩ hx
/-! ### the handled exception -/
class Lkp (ns : List Str) (vs : List PV) (f : Str) (v : outParam PV) : Prop where
  h : (ns.zip vs).lookup f = some v
instance lkp_1 {f : Str} {v : PV} {ns : List Str} {vs : List PV} : Lkp (f :: ns) (v :: vs) f v := ⟨by rw [List.zip_cons_cons, List.lookup_cons, beq_self_eq_true]⟩
theorem ex_at {l : List Den} {i : Nat} {a d : Addr} {c : Nat} {ns : List Str} {vs : List PV} {p : Bool} {m : Nat} (g : fr[i]? = some (some ⟨m, p, .exr a d c ns vs⟩)) : exAt (GsX l (some ⟨i, a, d, c, ns, vs⟩)) fr i = some ⟨i, a, d, c, ns, vs⟩ := by
  unfold exAt GsX
  rw [g]
  simp
instance wec_fld {l : List Den} {i : Nat} {a d : Addr} {c : Nat} {ns : List Str} {vs : List PV} {f : Str} {v : PV} {p : Bool} {m : Nat} [g : GetF fr i (some ⟨m, p, .exr a d c ns vs⟩)] [k : Lkp ns vs f v] [s : ScV v] : WEc (GsX l (some ⟨i, a, d, c, ns, vs⟩)) (.fld i f) fr True fr ⟨v, 0, [], false⟩ := ⟨fun _ => by
  rw [evE, ex_at g.h]
  simp only [Option.bind_some]
  rw [k.h]
  simp only
  rw [if_pos s.h]⟩
class Cnt (l : List Nat) (c : Nat) (b : outParam Bool) : Prop where
  h : l.contains c = b
class LtN (c n : Nat) : Prop where
  h : c < n
instance ltn_0 {n : Nat} : LtN 0 (n + 1) := ⟨by omega⟩
instance ltn_s {c n : Nat} [g : LtN c n] : LtN (c + 1) (n + 1) := ⟨by have := g.h; omega⟩
class EqN (i j : Nat) (b : outParam Bool) : Prop where
  h : (i == j) = b
instance eqn_00 : EqN 0 0 true := ⟨rfl⟩
instance eqn_0s {j : Nat} : EqN 0 (j + 1) false := ⟨by simp⟩
instance eqn_s0 {j : Nat} : EqN (j + 1) 0 false := ⟨by simp⟩
instance eqn_ss {i j : Nat} {b : Bool} [e : EqN i j b] : EqN (i + 1) (j + 1) b := ⟨by have := e.h; simpa using this⟩
class OrB (a b : Bool) (c : outParam Bool) : Prop where
  h : (a || b) = c
instance orb_t {b : Bool} : OrB true b true := ⟨rfl⟩
instance orb_f {b : Bool} : OrB false b b := ⟨rfl⟩
instance cnt_n {c : Nat} : Cnt [] c false := ⟨rfl⟩
instance cnt_c {x c : Nat} {l : List Nat} {b b2 b3 : Bool} [e : EqN c x b] [g : Cnt l c b2] [o : OrB b b2 b3] : Cnt (x :: l) c b3 := ⟨by rw [List.contains_cons, e.h, g.h, o.h]⟩
instance wec_isx {l : List Den} {i n : Nat} {ls : List Nat} {a d : Addr} {c : Nat} {ns : List Str} {vs : List PV} {p b : Bool} {m : Nat} [g : GetF fr i (some ⟨m, p, .exr a d c ns vs⟩)] [k : LtN c n] [q : Cnt ls c b] : WEc (GsX l (some ⟨i, a, d, c, ns, vs⟩)) (.isx i n ls) fr True fr ⟨.bl b, 0, [], false⟩ := ⟨fun _ => by
  rw [evE, ex_at g.h]
  simp only [Option.bind_some]
  rw [if_pos k.h, q.h]⟩
/-- a call that may raise, where it does not -/
theorem callx_of {j : Nat} {mu : List Nat} {na : Bool} {es : IEs} {o : Od} (h : evE G (.call j mu na es) fr = some (fr1, o)) (n : NEx o.v) : evE G (.callx j mu na es) fr = some (fr1, o) := by
  rw [evE_call] at h
  rw [evE_callx]
  cases e1 : evLm G mu es fr with
  | none => rw [e1] at h; cases h
  | some p =>
  obtain ⟨f, os⟩ := p
  rw [e1] at h
  simp only [Option.bind_some] at h ⊢
  cases e2 : fillM mu es os f with
  | none => rw [e2] at h; cases h
  | some vs =>
  rw [e2] at h
  simp only [Option.bind_some] at h ⊢
  by_cases c : (nodupB (mutArgs mu es) && disj (alM mu os) (mutArgs mu es)) = true
  rotate_left
  · rw [if_neg c] at h; cases h
  rw [if_pos c] at h ⊢
  cases e3 : G j vs with
  | none => rw [e3] at h; cases h
  | some p =>
  obtain ⟨v, m, outs⟩ := p
  rw [e3] at h
  simp only [Option.bind_some] at h ⊢
  by_cases c2 : (if na then flatM m v && flatsM (muPos mu) outs else (muPos mu).isEmpty || (alM mu os).isEmpty) = true
  rotate_left
  · rw [if_neg c2] at h; cases h
  rw [if_pos c2] at h
  cases e4 : putM (mutArgs mu es) outs f with
  | none => rw [e4] at h; cases h
  | some f2 =>
  rw [e4] at h
  cases h
  rw [if_pos (by rw [c2, n.no]; rfl)]
  rfl
instance wec_callx {j : Nat} {mu : List Nat} {na : Bool} {es : IEs} {v : PV} {m : Nat} {al : List Nat} {t : Bool} {C : Prop} [g : WEc G (.call j mu na es) fr C fr1 ⟨v, m, al, t⟩] [n : NEx v] : WEc G (.callx j mu na es) fr C fr1 ⟨v, m, al, t⟩ := ⟨fun c => callx_of (g.h c) n⟩
instance mue_callx {j : Nat} {mu : List Nat} {na : Bool} {as : IEs} {l l2 l3 : List Nat} [h : MutL as l] [h2 : MutA mu as l2] [a : Ap l l2 l3] : MutE (.callx j mu na as) l3 := ⟨by rw [mutd, h.h, h2.h, a.h]⟩
instance nvar_callx {j : Nat} {mu : List Nat} {na : Bool} {as : IEs} : NVar (.callx j mu na as) := ⟨fun _ z => nomatch z⟩
instance nvar_fld {i : Nat} {f : Str} : NVar (.fld i f) := ⟨fun _ z => nomatch z⟩
instance nvar_isx {i n : Nat} {l : List Nat} : NVar (.isx i n l) := ⟨fun _ z => nomatch z⟩
end
end VI

local macro_rules | `(tactic| walk_at "vstep") => `(tactic| first
  | (refine VI.sk_rse ?c ?c2 ?h; (case c => walk_at "vside"); (case c2 => rfl))
  | (refine VI.sk_xasgX ?c ?h; (case c => walk_at "vside"))
  | (refine VI.sk_xasgN ?c ?h; (case c => walk_at "vside"))
  | (refine VI.sk_xnnX ?c ?h; (case c => walk_at "vside"))
  | (refine VI.sk_xnnN ?c ?h; (case c => walk_at "vside"))
  | (refine VI.sk_xexX ?c ?h; (case c => walk_at "vside"))
  | (refine VI.sk_xexN ?c ?h; (case c => walk_at "vside"))
  | (refine VI.sk_xretX ?c ?h; (case c => walk_at "vside"))
  | (refine VI.sk_xretN ?c ?h; (case c => walk_at "vside"))
  | refine VI.sk_try ?_
  | refine VI.tq_next ?_
  | refine VI.tq_ret ?_
  | (apply VI.tq_exn (by decide) rfl; (· intro _ _; walk_at "vsteps"; done))
  | refine VI.ct_ret ?_
  | refine VI.ct_next ?_
  | exact VI.hq_of
  | (refine VI.sk_iteB ?c ?h; (case c => walk_at "vside"); try (refine And.intro (fun hc => ?_) (fun hc => ?_) <;> try (first | (exfalso; omega) | exact absurd rfl hc | exact absurd hc (by decide) | contradiction)))
  | (refine VI.sk_iteAnd ?c ?h; (case c => walk_at "vside"); try (refine And.intro (fun hc => ?_) (fun hc => ?_) <;> try (first | (exfalso; omega) | exact absurd rfl hc | exact absurd hc (by decide) | contradiction)))
  | (refine VI.sk_iteOr ?c ?h; (case c => walk_at "vside"); try (refine And.intro (fun hc => ?_) (fun hc => ?_) <;> try (first | (exfalso; omega) | exact absurd rfl hc | exact absurd hc (by decide) | contradiction)))
  | refine VI.sk_iteNot ?_
  | (refine VI.sk_ret ?c ?h; (case c => walk_at "vside"))
  | (refine VI.sk_retAnd ?c ?h; (case c => walk_at "vside"); try (refine And.intro (fun hc => ?_) (fun hc => ?_) <;> try (first | (exfalso; omega) | exact absurd rfl hc | exact absurd hc (by decide) | contradiction)))
  | (refine VI.sk_retOr ?c ?h; (case c => walk_at "vside"); try (refine And.intro (fun hc => ?_) (fun hc => ?_) <;> try (first | (exfalso; omega) | exact absurd rfl hc | exact absurd hc (by decide) | contradiction))))
namespace VI
/-- the first place of which p holds -/
def firstB (n : Nat) (p : Nat → Bool) : Option Nat := (List.range n).find? p
theorem firstB_none {n : Nat} {p : Nat → Bool} (h : ∀ j, j < n → p j = false) : firstB n p = none := by
  unfold firstB
  rw [List.find?_eq_none]
  intro x hx
  rw [h x (List.mem_range.mp hx)]
  decide
theorem firstB_some {n k : Nat} {p : Nat → Bool} (hk : k < n) (hp : p k = true) (h : ∀ j, j < k → p j = false) : firstB n p = some k := by
  unfold firstB
  induction n with
  | zero => omega
  | succ n ih =>
    rw [List.range_succ, List.find?_append]
    by_cases c : k < n
    · rw [ih c]; rfl
    · have : k = n := by omega
      subst this
      have e : (List.range k).find? p = none := by
        rw [List.find?_eq_none]
        intro x hx
        rw [h x (List.mem_range.mp hx)]; decide
      rw [e]
      simp [hp]
theorem firstB_iff_none {n : Nat} {p : Nat → Bool} (h : firstB n p = none) : ∀ j, j < n → p j = false := fun j hj => by
  unfold firstB at h
  rw [List.find?_eq_none] at h
  simpa using h j (List.mem_range.mpr hj)
theorem getD_some {α : Type} [Inhabited α] {l : List α} {k : Nat} {x : α} (h : l[k]? = some x) : l.getD k default = x ∧ k < l.length := by
  have hk : k < l.length := by
    refine Classical.byContradiction fun c => ?_
    rw [List.getElem?_eq_none (by omega)] at h; cases h
  exact ⟨by rw [List.getD_eq_getElem?_getD, h]; rfl, hk⟩
theorem some_getD {α : Type} [Inhabited α] {l : List α} {k : Nat} (hk : k < l.length) : l[k]? = some (l.getD k default) := by
  rw [List.getD_eq_getElem?_getD, List.getElem?_eq_getElem hk]; rfl
end VI
namespace VI
/-- a place as a number -/
def ixO : Option Nat → Option Int
  | none => none
  | some k => some (k : Int)
end VI
namespace VI
open PySem PySem.Spec PyProof.Rows L2
/-! ### xs.pop(e), xs.pop(), int(a truth value), list literals cut -/
class Pop (vs : List PV) (z : Int) (C : outParam Prop) (y : outParam PV) (ws : outParam (List PV)) : Prop where
  h : C → ∃ n, ixN vs.length z = some n ∧ vs[n]? = some y ∧ vs.eraseIdx n = ws
theorem map_eraseIdx {α β : Type} (g : α → β) : ∀ (l : List α) (n : Nat), (l.map g).eraseIdx n = (l.eraseIdx n).map g
  | [], n => by cases n <;> rfl
  | a :: l, 0 => rfl
  | a :: l, n + 1 => by
    show g a :: (l.map g).eraseIdx n = g a :: (l.eraseIdx n).map g
    rw [map_eraseIdx g l n]
instance pop_m {α : Type} [Inhabited α] {g : α → PV} {l : List α} {z : Int} : Pop (l.map g) z (0 ≤ z ∧ z < l.length) (g (l.getD z.toNat default)) ((l.eraseIdx z.toNat).map g) := ⟨fun h =>
  ⟨z.toNat, ixN_of h.1 (by rw [List.length_map]; exact h.2), by rw [List.getElem?_map, some_getD (show z.toNat < l.length by omega)]; rfl, map_eraseIdx g l _⟩⟩
section
variable {G : GE} {fr fr1 fr2 : Fr}
instance wec_pop1 {i : Nat} {a : IE} {z : Int} {ma p0 : Nat} {al : List Nat} {t p q0 : Bool} {vs vs0 ws : List PV} {y : PV} {C C2 : Prop} [g0 : GetF fr i (some ⟨p0, q0, .lst vs0⟩)] [ea : WEc G a fr C fr1 ⟨.int z, ma, al, t⟩] [g : GetF fr1 i (some ⟨1, p, .lst vs⟩)] [d : Pop vs z C2 y ws] [s : SetF fr1 i (some ⟨1, p, .lst ws⟩) fr2] :
    WEc G (.pop1 i a) fr (C ∧ C2 ∧ -(2 ^ 63) ≤ z ∧ z < 2 ^ 63) fr2 ⟨y, 0, [], false⟩ := ⟨fun ⟨c, c2, z1, z2⟩ => by
  obtain ⟨n, h1, h2, h3⟩ := d.h c2
  rw [evE, if_neg (by unfold isLAt; rw [g0.h]; exact Bool.noConfusion), ea.h c]
  simp only [Option.bind_some]
  rw [g.h]
  simp only
  rw [if_pos ⟨trivial, z1, z2⟩, h1]
  simp only
  rw [h2]
  simp only
  rw [h3, s.h]⟩
instance nvar_pop1 {i : Nat} {a : IE} : NVar (.pop1 i a) := ⟨fun _ z => nomatch z⟩
instance nvar_pop0 {i : Nat} : NVar (.pop0 i) := ⟨fun _ z => nomatch z⟩
end
instance : PKd .max1d .flat := ⟨rfl⟩
instance : PKd .min1d .flat := ⟨rfl⟩
def maxD (d : Int) : List Int → Int
  | [] => d
  | a :: l => maxL (a :: l)
def minD (d : Int) : List Int → Int
  | [] => d
  | a :: l => minL (a :: l)
instance pfc_max1d {vs : List PV} {l : List Int} {d : Int} [g : Ints vs l] : PFc .max1d [.lst vs, .int d] True (.int (maxD d l)) := ⟨fun _ => by
  show pvMax1d (.lst vs) (.int d) = _
  rw [g.h]
  unfold pvMax1d
  simp only
  rw [asInts_map]
  cases l <;> rfl⟩
instance pfc_min1d {vs : List PV} {l : List Int} {d : Int} [g : Ints vs l] : PFc .min1d [.lst vs, .int d] True (.int (minD d l)) := ⟨fun _ => by
  show pvMin1d (.lst vs) (.int d) = _
  rw [g.h]
  unfold pvMin1d
  simp only
  rw [asInts_map]
  cases l <;> rfl⟩
instance pf_intB {b : Bool} : PF .int [.bl b] (.int (if b then 1 else 0)) := ⟨rfl⟩
instance asi_m {l : List Int} : AsI (l.map PV.int) l := ⟨rfl⟩
class TakeP (vs : List PV) (n : Nat) (ws : outParam (List PV)) : Prop where
  h : vs.take n = ws
instance takeP_0 {vs : List PV} : TakeP vs 0 [] := ⟨rfl⟩
instance takeP_s {v : PV} {vs ws : List PV} {n : Nat} [t : TakeP vs n ws] : TakeP (v :: vs) (n + 1) (v :: ws) := ⟨by rw [List.take_succ_cons, t.h]⟩
instance join_p1 {a : List (Int × Int)} {x y : Int} : Join (a.map pr) [.tup [.int x, .int y]] ((a ++ [(x, y)]).map pr) := ⟨by rw [List.map_append]; rfl⟩
end VI
namespace VI
class MutI (it : IT) (l : outParam (List Nat)) : Prop where
  h : mutdI it = l
instance mui_s {a : IE} {l : List Nat} [h : MutE a l] : MutI (.seq a) l := ⟨by rw [mutdI, h.h]⟩
instance mui_r1 {a : IE} {l : List Nat} [h : MutE a l] : MutI (.rng1 a) l := ⟨by rw [mutdI, h.h]⟩
instance mui_e {a : IE} {l : List Nat} [h : MutE a l] : MutI (.enum a) l := ⟨by rw [mutdI, h.h]⟩
instance mui_v {a : IE} {l : List Nat} [h : MutE a l] : MutI (.rev a) l := ⟨by rw [mutdI, h.h]⟩
instance mui_r2 {a b : IE} {l l2 l3 : List Nat} [h : MutE a l] [h2 : MutE b l2] [j : Ap l l2 l3] : MutI (.rng2 a b) l3 := ⟨by rw [mutdI, h.h, h2.h, j.h]⟩
instance mui_z {a b : IE} {l l2 l3 : List Nat} [h : MutE a l] [h2 : MutE b l2] [j : Ap l l2 l3] : MutI (.zip a b) l3 := ⟨by rw [mutdI, h.h, h2.h, j.h]⟩
instance mue_lc {own : List Nat} {pt : Pat} {it : IT} {ts : IEs} {e : IE} {k : Nat} {als l l2 l3 l4 l5 : List Nat} [h : MutI it l] [h2 : MutL ts l2] [h3 : MutE e l3] [j : Ap l2 l3 l4] [j2 : Ap l l4 l5] : MutE (.lc own pt it ts e k als) l5 := ⟨by rw [mutd, h.h, h2.h, h3.h, j.h, j2.h]⟩
instance mue_ife {a b c : IE} {l l2 l3 l4 l5 : List Nat} [h : MutE a l] [h2 : MutE b l2] [h3 : MutE c l3] [j : Ap l2 l3 l4] [j2 : Ap l l4 l5] : MutE (.ife a b c) l5 := ⟨by rw [mutd, h.h, h2.h, h3.h, j.h, j2.h]⟩
instance mue_chain {p q : Prim} {a b c : IE} {l l2 l3 l4 l5 : List Nat} [h : MutE a l] [h2 : MutE b l2] [h3 : MutE c l3] [j : Ap l2 l3 l4] [j2 : Ap l l4 l5] : MutE (.chain p q a b c) l5 := ⟨by rw [mutd, h.h, h2.h, h3.h, j.h, j2.h]⟩
instance mue_pop0 {i : Nat} : MutE (.pop0 i) [i] := ⟨by rw [mutd]⟩
instance mue_pop1 {i : Nat} {a : IE} {l l2 : List Nat} [h : MutE a l] [j : Ap l [i] l2] : MutE (.pop1 i a) l2 := ⟨by rw [mutd, h.h, j.h]⟩
end VI
namespace VI
open PySem PySem.Spec PyProof.Rows L2
instance (priority := 1100) join_mi {a l : List Int} {x : Int} {vs : List PV} [g : AsI (.int x :: vs) l] : Join (a.map PV.int) (.int x :: vs) ((a ++ l).map PV.int) := ⟨by rw [List.map_append, g.h]⟩
theorem inv_of {α : Type} [DecidableEq α] {g : α → PV} [EqG g] {x : α} {l : List α} : InV (g x) (l.map g) (decide (x ∈ l)) := ⟨by
  induction l with
  | nil => rfl
  | cons a l ih =>
    rw [List.map_cons, List.any_cons, ih, EqG.h a x]
    by_cases h : a = x
    · simp [h]
    · have h2 : ¬ x = a := fun e => h e.symm
      simp [h, h2]⟩
instance inv_pr {x y : Int} {l : List (Int × Int)} : InV (.tup [.int x, .int y]) (l.map pr) (decide ((x, y) ∈ l)) := ⟨(inv_of (g := pr) (x := (x, y))).h.trans (decide_eq_decide.mpr Iff.rfl)⟩
/-- a literal list cut -/
instance (priority := 40) cut_litn {vs ws : List PV} {n : Nat} [t : TakeP vs n ws] : Cut vs none (some (no_index (OfNat.ofNat n : Int))) True ws := ⟨fun _ => by
  have e : (OfNat.ofNat n : Int).toNat = n := rfl
  have e2 : HT.sIx vs.length vs.length (some (OfNat.ofNat n : Int)) = min n vs.length := sIx_pos (Int.natCast_nonneg n)
  unfold cutP
  rw [sIx_none_lo, e2, List.drop_zero, Nat.sub_zero, ← t.h]
  by_cases z : n ≤ vs.length
  · rw [Nat.min_eq_left z]
  · rw [Nat.min_eq_right (by omega), List.take_of_length_le (Nat.le_refl _), List.take_of_length_le (by omega)]⟩
/-! a whole number or None -/
theorem somes : ∀ {l : List (Option Int)}, ¬ none ∈ l → ∃ vs : List Int, l = vs.map some
  | [], _ => ⟨[], rfl⟩
  | none :: l, h => absurd List.mem_cons_self h
  | some v :: l, h => by
    obtain ⟨vs, e⟩ := somes (l := l) fun z => h (List.mem_cons_of_mem _ z)
    exact ⟨v :: vs, by rw [e]; rfl⟩
abbrev oV : Option Int → PV
  | none => .non
  | some p => .int p
instance eqg_o : EqG oV := ⟨fun x y => by
  cases x <;> cases y
  · rfl
  · rfl
  · rfl
  · rename_i a b
    show pvEq (.int a) (.int b) = _
    rw [(eqg_i).h, decide_eq_decide]; simp⟩
instance okg_o : OkG oV 0 := ⟨fun x => by cases x <;> (unfold okD; rfl)⟩
instance inv_o {l : List (Option Int)} : InV .non (l.map oV) (decide (none ∈ l)) := ⟨(inv_of (g := oV) (x := none)).h.trans (decide_eq_decide.mpr Iff.rfl)⟩
instance setz_o {l : List (Option Int)} {i b : Int} : SetZ (l.map oV) i (.int b) (0 ≤ i ∧ i < l.length) ((l.set i.toNat (some b)).map oV) := ⟨fun h => ⟨i.toNat, by rw [List.length_map]; exact ixN_of h.1 h.2, by rw [List.map_set]⟩⟩
end VI
namespace VI
open PySem PySem.Spec PyProof.Rows L2
/-! ### what many laws want -/
theorem lt_eq {G : GE} {own : List Nat} {pt : Pat} {ts : IEs} {e : IE} {k : Nat} {als : List Nat} {fr0 : Fr} {v w w' : PV} (h : LT G own pt ts e k als fr0 v (some w)) (e' : w = w') : LT G own pt ts e k als fr0 v (some w') := e' ▸ h
theorem lt_eqO {G : GE} {own : List Nat} {pt : Pat} {ts : IEs} {e : IE} {k : Nat} {als : List Nat} {fr0 : Fr} {v : PV} {w w' : Option PV} (h : LT G own pt ts e k als fr0 v w) (e' : w = w') : LT G own pt ts e k als fr0 v w' := e' ▸ h
noncomputable def dB (P : Prop) : Bool := @decide P (Classical.propDecidable P)
theorem dB_iff {P : Prop} : dB P = true ↔ P := by unfold dB; exact @decide_eq_true_iff _ (Classical.propDecidable _)
theorem dB_t {P : Prop} (h : P) : dB P = true := dB_iff.mpr h
theorem dB_f {P : Prop} (h : ¬ P) : dB P = false := by rw [Bool.eq_false_iff]; exact fun z => h (dB_iff.mp z)
/-- steps as they are drawn -/
def SOk (s : Stp) : Prop := s.ts.length ≤ 1000
theorem dep_symm (s t : Stp) : dep s t = dep t s := by
  unfold dep
  rw [Bool.eq_iff_iff]
  simp only [Bool.or_eq_true, decide_eq_true_eq, List.any_eq_true]
  constructor
  · rintro (h | ⟨x, h1, h2⟩)
    · exact .inl h.symm
    · exact .inr ⟨x, h2, h1⟩
  · rintro (h | ⟨x, h1, h2⟩)
    · exact .inl h.symm
    · exact .inr ⟨x, h2, h1⟩
abbrev ssV (ss : List Stp) : PV := .lst (ss.map stV)
instance : Inhabited OS := ⟨⟨PySem.Str.ofString "", ⟨by decide +kernel⟩⟩⟩
instance : Inhabited Stp := ⟨⟨default, default, []⟩⟩
def SsOk (ss : List Stp) : Prop := ss.length ≤ 24 ∧ ∀ s ∈ ss, SOk s
theorem SsOk.g {ss : List Stp} (h : SsOk ss) {k : Nat} (hk : k < ss.length) : SOk (ss.getD k default) := by
  rw [List.getD_eq_getElem?_getD, List.getElem?_eq_getElem hk]; exact h.2 _ (List.getElem_mem hk)
abbrev dpI (ss : List Stp) (x y : Int) : Bool := dep (ss.getD x.toNat default) (ss.getD y.toNat default)
@[reducible] def pl : PV → Bool
  | .non => true | .bl _ => true | .int _ => true | .str _ => true | .lst _ => true | .tup _ => true
  | _ => false
@[reducible] def isW : PV → Bool
  | .int _ => true
  | _ => false
def Pls (vs : List PV) : Prop := vs.length ≤ 1000 ∧ ∀ x ∈ vs, pl x = true
theorem all_int {vs : List PV} (h : ∀ x ∈ vs, isW x = true) : ∃ ns : List Int, vs = ns.map PV.int := by
  induction vs with
  | nil => exact ⟨[], rfl⟩
  | cons v vs ih =>
    obtain ⟨ns, e⟩ := ih fun x hx => h x (List.mem_cons_of_mem _ hx)
    have := h v List.mem_cons_self
    cases v <;> first | (cases this; done) | exact ⟨_ :: ns, by rw [List.map_cons, e]⟩
/-- a paper -/
structure Pp (v : PV) : Prop where
  p : pl v = true
  l : ∀ vs, v = .lst vs → Pls vs
inductive Pk : PV → Prop
  | pkI {ns : List Int} (h : ns.length ≤ 1000) : Pk (li ns)
  | pkO {vs : List PV} (h : Pls vs) (n : (vs.map isW).all id = false) : Pk (.lst vs)
  | pkN {v : PV} (h : pl v = true) (n : ∀ vs, v ≠ .lst vs) : Pk v
theorem Pp.k {v : PV} (h : Pp v) : Pk v := by
  by_cases c : ∃ vs, v = .lst vs
  · obtain ⟨vs, rfl⟩ := c
    have hp := h.l vs rfl
    cases e : (vs.map isW).all id with
    | false => exact .pkO hp e
    | true =>
      simp only [List.all_map, List.all_eq_true, Function.comp, id] at e
      obtain ⟨ns, rfl⟩ := all_int e
      exact .pkI (by simpa using hp.1)
  · exact .pkN h.p fun vs z => c ⟨vs, z⟩
theorem pls_li {ns : List Int} (h : ns.length ≤ 1000) : Pls (ns.map PV.int) := ⟨by simpa using h, fun x hx => by obtain ⟨b, _, rfl⟩ := List.mem_map.mp hx; rfl⟩
theorem pp_li {ns : List Int} (h : ns.length ≤ 1000) : Pp (li ns) := ⟨rfl, fun vs e => by cases e; exact pls_li h⟩
theorem ints_isW (bs : List Int) : ((bs.map PV.int).map isW).all id = true := by simp
/-- whole numbers, and which -/
def asI : PV → Option (List Int)
  | .lst vs => if (vs.map isW).all id = true then asInts vs else none
  | _ => none
theorem asI_li {ns : List Int} : asI (li ns) = some ns := by
  show (if ((ns.map PV.int).map isW).all id = true then asInts (ns.map PV.int) else none) = _
  rw [if_pos (ints_isW ns), asInts_map]
theorem asI_other {vs : List PV} (n : (vs.map isW).all id = false) : asI (.lst vs) = none := by
  show (if (vs.map isW).all id = true then asInts vs else none) = _
  rw [n, if_neg Bool.false_ne_true]
theorem asI_non {v : PV} (n : ∀ vs, v ≠ .lst vs) : asI v = none := by
  unfold asI
  split
  · exact absurd rfl (n _)
  · rfl
def inR (m : Int) (ns : List Int) : Bool := (ns.map fun x => decide (0 ≤ x) && decide (x < m)).all id
theorem inR_iff {m : Int} {ns : List Int} : inR m ns = true ↔ ∀ x ∈ ns, 0 ≤ x ∧ x < m := by
  unfold inR
  simp only [List.all_map, List.all_eq_true, Function.comp, id, Bool.and_eq_true, decide_eq_true_eq]
def risB (ns : List Int) : Bool := ((List.range (ns.length - 1)).map fun k => decide (ns.getD k 0 < ns.getD (k + 1) 0)).all id
theorem risB_iff {ns : List Int} : risB ns = true ↔ ∀ k : Nat, k + 1 < ns.length → ns.getD k 0 < ns.getD (k + 1) 0 := by
  unfold risB
  simp only [List.all_map, List.all_eq_true, List.mem_range, Function.comp, id, decide_eq_true_eq]
  exact ⟨fun h k hk => h k (by omega), fun h k hk => h k (by omega)⟩
/-- a place -/
@[reducible] def isX (m : Int) : PV → Bool
  | .int x => decide (0 ≤ x) && decide (x < m)
  | _ => false
theorem getD_of {l : List Int} {k : Nat} {x : Int} (h : l[k]? = some x) : l.getD k 0 = x ∧ k < l.length := by
  obtain ⟨a, b⟩ := getD_some h
  exact ⟨a, b⟩
instance ints_nl {l : List Nat} : Ints (l.map fun x : Nat => PV.int (x : Int)) (l.map fun x : Nat => (x : Int)) := ⟨by rw [List.map_map]; rfl⟩
abbrev nl (l : List Nat) : PV := .lst (l.map fun x : Nat => PV.int (x : Int))
theorem srt_in {l : List Int} {n : Nat} (h : srtI l = rgI 0 n) : (∀ x ∈ l, 0 ≤ x ∧ x < n) ∧ l.length = n := by
  have p := srtI_perm l
  rw [h] at p
  refine ⟨fun x hx => ?_, ?_⟩
  · have := rgI_mem (p.mem_iff.mpr hx)
    omega
  · rw [← p.length_eq, rgI_length]
theorem gD {l : List Int} {k : Nat} (h : k < l.length) : l.getD k 0 ∈ l := by
  rw [List.getD_eq_getElem?_getD, List.getElem?_eq_getElem h]; exact List.getElem_mem h
theorem hs_os {x y : OS} : (x.1 = y.1) = (x = y) := propext ⟨Subtype.ext, fun z => by rw [z]⟩
theorem rgI_rev {lo x : Int} {n k : Nat} (h : (rgI lo n).reverse[k]? = some x) : x = lo + n - 1 - k ∧ k < n := by
  have hk : k < n := by
    have := lt_of_some h
    rwa [List.length_reverse, rgI_length] at this
  rw [List.getElem?_reverse (by rw [rgI_length]; exact hk), rgI_length] at h
  unfold rgI at h
  rw [List.getElem?_map, List.getElem?_range (by omega)] at h
  have h : lo + ((n - 1 - k : Nat) : Int) = x := Option.some.inj h
  exact ⟨by omega, hk⟩
class ElN (al : List Nat) (t : Bool) : Prop where
  h : t = true ∨ al = []
instance eln_t {al : List Nat} : ElN al true := ⟨.inl rfl⟩
instance eln_n {t : Bool} : ElN [] t := ⟨.inr rfl⟩
section
variable {G : GE} {fr fr1 fr2 fr3 : Fr} {as : ISs} {bs : List ISs} {Q : Fr → Fl → Prop}
/-- xs.extend(e) -/
theorem sk_ext {i : Nat} {e : IE} {m p0 n k : Nat} {al : List Nat} {t p q0 : Bool} {vs vs0 us ws : List PV} {C : Prop} [g0 : GetF fr i (some ⟨p0, q0, .lst vs0⟩)] [g : WEc G e fr C fr1 ⟨.lst us, m, al, t⟩] [el : ElN al t] [g2 : GetF fr1 i (some ⟨1, p, .lst vs⟩)] [l : Len vs n] [l2 : Len us k] [jn : Join vs us ws] [s : SetF fr1 i (some ⟨1, p, .lst ws⟩) fr3] (c : C) (hn : n + k ≤ 16777216) (h : SK G (as :: bs) fr3 Q) :
    SK G (.cons (.ext i e) as :: bs) fr Q :=
  sk_next (by
    rw [evS, if_neg (by unfold isLAt; rw [g0.h]; exact Bool.noConfusion), g.h c]
    simp only [Option.bind_some]
    rw [if_pos el.h, g2.h]
    simp only
    rw [if_pos ⟨trivial, by rw [l.h, l2.h]; exact hn⟩, jn.h, s.h]) h
end
instance : PKd .index .flat := ⟨rfl⟩
instance : PKd .join .flat := ⟨rfl⟩
theorem ixP_i {x : Int} : ∀ {l : List Int} {k : Nat}, x ∈ l → ixP (.int x) (l.map PV.int) k = some (k + l.idxOf x)
  | [], _, h => nomatch h
  | y :: l, k, h => by
    rw [List.map_cons]
    unfold ixP
    rw [show pvEq (.int y) (.int x) = decide (y = x) from eqg_i.h y x]
    by_cases c : y = x
    · rw [if_pos (decide_eq_true c), c, List.idxOf_cons_self]; rfl
    · rw [if_neg (by simpa using c), ixP_i (l := l) (tl h c), List.idxOf_cons, show (y == x) = false by simpa using c]
      simp only [cond_false]
      congr 1
      omega
where
  tl {x y : Int} {l : List Int} (h : x ∈ y :: l) (c : ¬ y = x) : x ∈ l := by
    rcases List.mem_cons.mp h with h | h
    · exact absurd h.symm c
    · exact h
instance pfc_index {l : List Int} {x : Int} : PFc .index [.lst (l.map PV.int), .int x] (x ∈ l) (.int ((l.idxOf x : Nat) : Int)) := ⟨fun h => by
  show (if (plainB (.int x) && (l.map PV.int).all plainB) = true then (ixP (.int x) (l.map PV.int) 0).map fun (k : Nat) => PV.int (k : Int) else none) = _
  have e : (l.map PV.int).all plainB = true := by rw [List.all_map, List.all_eq_true]; intro y _; rfl
  rw [e]
  show (ixP (.int x) (l.map PV.int) 0).map (fun (k : Nat) => PV.int (k : Int)) = _
  rw [ixP_i h, Nat.zero_add]
  rfl⟩
theorem asStrs_map (l : List PySem.Str) : asStrs (l.map PV.str) = some l := by
  induction l with
  | nil => rfl
  | cons a l ih => rw [List.map_cons]; unfold asStrs; rw [ih]; rfl
instance pfc_join {s : PySem.Str} {l : List PySem.Str} : PFc .join [.str s, .lst (l.map PV.str)] ((l.map (·.length)).sum + l.length * s.length ≤ 16777216) (.str (Txt.join s l)) := ⟨fun h => by
  show pvJoin (.str s) (.lst (l.map PV.str)) = _
  unfold pvJoin
  simp only
  rw [asStrs_map]
  simp only
  rw [if_pos h]⟩
end VI
local macro_rules | `(tactic| walk_at "vstep") => `(tactic| (refine VI.sk_ext ?c ?n ?h; (case c => walk_at "vside"); (case n => walk_at "vside")))
namespace VI
open PySem PySem.Spec PyProof.Rows L2
/-! ### strings -/
def ltS (x y : Str) : Bool := decide (x.cps.toList < y.cps.toList)
instance pf_ltS {x y : Str} : PF .lt [.str x, .str y] (.bl (ltS x y)) := ⟨rfl⟩
instance pf_leS {x y : Str} : PF .le [.str x, .str y] (.bl (!ltS y x)) := ⟨rfl⟩
instance pf_gtS {x y : Str} : PF .gt [.str x, .str y] (.bl (ltS y x)) := ⟨rfl⟩
instance pf_geS {x y : Str} : PF .ge [.str x, .str y] (.bl (!ltS x y)) := ⟨rfl⟩
instance pfc_lenStr {s : Str} : PFc .len [.str s] (s.length ≤ 16777216) (.int s.length) := ⟨fun h => by
  show (if s.length ≤ sizeLine then some (PV.int s.length) else none) = _
  rw [if_pos (by rw [sizeLine_eq]; exact h)]⟩
instance pf_inS {c : Nat} {z : Str} : PF .isIn [.str ⟨#[c]⟩, .str z] (.bl (decide (c ∈ z.cps.toList))) := ⟨rfl⟩
instance pf_notInS {c : Nat} {z : Str} : PF .notIn [.str ⟨#[c]⟩, .str z] (.bl (!decide (c ∈ z.cps.toList))) := ⟨rfl⟩
/-- a string's letter -/
def chS (s : Str) (k : Nat) : Str := ⟨#[s.cps.toList.getD k 0]⟩
theorem len_cps {s : Str} : s.cps.toList.length = s.length := by
  rw [Array.length_toList]; rfl
instance (priority := 40) pfc_idxS {s : Str} {i : Int} : PFc .idx [.str s, .int i] ((0 ≤ i ∧ i < s.length) ∧ s.length ≤ 16777216) (.str (chS s i.toNat)) := ⟨fun h => by
  show (if s.length ≤ sizeLine then (L2.atI s.cps.toList i).map fun c => PV.str ⟨#[c]⟩ else none) = _
  rw [if_pos (by rw [sizeLine_eq]; exact h.2)]
  have e : L2.ixN s.cps.toList.length i = some i.toNat := ixN_of h.1.1 (by rw [len_cps]; exact h.1.2)
  unfold L2.atI
  rw [e]
  have hk : i.toNat < s.cps.toList.length := by rw [len_cps]; omega
  show (s.cps.toList[i.toNat]?).map _ = _
  rw [List.getElem?_eq_getElem hk]
  unfold chS
  rw [List.getD_eq_getElem?_getD, List.getElem?_eq_getElem hk]
  rfl⟩
instance (priority := 40) pfc_addS {a b : Str} : PFc .add [.str a, .str b] (a.length + b.length ≤ 16777216) (.str (a ++ b)) := ⟨fun h => by
  show (if a.length + b.length ≤ sizeLine then some (PV.str (a ++ b)) else none) = _
  rw [if_pos (by rw [sizeLine_eq]; exact h)]⟩
/-- a string's beginning -/
def tkS (s : Str) (n : Nat) : Str := ⟨(s.cps.toList.take n).toArray⟩
def dpS (s : Str) (n : Nat) : Str := ⟨(s.cps.toList.drop n).toArray⟩
instance pfc_sl01S {s : Str} {j : Int} : PFc (.sl false true) [.str s, .int j] (0 ≤ j ∧ s.length ≤ 16777216) (.str (tkS s j.toNat)) := ⟨fun h => by
  show (if s.length ≤ sizeLine then some (PV.str (cutS s none (some j))) else none) = _
  rw [if_pos (by rw [sizeLine_eq]; exact h.2)]
  unfold cutS tkS
  rw [sIx_none_lo, sIx_pos h.1, List.drop_zero, Nat.sub_zero]
  by_cases z : j.toNat ≤ s.length
  · rw [Nat.min_eq_left z]
  · rw [Nat.min_eq_right (by omega), List.take_of_length_le (by rw [len_cps]; omega), List.take_of_length_le (by rw [len_cps]; omega)]⟩
instance pfc_sl10S {s : Str} {j : Int} : PFc (.sl true false) [.str s, .int j] (0 ≤ j ∧ s.length ≤ 16777216) (.str (dpS s j.toNat)) := ⟨fun h => by
  show (if s.length ≤ sizeLine then some (PV.str (cutS s (some j) none)) else none) = _
  rw [if_pos (by rw [sizeLine_eq]; exact h.2)]
  unfold cutS dpS
  rw [sIx_none_hi, sIx_pos h.1]
  by_cases z : j.toNat ≤ s.length
  · rw [Nat.min_eq_left z, List.take_of_length_le (by rw [List.length_drop, len_cps]; omega)]
  · rw [Nat.min_eq_right (by omega), Nat.sub_self, List.take_zero, List.drop_eq_nil_of_le (by rw [len_cps]; omega)]⟩
/-! sorted names -/
def insO (x : OS) : List OS → List OS
  | [] => [x]
  | y :: l => if y.1.cps.toList < x.1.cps.toList then y :: insO x l else x :: y :: l
def srtO : List OS → List OS
  | [] => []
  | x :: l => insO x (srtO l)
theorem insO_map (x : OS) : ∀ l : List OS, (insO x l).map (·.1) = insS x.1 (l.map (·.1))
  | [] => rfl
  | y :: l => by
    unfold insO
    rw [List.map_cons, insS]
    split
    · rw [List.map_cons, insO_map x l]
    · rfl
theorem srtO_map : ∀ l : List OS, (srtO l).map (·.1) = srtS (l.map (·.1))
  | [] => rfl
  | x :: l => by rw [srtO, insO_map, srtO_map l]; rfl
theorem insO_perm (x : OS) : ∀ l : List OS, (insO x l).Perm (x :: l)
  | [] => .refl _
  | y :: l => by
    unfold insO
    split
    · exact ((insO_perm x l).cons y).trans (.swap x y l)
    · exact .refl _
theorem srtO_perm : ∀ l : List OS, (srtO l).Perm l
  | [] => .refl _
  | x :: l => (insO_perm x _).trans ((srtO_perm l).cons x)
theorem srtO_asc (l : List OS) : (srtO l).Pairwise fun x y => leS x.1 y.1 := by
  have h := srtS_asc (l.map (·.1))
  rw [← srtO_map, List.pairwise_map] at h
  exact h
theorem srtO_lt {l : List OS} (h : l.Nodup) : (srtO l).Pairwise fun x y => ltS x.1 y.1 = true := by
  have h1 := srtO_asc l
  have h2 : (srtO l).Nodup := (srtO_perm l).nodup_iff.mpr h
  refine List.Pairwise.imp₂ (fun a b h3 h4 => ?_) h1 h2
  unfold ltS
  rw [decide_eq_true_eq]
  refine Classical.byContradiction fun c => h4 (Subtype.ext ?_)
  exact leS_anti h3 c
theorem asStrs_sv (l : List OS) : asStrs (l.map sv) = some (l.map (·.1)) := by
  induction l with
  | nil => rfl
  | cons a l ih => rw [List.map_cons]; unfold asStrs; rw [ih]; rfl
instance pfc_sortedO {l : List OS} : PFc .sorted [.lst (l.map sv)] (l.length < 64) (.lst ((srtO l).map sv)) := ⟨fun h => by
  show pvSorted (.lst (l.map sv)) = _
  unfold pvSorted
  simp only
  cases l with
  | nil => rfl
  | cons a l =>
    have e : asInts ((a :: l).map sv) = none := rfl
    rw [e]
    simp only
    rw [asStrs_sv]
    simp only [Option.bind_some]
    rw [if_pos (by rw [List.length_map]; exact h), ← srtO_map, List.map_map]
    rfl⟩
/-! strings put together -/
theorem ap_cps (a b : Str) : (a ++ b).cps.toList = a.cps.toList ++ b.cps.toList := by
  show (a.cps ++ b.cps).toList = _
  rw [Array.toList_append]
theorem join0 : ∀ (l : List Str), (Txt.join (Str.ofString "") l).cps.toList = (l.map fun x => x.cps.toList).flatten
  | [] => rfl
  | a :: l => by
    have key : ∀ (l : List Str) (acc : Array Nat), (l.foldl (fun acc p => acc ++ (Str.ofString "").cps ++ p.cps) acc).toList = acc.toList ++ (l.map fun x => x.cps.toList).flatten := by
      intro l
      induction l with
      | nil => intro acc; simp
      | cons b l ih =>
        intro acc
        rw [List.foldl_cons, ih]
        have e0 : (Str.ofString "").cps = #[] := by decide +kernel
        rw [e0]
        simp
    show (List.foldl (fun acc p => acc ++ (Str.ofString "").cps ++ p.cps) a.cps l).toList = _
    rw [key]
    rfl
theorem strOk_iff {s : Str} : PyData.strOk s = true ↔ ∀ c ∈ s.cps.toList, c < 1114112 := by
  unfold PyData.strOk
  rw [Array.all_eq_true_iff_forall_mem]
  simp
end VI
namespace VI
open PySem PySem.Spec PyProof.Rows L2
/-! ### comprehensions whose own names were bound before -/
theorem wipe_len {fr : Fr} : ∀ {own : List Nat}, (wipeF fr own).length = fr.length
  | [] => rfl
  | i :: is => by rw [wipeF, List.length_set, wipe_len]
theorem back_len {f fr : Fr} : ∀ {own : List Nat}, (backF f fr own).length = fr.length
  | [] => rfl
  | i :: is => by rw [backF, List.length_set, back_len]
theorem wipe_get {fr : Fr} {k : Nat} : ∀ {own : List Nat}, k ∉ own → (wipeF fr own)[k]? = fr[k]?
  | [], _ => rfl
  | i :: is, h => by
    rw [wipeF, List.getElem?_set_ne (fun e => h (by rw [e]; exact List.mem_cons_self)), wipe_get fun z => h (List.mem_cons_of_mem _ z)]
theorem back_get {f fr : Fr} {k : Nat} : ∀ {own : List Nat}, (backF f fr own)[k]? = if k ∈ own ∧ k < fr.length then some ((f[k]?).join) else fr[k]?
  | [] => by rw [if_neg (fun z => nomatch z.1)]; rfl
  | i :: is => by
    rw [backF, List.getElem?_set]
    by_cases c : i = k
    · subst c
      rw [if_pos rfl, back_len]
      by_cases d : i < fr.length
      · rw [if_pos d, if_pos ⟨List.mem_cons_self, d⟩]
      · rw [if_neg d, if_neg fun z => d z.2, List.getElem?_eq_none (by omega)]
    · rw [if_neg c, back_get]
      by_cases d : k ∈ is ∧ k < fr.length
      · rw [if_pos d, if_pos ⟨List.mem_cons_of_mem _ d.1, d.2⟩]
      · rw [if_neg d, if_neg fun z => d ⟨(List.mem_cons.mp z.1).elim (fun e => absurd e.symm c) id, z.2⟩]
theorem back_congr {f fr fr' : Fr} {own : List Nat} (h : wipeF fr own = wipeF fr' own) : backF f fr own = backF f fr' own := by
  have hl : fr.length = fr'.length := by rw [← wipe_len (own := own), h, wipe_len]
  refine List.ext_getElem? fun k => ?_
  rw [back_get, back_get, hl]
  by_cases c : k ∈ own
  · by_cases d : k < fr'.length
    · rw [if_pos ⟨c, d⟩, if_pos ⟨c, d⟩]
    · rw [if_neg fun z => d z.2, if_neg fun z => d z.2, List.getElem?_eq_none (by omega), List.getElem?_eq_none (by omega)]
  · rw [if_neg fun z => c z.1, if_neg fun z => c z.1, ← wipe_get c, h, wipe_get c]
section
variable {G : GE}
theorem lc_stB {own : List Nat} {pt : Pat} {it : IT} {ts : IEs} {e : IE} {k : Nat} {als : List Nat} {fr fr1 : Fr} {vs : List PV} {src : List Nat} {C : Prop} [w : WIc G it fr C fr1 vs src []] (c : C) (d1 : disj src (mutdL ts ++ mutd e) = true) (d2 : disj als (mutdL ts ++ mutd e) = true) (hz : vs.length ≤ 16777216)
    {S : Type} (st : S → Fr) (I : Nat → S → List PV → Prop) (s0 : S) (h0 : wipeF fr1 own = st s0) (i0 : I 0 s0 [])
    (h : ∀ (n : Nat) v s acc, vs[n]? = some v → I n s acc → ∃ r s', LTs G own pt ts e k als (st s) v r (st s') ∧ wipeF (st s') own = st s' ∧ I (n + 1) s' (acc ++ r.toList)) (w0 : wipeF (st s0) own = st s0) :
    ∃ s acc, WV G (.lc own pt it ts e k als) fr (backF fr1 (st s) own) ⟨.lst acc, k, als, false⟩ ∧ I vs.length s acc ∧ acc.length ≤ vs.length := by
  have tw : ∀ v fr2 fr3, wipeF fr2 own = wipeF fr3 own → lcTurn G own pt ts e k als v fr2 = lcTurn G own pt ts e k als v fr3 := fun v fr2 fr3 e => by
    unfold lcTurn
    rw [e]
  have key : ∀ (m n : Nat) (s : S) (fr2 : Fr) (acc : List PV), vs.length - n = m → n ≤ vs.length → wipeF fr2 own = st s → wipeF (st s) own = st s → I n s acc → acc.length ≤ n → ∃ s' fr6 acc', lcGo (lcTurn G own pt ts e k als) (vs.drop n) fr2 acc = some (fr6, acc') ∧ wipeF fr6 own = st s' ∧ wipeF (st s') own = st s' ∧ I vs.length s' acc' ∧ acc'.length ≤ vs.length := by
    intro m
    induction m with
    | zero =>
      intro n s fr2 acc hm hn hw hs i ha
      have : n = vs.length := by omega
      subst this
      refine ⟨s, fr2, acc, ?_, hw, hs, i, ha⟩
      rw [List.drop_length]
      rfl
    | succ m ih =>
      intro n s fr2 acc hm hn hw hs i ha
      have hn' : n < vs.length := by omega
      obtain ⟨r, s', ⟨fr5, h2, h3⟩, h5, h4⟩ := h n vs[n] s acc (List.getElem?_eq_getElem hn') i
      rw [List.drop_eq_getElem_cons hn', lcGo_cons, tw _ fr2 (st s) (by rw [hw, hs]), h2]
      simp only [Option.bind_some]
      cases r with
      | none =>
        obtain ⟨s2, fr6, acc', a, b, b2, c, d⟩ := ih (n + 1) s' fr5 acc (by omega) (by omega) h3 h5 (by simpa using h4) (by omega)
        exact ⟨s2, fr6, acc', a, b, b2, c, d⟩
      | some x =>
        have hsz : acc.length < sizeLine := Nat.lt_of_lt_of_le (Nat.lt_of_le_of_lt ha hn') hz
        simp only
        rw [if_pos hsz]
        exact ih (n + 1) s' fr5 (acc ++ [x]) (by omega) (by omega) h3 h5 h4 (by rw [List.length_append, List.length_singleton]; omega)
  obtain ⟨s, fr6, acc, a, b, b2, c', d⟩ := key vs.length 0 s0 fr1 [] rfl (Nat.zero_le _) h0 w0 i0 (Nat.le_refl _)
  refine ⟨s, acc, ⟨?_⟩, c', d⟩
  rw [evE_lc, w.h c]
  simp only [Option.bind_some]
  rw [if_pos (by rw [d1, d2]; rfl)]
  rw [List.drop_zero] at a
  rw [a]
  simp only [Option.bind_some]
  rw [back_congr (b.trans b2.symm)]
end
end VI
namespace VI
/-- the statements behind the first n -/
def dropIS : Nat → ISs → ISs
  | 0, s => s
  | _ + 1, .nil => .nil
  | n + 1, .cons _ s => dropIS n s
end VI
namespace VI
open PySem PySem.Spec PyProof.Rows L2
/-! ### lists of places -/
abbrev nI (x : Nat) : PV := PV.int (x : Int)
instance eqg_n : EqG (fun x : Nat => PV.int (x : Int)) := ⟨fun x y => by
  show pvEq (.int x) (.int y) = _
  rw [eqg_i.h, decide_eq_decide]; omega⟩
instance okg_n : OkG (fun x : Nat => PV.int (x : Int)) 0 := ⟨fun x => by unfold okD; rfl⟩
instance inv_n1 {x : Nat} {l : List Nat} : InV (.int (x : Int)) (l.map fun x : Nat => PV.int (x : Int)) (decide (x ∈ l)) := ⟨(inv_of (g := fun x : Nat => PV.int (x : Int)) (x := x)).h.trans (decide_eq_decide.mpr Iff.rfl)⟩
instance snoc_n1 {x : Nat} {l : List Nat} : Snoc (l.map fun x : Nat => PV.int (x : Int)) (.int (x : Int)) ((l ++ [x]).map fun x : Nat => PV.int (x : Int)) := ⟨by rw [List.map_append]; rfl⟩
instance join_n1 {x : Nat} {l : List Nat} : Join (l.map fun x : Nat => PV.int (x : Int)) [.int (x : Int)] ((l ++ [x]).map fun x : Nat => PV.int (x : Int)) := ⟨by rw [List.map_append]; rfl⟩
instance join_1n {x : Nat} {l : List Nat} : Join [.int (x : Int)] (l.map fun x : Nat => PV.int (x : Int)) ((x :: l).map fun x : Nat => PV.int (x : Int)) := ⟨rfl⟩
instance flg_n {m : Nat} : FlG (fun x : Nat => PV.int (x : Int)) m := ⟨fun _ => by unfold flatM; rfl⟩
theorem nl_li (l : List Nat) : (l.map fun x : Nat => PV.int (x : Int)) = (l.map fun x : Nat => (x : Int)).map PV.int := by rw [List.map_map]; rfl
theorem idxOf_cast {x : Nat} : ∀ {l : List Nat}, (l.map fun x : Nat => (x : Int)).idxOf (x : Int) = l.idxOf x
  | [] => rfl
  | y :: l => by
    rw [List.map_cons, List.idxOf_cons, List.idxOf_cons, idxOf_cast]
    by_cases c : y = x
    · subst c; simp
    · rw [show ((y : Int) == (x : Int)) = false by simpa using (by omega : ¬ (y : Int) = x), show (y == x) = false by simpa using c]
instance pfc_indexN {l : List Nat} {x : Nat} : PFc .index [.lst (l.map fun x : Nat => PV.int (x : Int)), .int (x : Int)] (x ∈ l) (.int ((l.idxOf x : Nat) : Int)) := ⟨fun h => by
  rw [nl_li, (pfc_index (l := l.map fun x : Nat => (x : Int)) (x := (x : Int))).h (List.mem_map.mpr ⟨x, h, rfl⟩), idxOf_cast]⟩
instance eqg_nl : EqG (fun l : List Nat => PV.lst (l.map fun x : Nat => PV.int (x : Int))) := ⟨fun x y => by
  show pvEqs _ _ = _
  exact pvEqs_map x y⟩
instance okg_nl : OkG (fun l : List Nat => PV.lst (l.map fun x : Nat => PV.int (x : Int))) 1 := ⟨fun l => by
  have h1 : OkV (nl l) 1 := inferInstance
  exact h1.h⟩
instance inv_nl {x : List Nat} {l : List (List Nat)} : InV (.lst (x.map fun x : Nat => PV.int (x : Int))) (l.map fun l : List Nat => PV.lst (l.map fun x : Nat => PV.int (x : Int))) (decide (x ∈ l)) := ⟨(inv_of (g := fun l : List Nat => PV.lst (l.map fun x : Nat => PV.int (x : Int))) (x := x)).h.trans (decide_eq_decide.mpr Iff.rfl)⟩
instance snoc_nl {x : List Nat} {l : List (List Nat)} : Snoc (l.map fun l : List Nat => PV.lst (l.map fun x : Nat => PV.int (x : Int))) (.lst (x.map fun x : Nat => PV.int (x : Int))) ((l ++ [x]).map fun l : List Nat => PV.lst (l.map fun x : Nat => PV.int (x : Int))) := ⟨by rw [List.map_append]; rfl⟩
abbrev nll (l : List (List Nat)) : PV := .lst (l.map fun l : List Nat => PV.lst (l.map fun x : Nat => PV.int (x : Int)))
/-- sorted numbers beside places -/
instance eqv_ni {a : List Int} {b : List Nat} : EqV (.lst (a.map PV.int)) (.lst (b.map fun x : Nat => PV.int (x : Int))) (decide (a = b.map fun x : Nat => (x : Int))) := ⟨by
  rw [nl_li]
  show pvEqs _ _ = _
  exact pvEqs_map (g := PV.int) a _⟩
end VI
namespace Law
open PySem PySem.Spec PyProof.Rows L2 VI
def top (i : Nat) : Stmt := PySem.Challenge.pw_daybooktold_k59_hours_checked_and_earlie.main.body.getD i (.Pass ⟨0, 0, 0, 0⟩)
def XCs : List (Str × List Str × List Nat) := [((PySem.Str.ofString "BadHours"), [(PySem.Str.ofString "at")], [0]), ((PySem.Str.ofString "BadRests"), [], [1]), ((PySem.Str.ofString "TooShort"), [], [2]), ((PySem.Str.ofString "ShopError"), [], [0, 1, 2, 3])]
def XAs : List Str := [(PySem.Str.ofString "at")]
/-! ### _law_feed -/
def N__law_feed : List Str := [(PySem.Str.ofString "script")]
def fns__law_feed : List (Str × (Nat × List Nat × Bool)) := []
def cs__law_feed : List (Str × PV) := []
def bt__law_feed : List Str := [(PySem.Str.ofString "list")]
abbrev is__law_feed : ISs :=
 (.cons (.ret (.prim .lstD (.cons (.prim .list (.cons (.var 0) .nil)) (.cons (.cst (.int 0)) (.cons (.cst (.int 0)) (.cons (.cst (.int 1)) .nil))))))
 .nil)
theorem sc__law_feed : FnScope N__law_feed [(PySem.Str.ofString "script")] (defScope (top 12)) := ⟨rfl, rfl, rfl, by decide +kernel, rfl, by decide +kernel, by decide +kernel⟩
def im__law_feed : List Str := []
def sh__law_feed : List Str := []
abbrev cc__law_feed : CC := { N := N__law_feed, sc := defScope (top 12), fns := fns__law_feed, cs := cs__law_feed, bt := bt__law_feed, top := true, im := im__law_feed, sh := sh__law_feed }
theorem c__law_feed : cBlk (cS 60 cc__law_feed) (defBody (top 12)) = some is__law_feed := by kernel_rfl
noncomputable def den__law_feed : Den := denOf (Gs []) N__law_feed.length [0] is__law_feed
noncomputable abbrev G__law_feed : GE := Gs []
theorem i__law_feed {a0 : PV} {P : PV → Nat → List PV → Prop} (h : SK G__law_feed [is__law_feed] [sl a0] (RQ [0] P)) : ∃ v m outs, den__law_feed [a0] = some (v, m, outs) ∧ P v m outs := den_sk rfl rfl h
theorem iR__law_feed {a0 : PV} {v : PV} {m : Nat} {outs : List PV} (h : SK G__law_feed [is__law_feed] [sl a0] (RQ [0] fun a b c => a = v ∧ b = m ∧ c = outs)) : DenR den__law_feed [a0] v m outs := den_skR rfl rfl h
/-! ### _law_draw -/
def N__law_draw : List Str := [(PySem.Str.ofString "feed"), (PySem.Str.ofString "many"), (PySem.Str.ofString "mixed"), (PySem.Str.ofString "cell"), (PySem.Str.ofString "told")]
def fns__law_draw : List (Str × (Nat × List Nat × Bool)) := []
def cs__law_draw : List (Str × PV) := []
def bt__law_draw : List Str := [(PySem.Str.ofString "int"), (PySem.Str.ofString "len"), (PySem.Str.ofString "abs")]
abbrev is__law_draw : ISs :=
 (.cons (.ite (.and (.prim .eq (.cons (.prim .idx (.cons (.var 0) (.cons (.cst (.int 2)) .nil))) (.cons (.cst (.int 0)) .nil))) (.prim .lt (.cons (.prim .idx (.cons (.var 0) (.cons (.cst (.int 1)) .nil))) (.cons (.prim .len (.cons (.prim .idx (.cons (.var 0) (.cons (.cst (.int 0)) .nil))) .nil)) .nil)))) (.cons (.asg 3 (.prim .abs (.cons (.prim .int (.cons (.prim .idx (.cons (.prim .idx (.cons (.var 0) (.cons (.cst (.int 0)) .nil))) (.cons (.prim .idx (.cons (.var 0) (.cons (.cst (.int 1)) .nil))) .nil))) .nil)) .nil)))
  (.cons (.augi 0 .add (.cst (.int 1)) (.cst (.int 1)))
  (.cons (.ite (.prim .ge (.cons (.var 3) (.cons (.prim .pow (.cons (.cst (.int 10)) (.cons (.cst (.int 18)) .nil))) .nil))) (.cons (.seti 0 (.cst (.int 2)) (.var 3))
   .nil) (.cons (.seti 0 (.cst (.int 3)) (.prim .mod (.cons (.prim .int (.cons (.prim .add (.cons (.prim .add (.cons (.prim .mul (.cons (.prim .idx (.cons (.var 0) (.cons (.cst (.int 3)) .nil))) (.cons (.cst (.int 48271)) .nil))) (.cons (.prim .mul (.cons (.var 3) (.cons (.cst (.int 69621)) .nil))) .nil))) (.cons (.prim .idx (.cons (.var 0) (.cons (.cst (.int 1)) .nil))) .nil))) .nil)) (.cons (.cst (.int 2147483647)) .nil))))
   .nil))
  .nil))) .nil)
 (.cons (.ite (.prim .gt (.cons (.prim .idx (.cons (.var 0) (.cons (.cst (.int 2)) .nil))) (.cons (.cst (.int 0)) .nil))) (.cons (.asg 4 (.prim .mod (.cons (.prim .int (.cons (.prim .idx (.cons (.var 0) (.cons (.cst (.int 2)) .nil))) .nil)) (.cons (.var 1) .nil))))
  (.cons (.seti 0 (.cst (.int 2)) (.prim .fdiv (.cons (.prim .idx (.cons (.var 0) (.cons (.cst (.int 2)) .nil))) (.cons (.var 1) .nil))))
  (.cons (.ret (.var 4))
  .nil))) .nil)
 (.cons (.seti 0 (.cst (.int 3)) (.prim .mod (.cons (.prim .int (.cons (.prim .add (.cons (.prim .mul (.cons (.prim .idx (.cons (.var 0) (.cons (.cst (.int 3)) .nil))) (.cons (.cst (.int 16807)) .nil))) (.cons (.cst (.int 12345)) .nil))) .nil)) (.cons (.cst (.int 2147483647)) .nil))))
 (.cons (.asg 2 (.prim .mod (.cons (.prim .int (.cons (.prim .add (.cons (.prim .mul (.cons (.prim .idx (.cons (.var 0) (.cons (.cst (.int 3)) .nil))) (.cons (.prim .idx (.cons (.var 0) (.cons (.cst (.int 3)) .nil))) .nil))) (.cons (.prim .idx (.cons (.var 0) (.cons (.cst (.int 3)) .nil))) .nil))) .nil)) (.cons (.cst (.int 2147483629)) .nil))))
 (.cons (.ret (.prim .mod (.cons (.prim .fdiv (.cons (.var 2) (.cons (.cst (.int 11)) .nil))) (.cons (.var 1) .nil))))
 .nil)))))
theorem sc__law_draw : FnScope N__law_draw [(PySem.Str.ofString "feed"), (PySem.Str.ofString "many")] (defScope (top 13)) := ⟨rfl, rfl, rfl, by decide +kernel, rfl, by decide +kernel, by decide +kernel⟩
def im__law_draw : List Str := []
def sh__law_draw : List Str := []
abbrev cc__law_draw : CC := { N := N__law_draw, sc := defScope (top 13), fns := fns__law_draw, cs := cs__law_draw, bt := bt__law_draw, top := true, im := im__law_draw, sh := sh__law_draw }
theorem c__law_draw : cBlk (cS 60 cc__law_draw) (defBody (top 13)) = some is__law_draw := by kernel_rfl
noncomputable def den__law_draw : Den := denOf (Gs []) N__law_draw.length [1, 0] is__law_draw
noncomputable abbrev G__law_draw : GE := Gs []
theorem i__law_draw {a0 a1 : PV} {P : PV → Nat → List PV → Prop} (h : SK G__law_draw [is__law_draw] [some ⟨1, true, a0⟩, sl a1, none, none, none] (RQ [1, 0] P)) : ∃ v m outs, den__law_draw [a0, a1] = some (v, m, outs) ∧ P v m outs := den_sk rfl rfl h
theorem iR__law_draw {a0 a1 : PV} {v : PV} {m : Nat} {outs : List PV} (h : SK G__law_draw [is__law_draw] [some ⟨1, true, a0⟩, sl a1, none, none, none] (RQ [1, 0] fun a b c => a = v ∧ b = m ∧ c = outs)) : DenR den__law_draw [a0, a1] v m outs := den_skR rfl rfl h
/-! ### _law_step -/
def N__law_step : List Str := [(PySem.Str.ofString "feed"), (PySem.Str.ofString "hands"), (PySem.Str.ofString "things"), (PySem.Str.ofString "acts"), (PySem.Str.ofString "thick"), (PySem.Str.ofString "own"), (PySem.Str.ofString "thing")]
def fns__law_step : List (Str × (Nat × List Nat × Bool)) := [((PySem.Str.ofString "_law_draw"), (0, [1, 0], false))]
def cs__law_step : List (Str × PV) := []
def bt__law_step : List Str := [(PySem.Str.ofString "tuple"), (PySem.Str.ofString "len")]
abbrev lc0__law_step : IE :=
 (.lc [6] (.nm 6) (.seq (.var 2)) (.cons (.prim .eq (.cons (.call 0 [1, 0] false (.cons (.var 0) (.cons (.var 4) .nil))) (.cons (.cst (.int 0)) .nil))) .nil) (.var 6) 1 [])
abbrev is__law_step : ISs :=
 (.cons (.asg 5 lc0__law_step)
 (.cons (.ret (.prim .tupD (.cons (.prim .idx (.cons (.var 1) (.cons (.call 0 [1, 0] false (.cons (.var 0) (.cons (.prim .len (.cons (.var 1) .nil)) .nil))) .nil))) (.cons (.prim .idx (.cons (.var 3) (.cons (.call 0 [1, 0] false (.cons (.var 0) (.cons (.prim .len (.cons (.var 3) .nil)) .nil))) .nil))) (.cons (.prim .tuple (.cons (.prim (.sl false true) (.cons (.var 5) (.cons (.cst (.int 4)) .nil))) .nil)) .nil)))))
 .nil))
theorem sc__law_step : FnScope N__law_step [(PySem.Str.ofString "feed"), (PySem.Str.ofString "hands"), (PySem.Str.ofString "things"), (PySem.Str.ofString "acts"), (PySem.Str.ofString "thick")] (defScope (top 16)) := ⟨rfl, rfl, rfl, by decide +kernel, rfl, by decide +kernel, by decide +kernel⟩
def im__law_step : List Str := []
def sh__law_step : List Str := []
abbrev cc__law_step : CC := { N := N__law_step, sc := defScope (top 16), fns := fns__law_step, cs := cs__law_step, bt := bt__law_step, top := true, im := im__law_step, sh := sh__law_step }
theorem c__law_step : cBlk (cS 60 cc__law_step) (defBody (top 16)) = some is__law_step := by kernel_rfl
noncomputable def den__law_step : Den := denOf (Gs [den__law_draw]) N__law_step.length [1, 0, 0, 0, 0] is__law_step
noncomputable abbrev G__law_step : GE := Gs [den__law_draw]
theorem i__law_step {a0 a1 a2 a3 a4 : PV} {P : PV → Nat → List PV → Prop} (h : SK G__law_step [is__law_step] [some ⟨1, true, a0⟩, sl a1, sl a2, sl a3, sl a4, none, none] (RQ [1, 0, 0, 0, 0] P)) : ∃ v m outs, den__law_step [a0, a1, a2, a3, a4] = some (v, m, outs) ∧ P v m outs := den_sk rfl rfl h
theorem iR__law_step {a0 a1 a2 a3 a4 : PV} {v : PV} {m : Nat} {outs : List PV} (h : SK G__law_step [is__law_step] [some ⟨1, true, a0⟩, sl a1, sl a2, sl a3, sl a4, none, none] (RQ [1, 0, 0, 0, 0] fun a b c => a = v ∧ b = m ∧ c = outs)) : DenR den__law_step [a0, a1, a2, a3, a4] v m outs := den_skR rfl rfl h
/-! ### _law_steps -/
def N__law_steps : List Str := [(PySem.Str.ofString "feed"), (PySem.Str.ofString "many"), (PySem.Str.ofString "hands"), (PySem.Str.ofString "things"), (PySem.Str.ofString "acts"), (PySem.Str.ofString "thick"), (PySem.Str.ofString "k")]
def fns__law_steps : List (Str × (Nat × List Nat × Bool)) := [((PySem.Str.ofString "_law_step"), (0, [1, 0, 0, 0, 0], false)), ((PySem.Str.ofString "_law_draw"), (1, [1, 0], false))]
def cs__law_steps : List (Str × PV) := []
def bt__law_steps : List Str := [(PySem.Str.ofString "range"), (PySem.Str.ofString "sorted")]
abbrev lc0__law_steps : IE :=
 (.lc [6] (.nm 6) (.rng1 (.var 1)) .nil (.call 0 [1, 0, 0, 0, 0] false (.cons (.var 0) (.cons (.var 2) (.cons (.var 3) (.cons (.var 4) (.cons (.var 5) .nil)))))) 1 [2, 3, 4, 5])
abbrev is__law_steps : ISs :=
 (.cons (.asgT (.nm 2) (.prim (.sl false true) (.cons (.prim .lstD (.cons (.cst (.str (PySem.Str.ofString "ann"))) (.cons (.cst (.str (PySem.Str.ofString "bob"))) (.cons (.cst (.str (PySem.Str.ofString "cy"))) (.cons (.cst (.str (PySem.Str.ofString "dot"))) (.cons (.cst (.str (PySem.Str.ofString "annabell"))) .nil)))))) (.cons (.prim .add (.cons (.cst (.int 1)) (.cons (.call 1 [1, 0] false (.cons (.var 0) (.cons (.cst (.int 5)) .nil))) .nil))) .nil))))
 (.cons (.asgT (.nm 3) (.prim .sorted (.cons (.prim (.sl false true) (.cons (.prim .lstD (.cons (.cst (.str (PySem.Str.ofString "axe"))) (.cons (.cst (.str (PySem.Str.ofString "box"))) (.cons (.cst (.str (PySem.Str.ofString "cup"))) (.cons (.cst (.str (PySem.Str.ofString "dye"))) (.cons (.cst (.str (PySem.Str.ofString "axes"))) .nil)))))) (.cons (.call 1 [1, 0] false (.cons (.var 0) (.cons (.cst (.int 6)) .nil))) .nil))) .nil)))
 (.cons (.asgT (.nm 4) (.prim (.sl false true) (.cons (.prim .lstD (.cons (.cst (.str (PySem.Str.ofString "cut"))) (.cons (.cst (.str (PySem.Str.ofString "dry"))) (.cons (.cst (.str (PySem.Str.ofString "mend"))) (.cons (.cst (.str (PySem.Str.ofString "oil"))) .nil))))) (.cons (.prim .add (.cons (.cst (.int 1)) (.cons (.call 1 [1, 0] false (.cons (.var 0) (.cons (.cst (.int 4)) .nil))) .nil))) .nil))))
 (.cons (.asgT (.nm 5) (.prim .add (.cons (.cst (.int 2)) (.cons (.call 1 [1, 0] false (.cons (.var 0) (.cons (.cst (.int 4)) .nil))) .nil))))
 (.cons (.ret lc0__law_steps)
 .nil)))))
theorem sc__law_steps : FnScope N__law_steps [(PySem.Str.ofString "feed"), (PySem.Str.ofString "many")] (defScope (top 17)) := ⟨rfl, rfl, rfl, by decide +kernel, rfl, by decide +kernel, by decide +kernel⟩
def im__law_steps : List Str := []
def sh__law_steps : List Str := [(PySem.Str.ofString "hands"), (PySem.Str.ofString "things"), (PySem.Str.ofString "acts"), (PySem.Str.ofString "thick")]
abbrev cc__law_steps : CC := { N := N__law_steps, sc := defScope (top 17), fns := fns__law_steps, cs := cs__law_steps, bt := bt__law_steps, top := true, im := im__law_steps, sh := sh__law_steps }
theorem c__law_steps : cBlk (cS 60 cc__law_steps) (defBody (top 17)) = some is__law_steps := by kernel_rfl
noncomputable def den__law_steps : Den := denOf (Gs [den__law_step, den__law_draw]) N__law_steps.length [1, 0] is__law_steps
noncomputable abbrev G__law_steps : GE := Gs [den__law_step, den__law_draw]
theorem i__law_steps {a0 a1 : PV} {P : PV → Nat → List PV → Prop} (h : SK G__law_steps [is__law_steps] [some ⟨1, true, a0⟩, sl a1, none, none, none, none, none] (RQ [1, 0] P)) : ∃ v m outs, den__law_steps [a0, a1] = some (v, m, outs) ∧ P v m outs := den_sk rfl rfl h
theorem iR__law_steps {a0 a1 : PV} {v : PV} {m : Nat} {outs : List PV} (h : SK G__law_steps [is__law_steps] [some ⟨1, true, a0⟩, sl a1, none, none, none, none, none] (RQ [1, 0] fun a b c => a = v ∧ b = m ∧ c = outs)) : DenR den__law_steps [a0, a1] v m outs := den_skR rfl rfl h
/-! ### _law_hours -/
def N__law_hours : List Str := [(PySem.Str.ofString "feed"), (PySem.Str.ofString "many"), (PySem.Str.ofString "most"), (PySem.Str.ofString "least"), (PySem.Str.ofString "k")]
def fns__law_hours : List (Str × (Nat × List Nat × Bool)) := [((PySem.Str.ofString "_law_draw"), (0, [1, 0], false))]
def cs__law_hours : List (Str × PV) := []
def bt__law_hours : List Str := [(PySem.Str.ofString "range")]
abbrev lc0__law_hours : IE :=
 (.lc [4] (.nm 4) (.rng1 (.var 1)) .nil (.prim .add (.cons (.var 3) (.cons (.call 0 [1, 0] false (.cons (.var 0) (.cons (.prim .add (.cons (.prim .sub (.cons (.var 2) (.cons (.var 3) .nil))) (.cons (.cst (.int 1)) .nil))) .nil))) .nil))) 1 [])
abbrev is__law_hours : ISs :=
 (.cons (.asg 2 (.prim .idx (.cons (.prim .lstD (.cons (.cst (.int 1)) (.cons (.cst (.int 3)) (.cons (.cst (.int 9)) (.cons (.cst (.int 99)) .nil))))) (.cons (.call 0 [1, 0] false (.cons (.var 0) (.cons (.cst (.int 4)) .nil))) .nil))))
 (.cons (.asg 3 (.cst (.int 1)))
 (.cons (.ite (.prim .eq (.cons (.call 0 [1, 0] false (.cons (.var 0) (.cons (.cst (.int 6)) .nil))) (.cons (.cst (.int 0)) .nil))) (.cons (.asg 3 (.var 2))
  .nil) .nil)
 (.cons (.ret lc0__law_hours)
 .nil))))
theorem sc__law_hours : FnScope N__law_hours [(PySem.Str.ofString "feed"), (PySem.Str.ofString "many")] (defScope (top 19)) := ⟨rfl, rfl, rfl, by decide +kernel, rfl, by decide +kernel, by decide +kernel⟩
def im__law_hours : List Str := []
def sh__law_hours : List Str := []
abbrev cc__law_hours : CC := { N := N__law_hours, sc := defScope (top 19), fns := fns__law_hours, cs := cs__law_hours, bt := bt__law_hours, top := true, im := im__law_hours, sh := sh__law_hours }
theorem c__law_hours : cBlk (cS 60 cc__law_hours) (defBody (top 19)) = some is__law_hours := by kernel_rfl
noncomputable def den__law_hours : Den := denOf (Gs [den__law_draw]) N__law_hours.length [1, 0] is__law_hours
noncomputable abbrev G__law_hours : GE := Gs [den__law_draw]
theorem i__law_hours {a0 a1 : PV} {P : PV → Nat → List PV → Prop} (h : SK G__law_hours [is__law_hours] [some ⟨1, true, a0⟩, sl a1, none, none, none] (RQ [1, 0] P)) : ∃ v m outs, den__law_hours [a0, a1] = some (v, m, outs) ∧ P v m outs := den_sk rfl rfl h
theorem iR__law_hours {a0 a1 : PV} {v : PV} {m : Nat} {outs : List PV} (h : SK G__law_hours [is__law_hours] [some ⟨1, true, a0⟩, sl a1, none, none, none] (RQ [1, 0] fun a b c => a = v ∧ b = m ∧ c = outs)) : DenR den__law_hours [a0, a1] v m outs := den_skR rfl rfl h
/-! ### depends -/
def N_depends : List Str := [(PySem.Str.ofString "step"), (PySem.Str.ofString "other"), (PySem.Str.ofString "thing")]
def fns_depends : List (Str × (Nat × List Nat × Bool)) := []
def cs_depends : List (Str × PV) := []
def bt_depends : List Str := [(PySem.Str.ofString "any")]
abbrev lc0_depends : IE :=
 (.lc [2] (.nm 2) (.seq (.prim .idx (.cons (.var 0) (.cons (.cst (.int 2)) .nil)))) .nil (.prim .isIn (.cons (.var 2) (.cons (.prim .idx (.cons (.var 1) (.cons (.cst (.int 2)) .nil))) .nil))) 1 [])
abbrev is_depends : ISs :=
 (.cons (.ite (.prim .eq (.cons (.prim .idx (.cons (.var 0) (.cons (.cst (.int 0)) .nil))) (.cons (.prim .idx (.cons (.var 1) (.cons (.cst (.int 0)) .nil))) .nil))) (.cons (.ret (.cst (.bl true)))
  .nil) .nil)
 (.cons (.ret (.prim .any (.cons lc0_depends .nil)))
 .nil))
theorem sc_depends : FnScope N_depends [(PySem.Str.ofString "step"), (PySem.Str.ofString "other")] (defScope (top 6)) := ⟨rfl, rfl, rfl, by decide +kernel, rfl, by decide +kernel, by decide +kernel⟩
def im_depends : List Str := []
def sh_depends : List Str := []
abbrev cc_depends : CC := { N := N_depends, sc := defScope (top 6), fns := fns_depends, cs := cs_depends, bt := bt_depends, top := true, im := im_depends, sh := sh_depends }
theorem c_depends : cBlk (cS 60 cc_depends) (defBody (top 6)) = some is_depends := by kernel_rfl
noncomputable def den_depends : Den := denOf (Gs []) N_depends.length [0, 0] is_depends
noncomputable abbrev G_depends : GE := Gs []
theorem i_depends {a0 a1 : PV} {P : PV → Nat → List PV → Prop} (h : SK G_depends [is_depends] [sl a0, sl a1, none] (RQ [0, 0] P)) : ∃ v m outs, den_depends [a0, a1] = some (v, m, outs) ∧ P v m outs := den_sk rfl rfl h
theorem iR_depends {a0 a1 : PV} {v : PV} {m : Nat} {outs : List PV} (h : SK G_depends [is_depends] [sl a0, sl a1, none] (RQ [0, 0] fun a b c => a = v ∧ b = m ∧ c = outs)) : DenR den_depends [a0, a1] v m outs := den_skR rfl rfl h
/-! ### earliest -/
def N_earliest : List Str := [(PySem.Str.ofString "steps"), (PySem.Str.ofString "hours"), (PySem.Str.ofString "plan"), (PySem.Str.ofString "j"), (PySem.Str.ofString "step"), (PySem.Str.ofString "ends"), (PySem.Str.ofString "i")]
def fns_earliest : List (Str × (Nat × List Nat × Bool)) := [((PySem.Str.ofString "depends"), (0, [0, 0], true))]
def cs_earliest : List (Str × PV) := []
def bt_earliest : List Str := [(PySem.Str.ofString "enumerate"), (PySem.Str.ofString "max"), (PySem.Str.ofString "range")]
abbrev lc0_earliest : IE :=
 (.lc [6] (.nm 6) (.rng1 (.var 3)) (.cons (.prim .tru (.cons (.call 0 [0, 0] true (.cons (.prim .idx (.cons (.var 0) (.cons (.var 6) .nil))) (.cons (.var 4) .nil))) .nil)) .nil) (.prim .add (.cons (.prim .idx (.cons (.var 2) (.cons (.var 6) .nil))) (.cons (.prim .idx (.cons (.var 1) (.cons (.var 6) .nil))) .nil))) 1 [])
abbrev fb0_earliest : ISs :=
 (.cons (.asg 5 lc0_earliest)
  (.cons (.app 2 (.prim .max1d (.cons (.var 5) (.cons (.cst (.int 0)) .nil))))
  .nil))
abbrev fs0_earliest : IS :=
 (.for (.tp (.cons (.nm 3) (.cons (.nm 4) .nil))) (.enum (.var 0)) fb0_earliest)
abbrev is_earliest : ISs :=
 (.cons (.asg 2 (.prim .lstD .nil))
 (.cons fs0_earliest
 (.cons (.ret (.var 2))
 .nil)))
theorem sc_earliest : FnScope N_earliest [(PySem.Str.ofString "steps"), (PySem.Str.ofString "hours")] (defScope (top 10)) := ⟨rfl, rfl, rfl, by decide +kernel, rfl, by decide +kernel, by decide +kernel⟩
def im_earliest : List Str := []
def sh_earliest : List Str := []
abbrev cc_earliest : CC := { N := N_earliest, sc := defScope (top 10), fns := fns_earliest, cs := cs_earliest, bt := bt_earliest, top := true, im := im_earliest, sh := sh_earliest }
theorem c_earliest : cBlk (cS 60 cc_earliest) (defBody (top 10)) = some is_earliest := by kernel_rfl
noncomputable def den_earliest : Den := denOf (Gs [den_depends]) N_earliest.length [0, 0] is_earliest
noncomputable abbrev G_earliest : GE := Gs [den_depends]
theorem i_earliest {a0 a1 : PV} {P : PV → Nat → List PV → Prop} (h : SK G_earliest [is_earliest] [sl a0, sl a1, none, none, none, none, none] (RQ [0, 0] P)) : ∃ v m outs, den_earliest [a0, a1] = some (v, m, outs) ∧ P v m outs := den_sk rfl rfl h
theorem iR_earliest {a0 a1 : PV} {v : PV} {m : Nat} {outs : List PV} (h : SK G_earliest [is_earliest] [sl a0, sl a1, none, none, none, none, none] (RQ [0, 0] fun a b c => a = v ∧ b = m ∧ c = outs)) : DenR den_earliest [a0, a1] v m outs := den_skR rfl rfl h
/-! ### _law_dep -/
def N__law_dep : List Str := [(PySem.Str.ofString "one"), (PySem.Str.ofString "other"), (PySem.Str.ofString "thing")]
def fns__law_dep : List (Str × (Nat × List Nat × Bool)) := []
def cs__law_dep : List (Str × PV) := []
def bt__law_dep : List Str := [(PySem.Str.ofString "len")]
abbrev lc0__law_dep : IE :=
 (.lc [2] (.nm 2) (.seq (.prim .idx (.cons (.var 0) (.cons (.cst (.int 2)) .nil)))) (.cons (.prim .isIn (.cons (.var 2) (.cons (.prim .idx (.cons (.var 1) (.cons (.cst (.int 2)) .nil))) .nil))) .nil) (.var 2) 1 [])
abbrev is__law_dep : ISs :=
 (.cons (.ite (.prim .eq (.cons (.prim .idx (.cons (.var 0) (.cons (.cst (.int 0)) .nil))) (.cons (.prim .idx (.cons (.var 1) (.cons (.cst (.int 0)) .nil))) .nil))) (.cons (.ret (.cst (.bl true)))
  .nil) .nil)
 (.cons (.ret (.prim .gt (.cons (.prim .len (.cons lc0__law_dep .nil)) (.cons (.cst (.int 0)) .nil))))
 .nil))
theorem sc__law_dep : FnScope N__law_dep [(PySem.Str.ofString "one"), (PySem.Str.ofString "other")] (defScope (top 18)) := ⟨rfl, rfl, rfl, by decide +kernel, rfl, by decide +kernel, by decide +kernel⟩
def im__law_dep : List Str := []
def sh__law_dep : List Str := []
abbrev cc__law_dep : CC := { N := N__law_dep, sc := defScope (top 18), fns := fns__law_dep, cs := cs__law_dep, bt := bt__law_dep, top := true, im := im__law_dep, sh := sh__law_dep }
theorem c__law_dep : cBlk (cS 60 cc__law_dep) (defBody (top 18)) = some is__law_dep := by kernel_rfl
noncomputable def den__law_dep : Den := denOf (Gs []) N__law_dep.length [0, 0] is__law_dep
noncomputable abbrev G__law_dep : GE := Gs []
theorem i__law_dep {a0 a1 : PV} {P : PV → Nat → List PV → Prop} (h : SK G__law_dep [is__law_dep] [sl a0, sl a1, none] (RQ [0, 0] P)) : ∃ v m outs, den__law_dep [a0, a1] = some (v, m, outs) ∧ P v m outs := den_sk rfl rfl h
theorem iR__law_dep {a0 a1 : PV} {v : PV} {m : Nat} {outs : List PV} (h : SK G__law_dep [is__law_dep] [sl a0, sl a1, none] (RQ [0, 0] fun a b c => a = v ∧ b = m ∧ c = outs)) : DenR den__law_dep [a0, a1] v m outs := den_skR rfl rfl h
/-! ### _law_early -/
def N__law_early : List Str := [(PySem.Str.ofString "steps"), (PySem.Str.ofString "hours"), (PySem.Str.ofString "plan"), (PySem.Str.ofString "j"), (PySem.Str.ofString "i")]
def fns__law_early : List (Str × (Nat × List Nat × Bool)) := [((PySem.Str.ofString "_law_dep"), (0, [0, 0], true))]
def cs__law_early : List (Str × PV) := []
def bt__law_early : List Str := [(PySem.Str.ofString "range"), (PySem.Str.ofString "len"), (PySem.Str.ofString "max")]
abbrev lc0__law_early : IE :=
 (.lc [4] (.nm 4) (.rng1 (.var 3)) (.cons (.prim .tru (.cons (.call 0 [0, 0] true (.cons (.prim .idx (.cons (.var 0) (.cons (.var 4) .nil))) (.cons (.prim .idx (.cons (.var 0) (.cons (.var 3) .nil))) .nil))) .nil)) .nil) (.prim .add (.cons (.prim .idx (.cons (.var 2) (.cons (.var 4) .nil))) (.cons (.prim .idx (.cons (.var 1) (.cons (.var 4) .nil))) .nil))) 1 [])
abbrev fb0__law_early : ISs :=
 (.cons (.app 2 (.prim .max1 (.cons (.prim .add (.cons (.prim .lstD (.cons (.cst (.int 0)) .nil)) (.cons lc0__law_early .nil))) .nil)))
  .nil)
abbrev fs0__law_early : IS :=
 (.for (.nm 3) (.rng1 (.prim .len (.cons (.var 0) .nil))) fb0__law_early)
abbrev is__law_early : ISs :=
 (.cons (.asg 2 (.prim .lstD .nil))
 (.cons fs0__law_early
 (.cons (.ret (.var 2))
 .nil)))
theorem sc__law_early : FnScope N__law_early [(PySem.Str.ofString "steps"), (PySem.Str.ofString "hours")] (defScope (top 20)) := ⟨rfl, rfl, rfl, by decide +kernel, rfl, by decide +kernel, by decide +kernel⟩
def im__law_early : List Str := []
def sh__law_early : List Str := []
abbrev cc__law_early : CC := { N := N__law_early, sc := defScope (top 20), fns := fns__law_early, cs := cs__law_early, bt := bt__law_early, top := true, im := im__law_early, sh := sh__law_early }
theorem c__law_early : cBlk (cS 60 cc__law_early) (defBody (top 20)) = some is__law_early := by kernel_rfl
noncomputable def den__law_early : Den := denOf (Gs [den__law_dep]) N__law_early.length [0, 0] is__law_early
noncomputable abbrev G__law_early : GE := Gs [den__law_dep]
theorem i__law_early {a0 a1 : PV} {P : PV → Nat → List PV → Prop} (h : SK G__law_early [is__law_early] [sl a0, sl a1, none, none, none] (RQ [0, 0] P)) : ∃ v m outs, den__law_early [a0, a1] = some (v, m, outs) ∧ P v m outs := den_sk rfl rfl h
theorem iR__law_early {a0 a1 : PV} {v : PV} {m : Nat} {outs : List PV} (h : SK G__law_early [is__law_early] [sl a0, sl a1, none, none, none] (RQ [0, 0] fun a b c => a = v ∧ b = m ∧ c = outs)) : DenR den__law_early [a0, a1] v m outs := den_skR rfl rfl h
/-! ### check_hours -/
def N_check_hours : List Str := [(PySem.Str.ofString "steps"), (PySem.Str.ofString "hours"), (PySem.Str.ofString "at"), (PySem.Str.ofString "many")]
def fns_check_hours : List (Str × (Nat × List Nat × Bool)) := []
def cs_check_hours : List (Str × PV) := [((PySem.Str.ofString "MOST_HOURS"), .int 99)]
def bt_check_hours : List Str := [(PySem.Str.ofString "enumerate"), (PySem.Str.ofString "len")]
abbrev fb0_check_hours : ISs :=
 (.cons (.ite (.not (.chain .le .le (.cst (.int 1)) (.var 3) (.cst (.int 99)))) (.cons (.rse 0 [(PySem.Str.ofString "at")] (.cons (.var 2) .nil))
   .nil) .nil)
  .nil)
abbrev fs0_check_hours : IS :=
 (.for (.tp (.cons (.nm 2) (.cons (.nm 3) .nil))) (.enum (.var 1)) fb0_check_hours)
abbrev is_check_hours : ISs :=
 (.cons (.ite (.prim .ne (.cons (.prim .len (.cons (.var 1) .nil)) (.cons (.prim .len (.cons (.var 0) .nil)) .nil))) (.cons (.rse 0 [(PySem.Str.ofString "at")] (.cons (.prim .neg (.cons (.cst (.int 1)) .nil)) .nil))
  .nil) .nil)
 (.cons fs0_check_hours
 .nil))
theorem sc_check_hours : FnScope N_check_hours [(PySem.Str.ofString "steps"), (PySem.Str.ofString "hours")] (defScope (top 9)) := ⟨rfl, rfl, rfl, by decide +kernel, rfl, by decide +kernel, by decide +kernel⟩
def im_check_hours : List Str := []
def sh_check_hours : List Str := []
abbrev cc_check_hours : CC := { N := N_check_hours, sc := defScope (top 9), fns := fns_check_hours, cs := cs_check_hours, bt := bt_check_hours, top := true, im := im_check_hours, sh := sh_check_hours, rs := true, xc := XCs, xa := XAs }
theorem c_check_hours : cBlk (cS 60 cc_check_hours) (defBody (top 9)) = some is_check_hours := by kernel_rfl
noncomputable def den_check_hours : Den := denOf (Gs []) N_check_hours.length [0, 0] is_check_hours
noncomputable abbrev G_check_hours : GE := Gs []
theorem i_check_hours {a0 a1 : PV} {P : PV → Nat → List PV → Prop} (h : SK G_check_hours [is_check_hours] [sl a0, sl a1, none, none] (RQ [0, 0] P)) : ∃ v m outs, den_check_hours [a0, a1] = some (v, m, outs) ∧ P v m outs := den_sk rfl rfl h
theorem iR_check_hours {a0 a1 : PV} {v : PV} {m : Nat} {outs : List PV} (h : SK G_check_hours [is_check_hours] [sl a0, sl a1, none, none] (RQ [0, 0] fun a b c => a = v ∧ b = m ∧ c = outs)) : DenR den_check_hours [a0, a1] v m outs := den_skR rfl rfl h
/-! ### _law_is_whole -/
def N__law_is_whole : List Str := [(PySem.Str.ofString "x")]
def fns__law_is_whole : List (Str × (Nat × List Nat × Bool)) := []
def cs__law_is_whole : List (Str × PV) := []
def bt__law_is_whole : List Str := [(PySem.Str.ofString "bool"), (PySem.Str.ofString "isinstance"), (PySem.Str.ofString "int")]
abbrev is__law_is_whole : ISs :=
 (.cons (.ret (.and (.prim .isinst (.cons (.var 0) (.cons (.cst (.ty "int")) .nil))) (.not (.prim .isinst (.cons (.var 0) (.cons (.cst (.ty "bool")) .nil))))))
 .nil)
theorem sc__law_is_whole : FnScope N__law_is_whole [(PySem.Str.ofString "x")] (defScope (top 14)) := ⟨rfl, rfl, rfl, by decide +kernel, rfl, by decide +kernel, by decide +kernel⟩
def im__law_is_whole : List Str := []
def sh__law_is_whole : List Str := []
abbrev cc__law_is_whole : CC := { N := N__law_is_whole, sc := defScope (top 14), fns := fns__law_is_whole, cs := cs__law_is_whole, bt := bt__law_is_whole, top := true, im := im__law_is_whole, sh := sh__law_is_whole }
theorem c__law_is_whole : cBlk (cS 60 cc__law_is_whole) (defBody (top 14)) = some is__law_is_whole := by kernel_rfl
abbrev cch__law_is_whole : CC := { N := N__law_is_whole, sc := defScope (top 14), fns := fns__law_is_whole, cs := cs__law_is_whole, bt := bt__law_is_whole, top := true, im := im__law_is_whole, sh := sh__law_is_whole, hot := true }
theorem ch__law_is_whole : cBlk (cS 60 cch__law_is_whole) (defBody (top 14)) = some is__law_is_whole := by kernel_rfl
noncomputable def den__law_is_whole : Den := denOf (Gs []) N__law_is_whole.length [0] is__law_is_whole
noncomputable abbrev G__law_is_whole : GE := Gs []
theorem i__law_is_whole {a0 : PV} {P : PV → Nat → List PV → Prop} (h : SK G__law_is_whole [is__law_is_whole] [sl a0] (RQ [0] P)) : ∃ v m outs, den__law_is_whole [a0] = some (v, m, outs) ∧ P v m outs := den_sk rfl rfl h
theorem iR__law_is_whole {a0 : PV} {v : PV} {m : Nat} {outs : List PV} (h : SK G__law_is_whole [is__law_is_whole] [sl a0] (RQ [0] fun a b c => a = v ∧ b = m ∧ c = outs)) : DenR den__law_is_whole [a0] v m outs := den_skR rfl rfl h
/-! ### _law_asked -/
def N__law_asked : List Str := [(PySem.Str.ofString "steps"), (PySem.Str.ofString "hours"), (PySem.Str.ofString "e"), (PySem.Str.ofString "told")]
def fns__law_asked : List (Str × (Nat × List Nat × Bool)) := [((PySem.Str.ofString "_law_is_whole"), (1, [0], true))]
def xf__law_asked : List (Str × (Nat × List Nat × Bool)) := [((PySem.Str.ofString "check_hours"), (0, [0, 0], true))]
def hf__law_asked : List (Str × (Nat × List Nat × Bool)) := [((PySem.Str.ofString "_law_is_whole"), (1, [0], true))]
def cs__law_asked : List (Str × PV) := []
def bt__law_asked : List Str := [(PySem.Str.ofString "list"), (PySem.Str.ofString "isinstance"), (PySem.Str.ofString "ValueError")]
abbrev fh0__law_asked : ISs :=
 (.cons (.ite (.or (.not (.isx 2 4 [0, 1, 2, 3])) (.or (.not (.isx 2 4 [0, 1, 2, 3])) (.not (.call 1 [0] true (.cons (.fld 2 (PySem.Str.ofString "at")) .nil))))) (.cons (.ret (.prim .tupD (.cons (.cst (.str (PySem.Str.ofString "error"))) (.cons (.cst (.int 0)) .nil))))
    .nil) .nil)
   (.cons (.ite (.or (.isx 2 4 [1]) (.isx 2 4 [2])) (.cons (.ret (.prim .tupD (.cons (.cst (.str (PySem.Str.ofString "error"))) (.cons (.cst (.int 1)) .nil))))
    .nil) .nil)
   (.cons (.ret (.prim .tupD (.cons (.cst (.str (PySem.Str.ofString "refused"))) (.cons (.fld 2 (PySem.Str.ofString "at")) .nil))))
   .nil)))
abbrev ft0__law_asked : ISs :=
 (.cons (.xasg 3 (.call 0 [0, 0] true (.cons (.prim .list (.cons (.var 0) .nil)) (.cons (.prim .list (.cons (.var 1) .nil)) .nil))))
   .nil)
abbrev is__law_asked : ISs :=
 (.cons (.tryx 2 4 [0] false ft0__law_asked fh0__law_asked)
 (.cons (.ite (.prim .notNone (.cons (.var 3) .nil)) (.cons (.ret (.prim .tupD (.cons (.cst (.str (PySem.Str.ofString "error"))) (.cons (.cst (.int 2)) .nil))))
  .nil) .nil)
 (.cons (.ret (.prim .tupD (.cons (.cst (.str (PySem.Str.ofString "let"))) (.cons (.cst (.int 0)) .nil))))
 .nil)))
theorem sc__law_asked : FnScope N__law_asked [(PySem.Str.ofString "steps"), (PySem.Str.ofString "hours")] (defScope (top 21)) := ⟨rfl, rfl, rfl, by decide +kernel, rfl, by decide +kernel, by decide +kernel⟩
def im__law_asked : List Str := []
def sh__law_asked : List Str := []
abbrev cc__law_asked : CC := { N := N__law_asked, sc := defScope (top 21), fns := fns__law_asked, cs := cs__law_asked, bt := bt__law_asked, top := true, im := im__law_asked, sh := sh__law_asked, xf := xf__law_asked, hfs := hf__law_asked, xc := XCs, xa := XAs }
theorem c__law_asked : cBlk (cS 60 cc__law_asked) (defBody (top 21)) = some is__law_asked := by kernel_rfl
noncomputable def den__law_asked : Den := denOf (Gs [den_check_hours, den__law_is_whole]) N__law_asked.length [0, 0] is__law_asked
noncomputable abbrev G__law_asked : GE := Gs [den_check_hours, den__law_is_whole]
theorem i__law_asked {a0 a1 : PV} {P : PV → Nat → List PV → Prop} (h : SK G__law_asked [is__law_asked] [sl a0, sl a1, none, none] (RQ [0, 0] P)) : ∃ v m outs, den__law_asked [a0, a1] = some (v, m, outs) ∧ P v m outs := den_sk rfl rfl h
theorem iR__law_asked {a0 a1 : PV} {v : PV} {m : Nat} {outs : List PV} (h : SK G__law_asked [is__law_asked] [sl a0, sl a1, none, none] (RQ [0, 0] fun a b c => a = v ∧ b = m ∧ c = outs)) : DenR den__law_asked [a0, a1] v m outs := den_skR rfl rfl h
/-! ### _law_wrong_ones -/
def N__law_wrong_ones : List Str := [(PySem.Str.ofString "feed"), (PySem.Str.ofString "steps"), (PySem.Str.ofString "hours"), (PySem.Str.ofString "many"), (PySem.Str.ofString "at"), (PySem.Str.ofString "wrong"), (PySem.Str.ofString "right"), (PySem.Str.ofString "spoilt"), (PySem.Str.ofString "other"), (PySem.Str.ofString "twice")]
def fns__law_wrong_ones : List (Str × (Nat × List Nat × Bool)) := [((PySem.Str.ofString "_law_asked"), (0, [0, 0], false)), ((PySem.Str.ofString "_law_draw"), (1, [1, 0], false))]
def cs__law_wrong_ones : List (Str × PV) := []
def bt__law_wrong_ones : List Str := [(PySem.Str.ofString "len")]
abbrev fb0__law_wrong_ones : ISs :=
 (.cons (.ite (.prim .ne (.cons (.call 0 [0, 0] false (.cons (.var 1) (.cons (.prim .add (.cons (.prim .add (.cons (.prim (.sl false true) (.cons (.var 2) (.cons (.var 4) .nil))) (.cons (.prim .lstD (.cons (.var 6) .nil)) .nil))) (.cons (.prim (.sl true false) (.cons (.var 2) (.cons (.prim .add (.cons (.var 4) (.cons (.cst (.int 1)) .nil))) .nil))) .nil))) .nil))) (.cons (.prim .tupD (.cons (.cst (.str (PySem.Str.ofString "let"))) (.cons (.cst (.int 0)) .nil))) .nil))) (.cons (.ret (.cst (.bl false)))
   .nil) .nil)
  .nil)
abbrev fs0__law_wrong_ones : IS :=
 (.for (.nm 6) (.seq (.prim .lstD (.cons (.cst (.int 1)) (.cons (.cst (.int 99)) .nil)))) fb0__law_wrong_ones)
abbrev fb1__law_wrong_ones : ISs :=
 (.cons (.asg 7 (.prim .add (.cons (.prim .add (.cons (.prim (.sl false true) (.cons (.var 2) (.cons (.var 4) .nil))) (.cons (.prim .lstD (.cons (.var 5) .nil)) .nil))) (.cons (.prim (.sl true false) (.cons (.var 2) (.cons (.prim .add (.cons (.var 4) (.cons (.cst (.int 1)) .nil))) .nil))) .nil))))
  (.cons (.asg 8 (.prim .add (.cons (.var 4) (.cons (.call 1 [1, 0] false (.cons (.var 0) (.cons (.prim .sub (.cons (.prim .len (.cons (.var 2) .nil)) (.cons (.var 4) .nil))) .nil))) .nil))))
  (.cons (.asg 9 (.prim .add (.cons (.prim .add (.cons (.prim (.sl false true) (.cons (.var 7) (.cons (.var 8) .nil))) (.cons (.prim .lstD (.cons (.cst (.int 0)) .nil)) .nil))) (.cons (.prim (.sl true false) (.cons (.var 7) (.cons (.prim .add (.cons (.var 8) (.cons (.cst (.int 1)) .nil))) .nil))) .nil))))
  (.cons (.ite (.or (.prim .ne (.cons (.call 0 [0, 0] false (.cons (.var 1) (.cons (.var 7) .nil))) (.cons (.prim .tupD (.cons (.cst (.str (PySem.Str.ofString "refused"))) (.cons (.var 4) .nil))) .nil))) (.prim .ne (.cons (.call 0 [0, 0] false (.cons (.var 1) (.cons (.var 9) .nil))) (.cons (.prim .tupD (.cons (.cst (.str (PySem.Str.ofString "refused"))) (.cons (.var 4) .nil))) .nil)))) (.cons (.ret (.cst (.bl false)))
   .nil) .nil)
  .nil))))
abbrev fs1__law_wrong_ones : IS :=
 (.for (.nm 5) (.seq (.prim .lstD (.cons (.cst (.int 0)) (.cons (.prim .neg (.cons (.cst (.int 1)) .nil)) (.cons (.cst (.int 100)) (.cons (.prim .pow (.cons (.cst (.int 10)) (.cons (.cst (.int 59)) .nil))) (.cons (.prim .neg (.cons (.prim .pow (.cons (.cst (.int 10)) (.cons (.cst (.int 59)) .nil))) .nil)) .nil))))))) fb1__law_wrong_ones)
abbrev fb2__law_wrong_ones : ISs :=
 (.cons (.ite (.prim .ne (.cons (.call 0 [0, 0] false (.cons (.var 1) (.cons (.var 3) .nil))) (.cons (.prim .tupD (.cons (.cst (.str (PySem.Str.ofString "refused"))) (.cons (.prim .neg (.cons (.cst (.int 1)) .nil)) .nil))) .nil))) (.cons (.ret (.cst (.bl false)))
   .nil) .nil)
  .nil)
abbrev fs2__law_wrong_ones : IS :=
 (.for (.nm 3) (.seq (.prim .lstD (.cons (.prim .add (.cons (.var 2) (.cons (.prim .lstD (.cons (.cst (.int 1)) .nil)) .nil))) (.cons (.prim .add (.cons (.var 2) (.cons (.prim .lstD (.cons (.cst (.int 0)) .nil)) .nil))) (.cons (.prim .add (.cons (.prim .add (.cons (.var 2) (.cons (.var 2) .nil))) (.cons (.prim .lstD (.cons (.cst (.int 99)) .nil)) .nil))) .nil))))) fb2__law_wrong_ones)
abbrev is__law_wrong_ones : ISs :=
 (.cons fs2__law_wrong_ones
 (.cons (.ite (.prim .eq (.cons (.prim .len (.cons (.var 2) .nil)) (.cons (.cst (.int 0)) .nil))) (.cons (.ret (.cst (.bl true)))
  .nil) .nil)
 (.cons (.ite (.or (.prim .ne (.cons (.call 0 [0, 0] false (.cons (.var 1) (.cons (.prim (.sl true false) (.cons (.var 2) (.cons (.cst (.int 1)) .nil))) .nil))) (.cons (.prim .tupD (.cons (.cst (.str (PySem.Str.ofString "refused"))) (.cons (.prim .neg (.cons (.cst (.int 1)) .nil)) .nil))) .nil))) (.prim .eq (.cons (.call 0 [0, 0] false (.cons (.var 1) (.cons (.prim .add (.cons (.prim .lstD (.cons (.cst (.int 0)) .nil)) (.cons (.prim (.sl true false) (.cons (.var 2) (.cons (.cst (.int 2)) .nil))) .nil))) .nil))) (.cons (.prim .tupD (.cons (.cst (.str (PySem.Str.ofString "let"))) (.cons (.cst (.int 0)) .nil))) .nil)))) (.cons (.ret (.cst (.bl false)))
  .nil) .nil)
 (.cons (.asg 4 (.call 1 [1, 0] false (.cons (.var 0) (.cons (.prim .len (.cons (.var 2) .nil)) .nil))))
 (.cons fs1__law_wrong_ones
 (.cons fs0__law_wrong_ones
 (.cons (.ret (.cst (.bl true)))
 .nil)))))))
theorem sc__law_wrong_ones : FnScope N__law_wrong_ones [(PySem.Str.ofString "feed"), (PySem.Str.ofString "steps"), (PySem.Str.ofString "hours")] (defScope (top 22)) := ⟨rfl, rfl, rfl, by decide +kernel, rfl, by decide +kernel, by decide +kernel⟩
def im__law_wrong_ones : List Str := []
def sh__law_wrong_ones : List Str := []
abbrev cc__law_wrong_ones : CC := { N := N__law_wrong_ones, sc := defScope (top 22), fns := fns__law_wrong_ones, cs := cs__law_wrong_ones, bt := bt__law_wrong_ones, top := true, im := im__law_wrong_ones, sh := sh__law_wrong_ones }
theorem c__law_wrong_ones : cBlk (cS 60 cc__law_wrong_ones) (defBody (top 22)) = some is__law_wrong_ones := by kernel_rfl
noncomputable def den__law_wrong_ones : Den := denOf (Gs [den__law_asked, den__law_draw]) N__law_wrong_ones.length [1, 0, 0] is__law_wrong_ones
noncomputable abbrev G__law_wrong_ones : GE := Gs [den__law_asked, den__law_draw]
theorem i__law_wrong_ones {a0 a1 a2 : PV} {P : PV → Nat → List PV → Prop} (h : SK G__law_wrong_ones [is__law_wrong_ones] [some ⟨1, true, a0⟩, sl a1, sl a2, none, none, none, none, none, none, none] (RQ [1, 0, 0] P)) : ∃ v m outs, den__law_wrong_ones [a0, a1, a2] = some (v, m, outs) ∧ P v m outs := den_sk rfl rfl h
theorem iR__law_wrong_ones {a0 a1 a2 : PV} {v : PV} {m : Nat} {outs : List PV} (h : SK G__law_wrong_ones [is__law_wrong_ones] [some ⟨1, true, a0⟩, sl a1, sl a2, none, none, none, none, none, none, none] (RQ [1, 0, 0] fun a b c => a = v ∧ b = m ∧ c = outs)) : DenR den__law_wrong_ones [a0, a1, a2] v m outs := den_skR rfl rfl h
/-! ### _law_are_wholes -/
def N__law_are_wholes : List Str := [(PySem.Str.ofString "row"), (PySem.Str.ofString "many"), (PySem.Str.ofString "x")]
def fns__law_are_wholes : List (Str × (Nat × List Nat × Bool)) := [((PySem.Str.ofString "_law_is_whole"), (0, [0], true))]
def cs__law_are_wholes : List (Str × PV) := []
def bt__law_are_wholes : List Str := [(PySem.Str.ofString "len"), (PySem.Str.ofString "list"), (PySem.Str.ofString "isinstance")]
abbrev lc0__law_are_wholes : IE :=
 (.lc [2] (.nm 2) (.seq (.var 0)) (.cons (.not (.prim .tru (.cons (.call 0 [0] true (.cons (.var 2) .nil)) .nil))) .nil) (.var 2) 1 [])
abbrev is__law_are_wholes : ISs :=
 (.cons (.ite (.or (.not (.prim .isinst (.cons (.var 0) (.cons (.cst (.ty "list")) .nil)))) (.prim .ne (.cons (.prim .len (.cons (.var 0) .nil)) (.cons (.var 1) .nil)))) (.cons (.ret (.cst (.bl false)))
  .nil) .nil)
 (.cons (.ret (.prim .eq (.cons (.prim .len (.cons lc0__law_are_wholes .nil)) (.cons (.cst (.int 0)) .nil))))
 .nil))
theorem sc__law_are_wholes : FnScope N__law_are_wholes [(PySem.Str.ofString "row"), (PySem.Str.ofString "many")] (defScope (top 15)) := ⟨rfl, rfl, rfl, by decide +kernel, rfl, by decide +kernel, by decide +kernel⟩
def im__law_are_wholes : List Str := []
def sh__law_are_wholes : List Str := []
abbrev cc__law_are_wholes : CC := { N := N__law_are_wholes, sc := defScope (top 15), fns := fns__law_are_wholes, cs := cs__law_are_wholes, bt := bt__law_are_wholes, top := true, im := im__law_are_wholes, sh := sh__law_are_wholes }
theorem c__law_are_wholes : cBlk (cS 60 cc__law_are_wholes) (defBody (top 15)) = some is__law_are_wholes := by kernel_rfl
noncomputable def den__law_are_wholes : Den := denOf (Gs [den__law_is_whole]) N__law_are_wholes.length [0, 0] is__law_are_wholes
noncomputable abbrev G__law_are_wholes : GE := Gs [den__law_is_whole]
theorem i__law_are_wholes {a0 a1 : PV} {P : PV → Nat → List PV → Prop} (h : SK G__law_are_wholes [is__law_are_wholes] [sl a0, sl a1, none] (RQ [0, 0] P)) : ∃ v m outs, den__law_are_wholes [a0, a1] = some (v, m, outs) ∧ P v m outs := den_sk rfl rfl h
theorem iR__law_are_wholes {a0 a1 : PV} {v : PV} {m : Nat} {outs : List PV} (h : SK G__law_are_wholes [is__law_are_wholes] [sl a0, sl a1, none] (RQ [0, 0] fun a b c => a = v ∧ b = m ∧ c = outs)) : DenR den__law_are_wholes [a0, a1] v m outs := den_skR rfl rfl h
/-! ### law -/
def N_law : List Str := [(PySem.Str.ofString "script"), (PySem.Str.ofString "feed"), (PySem.Str.ofString "turn"), (PySem.Str.ofString "saw"), (PySem.Str.ofString "oil"), (PySem.Str.ofString "glue"), (PySem.Str.ofString "many"), (PySem.Str.ofString "steps"), (PySem.Str.ofString "hours"), (PySem.Str.ofString "one"), (PySem.Str.ofString "other"), (PySem.Str.ofString "plan")]
def fns_law : List (Str × (Nat × List Nat × Bool)) := [((PySem.Str.ofString "earliest"), (0, [0, 0], false)), ((PySem.Str.ofString "_law_early"), (1, [0, 0], false)), ((PySem.Str.ofString "_law_are_wholes"), (2, [0, 0], true)), ((PySem.Str.ofString "_law_wrong_ones"), (3, [1, 0, 0], false)), ((PySem.Str.ofString "_law_asked"), (4, [0, 0], false)), ((PySem.Str.ofString "_law_hours"), (5, [1, 0], false)), ((PySem.Str.ofString "_law_steps"), (6, [1, 0], false)), ((PySem.Str.ofString "_law_draw"), (7, [1, 0], false)), ((PySem.Str.ofString "_law_feed"), (8, [0], false))]
def cs_law : List (Str × PV) := []
def bt_law : List Str := [(PySem.Str.ofString "range"), (PySem.Str.ofString "list")]
abbrev fb0_law : ISs :=
 (.cons (.asgT (.nm 6) (.call 7 [1, 0] false (.cons (.var 1) (.cons (.cst (.int 10)) .nil))))
  (.cons (.ite (.and (.prim .eq (.cons (.var 2) (.cons (.cst (.int 0)) .nil))) (.prim .eq (.cons (.call 7 [1, 0] false (.cons (.var 1) (.cons (.cst (.int 6)) .nil))) (.cons (.cst (.int 0)) .nil)))) (.cons (.asgT (.nm 6) (.cst (.int 24)))
   .nil) .nil)
  (.cons (.asgT (.nm 7) (.call 6 [1, 0] false (.cons (.var 1) (.cons (.var 6) .nil))))
  (.cons (.asgT (.nm 8) (.call 5 [1, 0] false (.cons (.var 1) (.cons (.var 6) .nil))))
  (.cons (.ite (.or (.prim .ne (.cons (.call 4 [0, 0] false (.cons (.var 7) (.cons (.var 8) .nil))) (.cons (.prim .tupD (.cons (.cst (.str (PySem.Str.ofString "let"))) (.cons (.cst (.int 0)) .nil))) .nil))) (.not (.call 3 [1, 0, 0] false (.cons (.var 1) (.cons (.var 7) (.cons (.var 8) .nil)))))) (.cons (.ret (.cst (.bl false)))
   .nil) .nil)
  (.cons (.asg 9 (.prim .list (.cons (.var 7) .nil)))
  (.cons (.asg 10 (.prim .list (.cons (.var 8) .nil)))
  (.cons (.asg 11 (.call 0 [0, 0] false (.cons (.var 9) (.cons (.var 10) .nil))))
  (.cons (.ite (.or (.prim .ne (.cons (.var 9) (.cons (.var 7) .nil))) (.or (.prim .ne (.cons (.var 10) (.cons (.var 8) .nil))) (.not (.call 2 [0, 0] true (.cons (.var 11) (.cons (.var 6) .nil)))))) (.cons (.ret (.cst (.bl false)))
   .nil) .nil)
  (.cons (.ite (.prim .ne (.cons (.var 11) (.cons (.call 1 [0, 0] false (.cons (.var 7) (.cons (.var 8) .nil))) .nil))) (.cons (.ret (.cst (.bl false)))
   .nil) .nil)
  .nil))))))))))
abbrev fs0_law : IS :=
 (.for (.nm 2) (.rng1 (.cst (.int 2))) fb0_law)
abbrev is_law : ISs :=
 (.cons (.asg 1 (.call 8 [0] false (.cons (.var 0) .nil)))
 (.cons fs0_law
 (.cons (.asg 3 (.prim .tupD (.cons (.cst (.str (PySem.Str.ofString "ann"))) (.cons (.cst (.str (PySem.Str.ofString "saw"))) (.cons (.prim .tupD (.cons (.cst (.str (PySem.Str.ofString "plank"))) .nil)) .nil)))))
 (.cons (.asg 4 (.prim .tupD (.cons (.cst (.str (PySem.Str.ofString "bob"))) (.cons (.cst (.str (PySem.Str.ofString "oil"))) (.cons (.prim .tupD (.cons (.cst (.str (PySem.Str.ofString "lathe"))) .nil)) .nil)))))
 (.cons (.asg 5 (.prim .tupD (.cons (.cst (.str (PySem.Str.ofString "bob"))) (.cons (.cst (.str (PySem.Str.ofString "glue"))) (.cons (.prim .tupD (.cons (.cst (.str (PySem.Str.ofString "plank"))) .nil)) .nil)))))
 (.cons (.ret (.and (.prim .eq (.cons (.call 0 [0, 0] false (.cons (.prim .lstD (.cons (.var 3) (.cons (.var 4) (.cons (.var 5) .nil)))) (.cons (.prim .lstD (.cons (.cst (.int 3)) (.cons (.cst (.int 2)) (.cons (.cst (.int 1)) .nil)))) .nil))) (.cons (.prim .lstD (.cons (.cst (.int 0)) (.cons (.cst (.int 0)) (.cons (.cst (.int 3)) .nil)))) .nil))) (.prim .eq (.cons (.call 0 [0, 0] false (.cons (.prim .lstD (.cons (.var 4) (.cons (.var 5) (.cons (.var 3) .nil)))) (.cons (.prim .lstD (.cons (.cst (.int 3)) (.cons (.cst (.int 2)) (.cons (.cst (.int 1)) .nil)))) .nil))) (.cons (.prim .lstD (.cons (.cst (.int 0)) (.cons (.cst (.int 3)) (.cons (.cst (.int 5)) .nil)))) .nil)))))
 .nil))))))
theorem sc_law : FnScope N_law [(PySem.Str.ofString "script")] (defScope (top 23)) := ⟨rfl, rfl, rfl, by decide +kernel, rfl, by decide +kernel, by decide +kernel⟩
def im_law : List Str := []
def sh_law : List Str := [(PySem.Str.ofString "many"), (PySem.Str.ofString "steps"), (PySem.Str.ofString "hours")]
abbrev cc_law : CC := { N := N_law, sc := defScope (top 23), fns := fns_law, cs := cs_law, bt := bt_law, top := true, im := im_law, sh := sh_law }
theorem c_law : cBlk (cS 60 cc_law) (defBody (top 23)) = some is_law := by kernel_rfl
noncomputable def den_law : Den := denOf (Gs [den_earliest, den__law_early, den__law_are_wholes, den__law_wrong_ones, den__law_asked, den__law_hours, den__law_steps, den__law_draw, den__law_feed]) N_law.length [0] is_law
noncomputable abbrev G_law : GE := Gs [den_earliest, den__law_early, den__law_are_wholes, den__law_wrong_ones, den__law_asked, den__law_hours, den__law_steps, den__law_draw, den__law_feed]
theorem i_law {a0 : PV} {P : PV → Nat → List PV → Prop} (h : SK G_law [is_law] [sl a0, none, none, none, none, none, none, none, none, none, none, none] (RQ [0] P)) : ∃ v m outs, den_law [a0] = some (v, m, outs) ∧ P v m outs := den_sk rfl rfl h
theorem iR_law {a0 : PV} {v : PV} {m : Nat} {outs : List PV} (h : SK G_law [is_law] [sl a0, none, none, none, none, none, none, none, none, none, none, none] (RQ [0] fun a b c => a = v ∧ b = m ∧ c = outs)) : DenR den_law [a0] v m outs := den_skR rfl rfl h
/-! ### the head -/
def d__law_feed : He.DefD := ⟨((PySem.Str.ofString "_law_feed"), none), (PySem.Str.ofString "_law_feed"), (PySem.Str.ofString "_law_feed"), defArgs (top 12), defBody (top 12), defScope (top 12), [], []⟩
def d__law_draw : He.DefD := ⟨((PySem.Str.ofString "_law_draw"), none), (PySem.Str.ofString "_law_draw"), (PySem.Str.ofString "_law_draw"), defArgs (top 13), defBody (top 13), defScope (top 13), [], []⟩
def d__law_step : He.DefD := ⟨((PySem.Str.ofString "_law_step"), none), (PySem.Str.ofString "_law_step"), (PySem.Str.ofString "_law_step"), defArgs (top 16), defBody (top 16), defScope (top 16), [], []⟩
def d__law_steps : He.DefD := ⟨((PySem.Str.ofString "_law_steps"), none), (PySem.Str.ofString "_law_steps"), (PySem.Str.ofString "_law_steps"), defArgs (top 17), defBody (top 17), defScope (top 17), [], []⟩
def d__law_hours : He.DefD := ⟨((PySem.Str.ofString "_law_hours"), none), (PySem.Str.ofString "_law_hours"), (PySem.Str.ofString "_law_hours"), defArgs (top 19), defBody (top 19), defScope (top 19), [], []⟩
def d_depends : He.DefD := ⟨((PySem.Str.ofString "depends"), none), (PySem.Str.ofString "depends"), (PySem.Str.ofString "depends"), defArgs (top 6), defBody (top 6), defScope (top 6), [], []⟩
def d_earliest : He.DefD := ⟨((PySem.Str.ofString "earliest"), none), (PySem.Str.ofString "earliest"), (PySem.Str.ofString "earliest"), defArgs (top 10), defBody (top 10), defScope (top 10), [], []⟩
def d__law_dep : He.DefD := ⟨((PySem.Str.ofString "_law_dep"), none), (PySem.Str.ofString "_law_dep"), (PySem.Str.ofString "_law_dep"), defArgs (top 18), defBody (top 18), defScope (top 18), [], []⟩
def d__law_early : He.DefD := ⟨((PySem.Str.ofString "_law_early"), none), (PySem.Str.ofString "_law_early"), (PySem.Str.ofString "_law_early"), defArgs (top 20), defBody (top 20), defScope (top 20), [], []⟩
def d_check_hours : He.DefD := ⟨((PySem.Str.ofString "check_hours"), none), (PySem.Str.ofString "check_hours"), (PySem.Str.ofString "check_hours"), defArgs (top 9), defBody (top 9), defScope (top 9), [], []⟩
def d__law_is_whole : He.DefD := ⟨((PySem.Str.ofString "_law_is_whole"), none), (PySem.Str.ofString "_law_is_whole"), (PySem.Str.ofString "_law_is_whole"), defArgs (top 14), defBody (top 14), defScope (top 14), [], []⟩
def d__law_asked : He.DefD := ⟨((PySem.Str.ofString "_law_asked"), none), (PySem.Str.ofString "_law_asked"), (PySem.Str.ofString "_law_asked"), defArgs (top 21), defBody (top 21), defScope (top 21), [], []⟩
def d__law_wrong_ones : He.DefD := ⟨((PySem.Str.ofString "_law_wrong_ones"), none), (PySem.Str.ofString "_law_wrong_ones"), (PySem.Str.ofString "_law_wrong_ones"), defArgs (top 22), defBody (top 22), defScope (top 22), [], []⟩
def d__law_are_wholes : He.DefD := ⟨((PySem.Str.ofString "_law_are_wholes"), none), (PySem.Str.ofString "_law_are_wholes"), (PySem.Str.ofString "_law_are_wholes"), defArgs (top 15), defBody (top 15), defScope (top 15), [], []⟩
def d_law : He.DefD := ⟨((PySem.Str.ofString "law"), none), (PySem.Str.ofString "law"), (PySem.Str.ofString "law"), defArgs (top 23), defBody (top 23), defScope (top 23), [], []⟩
def di_BadHours : He.DefD := ⟨((PySem.Str.ofString "BadHours"), some (PySem.Str.ofString "__init__")), (PySem.Str.ofString "__init__"), (PySem.Str.ofString "BadHours.__init__"), defArgs (metOf (top 2) 0), defBody (metOf (top 2) 0), defScope (metOf (top 2) 0), [], []⟩
theorem sci_BadHours : FnScope [(PySem.Str.ofString "self"), (PySem.Str.ofString "at")] [(PySem.Str.ofString "self"), (PySem.Str.ofString "at")] (defScope (metOf (top 2) 0)) := ⟨rfl, rfl, rfl, by decide +kernel, rfl, by decide +kernel, by decide +kernel⟩
def fn : List He.DefD := [d__law_feed, d__law_draw, d__law_step, d__law_steps, d__law_hours, d_depends, d_earliest, d__law_dep, d__law_early, d_check_hours, d__law_is_whole, d__law_asked, d__law_wrong_ones, d__law_are_wholes, d_law, di_BadHours]
def fa : List He.Fa := [.glo (PySem.Str.ofString "_law_feed"), .glo (PySem.Str.ofString "_law_draw"), .glo (PySem.Str.ofString "_law_step"), .glo (PySem.Str.ofString "_law_steps"), .glo (PySem.Str.ofString "_law_hours"), .glo (PySem.Str.ofString "depends"), .glo (PySem.Str.ofString "earliest"), .glo (PySem.Str.ofString "_law_dep"), .glo (PySem.Str.ofString "_law_early"), .glo (PySem.Str.ofString "check_hours"), .glo (PySem.Str.ofString "_law_is_whole"), .glo (PySem.Str.ofString "_law_asked"), .glo (PySem.Str.ofString "_law_wrong_ones"), .glo (PySem.Str.ofString "_law_are_wholes"), .glo (PySem.Str.ofString "law"), .free (PySem.Str.ofString "list"), .free (PySem.Str.ofString "int"), .free (PySem.Str.ofString "len"), .free (PySem.Str.ofString "abs"), .free (PySem.Str.ofString "tuple"), .free (PySem.Str.ofString "range"), .free (PySem.Str.ofString "sorted"), .free (PySem.Str.ofString "any"), .free (PySem.Str.ofString "enumerate"), .free (PySem.Str.ofString "max"), .free (PySem.Str.ofString "bool"), .free (PySem.Str.ofString "isinstance"), .free (PySem.Str.ofString "ValueError"), .int (PySem.Str.ofString "MOST_HOURS") 99]
def loose0 : List PySem.Str := [(PySem.Str.ofString "ShopError"), (PySem.Str.ofString "BadHours"), (PySem.Str.ofString "TooShort"), (PySem.Str.ofString "BadRests"), (PySem.Str.ofString "depends"), (PySem.Str.ofString "MOST_HOURS"), (PySem.Str.ofString "check_hours"), (PySem.Str.ofString "earliest"), (PySem.Str.ofString "_law_feed"), (PySem.Str.ofString "_law_draw"), (PySem.Str.ofString "_law_is_whole"), (PySem.Str.ofString "_law_are_wholes"), (PySem.Str.ofString "_law_step"), (PySem.Str.ofString "_law_steps"), (PySem.Str.ofString "_law_dep"), (PySem.Str.ofString "_law_hours"), (PySem.Str.ofString "_law_early"), (PySem.Str.ofString "_law_asked"), (PySem.Str.ofString "_law_wrong_ones")]
def loose : List PySem.Str := loose0
abbrev Rw : PySem.W.OpenRow := PySem.W.OpenLaw.row PySem.Challenge.rw_daybooktold_k59_hours_checked_and_earlie
def ex (K : PySem.W.Frag) : Bool := xcB K XAs XCs
abbrev hk : PySem.W.Hook := hookE 4 fa fn ex
def ob (s : PySem.W.SharedT) : AlE := obsE 4 fa fn ex (HandSHeadRun.getT s)
theorem ob_eq (s : PySem.W.SharedT) : ob s = hk.obs s.abs := obsE_eq (HandSHeadRun.getT_eq s)
theorem run (w : World) : HandSHeadRun.RunEq Rw (PySem.W.view Rw.prog [23]) hk ob 1840 loose w := by
  intro os
  kernel_rfl
theorem facts {P : Program} {w : World} {K : PySem.W.Frag} {h : Heap} {mg : Str → Option Value} {f : Addr} (X : K.In h) (G : h.Ns mainGlobals mg) (hfa : mg ("law" : Str) = some (.ref f)) (c0 : He.SaysD fa fn K ∧ ex K = true) :
    ∃ fd : FuncData, (∀ (s : Shared) (v : Value), BindsTo s fd ⟨[v], []⟩ [("script", v)]) ∧ ∀ base : Heap, K.In base → base.Ns mainGlobals mg → FnOk P w K mg base CX0 6 f fd ["script"] (spI K [0] den_law) := by
  obtain ⟨c, hex⟩ := c0
  have hxc : xcB K XAs XCs = true := hex
  obtain ⟨fd__law_feed, F__law_feed⟩ := c.def_ 0 (d := d__law_feed) rfl
  obtain ⟨fd__law_draw, F__law_draw⟩ := c.def_ 1 (d := d__law_draw) rfl
  obtain ⟨fd__law_step, F__law_step⟩ := c.def_ 2 (d := d__law_step) rfl
  obtain ⟨fd__law_steps, F__law_steps⟩ := c.def_ 3 (d := d__law_steps) rfl
  obtain ⟨fd__law_hours, F__law_hours⟩ := c.def_ 4 (d := d__law_hours) rfl
  obtain ⟨fd_depends, F_depends⟩ := c.def_ 5 (d := d_depends) rfl
  obtain ⟨fd_earliest, F_earliest⟩ := c.def_ 6 (d := d_earliest) rfl
  obtain ⟨fd__law_dep, F__law_dep⟩ := c.def_ 7 (d := d__law_dep) rfl
  obtain ⟨fd__law_early, F__law_early⟩ := c.def_ 8 (d := d__law_early) rfl
  obtain ⟨fd_check_hours, F_check_hours⟩ := c.def_ 9 (d := d_check_hours) rfl
  obtain ⟨fd__law_is_whole, F__law_is_whole⟩ := c.def_ 10 (d := d__law_is_whole) rfl
  obtain ⟨fd__law_asked, F__law_asked⟩ := c.def_ 11 (d := d__law_asked) rfl
  obtain ⟨fd__law_wrong_ones, F__law_wrong_ones⟩ := c.def_ 12 (d := d__law_wrong_ones) rfl
  obtain ⟨fd__law_are_wholes, F__law_are_wholes⟩ := c.def_ 13 (d := d__law_are_wholes) rfl
  obtain ⟨fd_law, F_law⟩ := c.def_ 14 (d := d_law) rfl
  have g__law_feed := He.glo_ok X G (c.fact 0 (f := .glo (PySem.Str.ofString "_law_feed")) rfl)
  have g__law_draw := He.glo_ok X G (c.fact 1 (f := .glo (PySem.Str.ofString "_law_draw")) rfl)
  have g__law_step := He.glo_ok X G (c.fact 2 (f := .glo (PySem.Str.ofString "_law_step")) rfl)
  have g__law_steps := He.glo_ok X G (c.fact 3 (f := .glo (PySem.Str.ofString "_law_steps")) rfl)
  have g__law_hours := He.glo_ok X G (c.fact 4 (f := .glo (PySem.Str.ofString "_law_hours")) rfl)
  have g_depends := He.glo_ok X G (c.fact 5 (f := .glo (PySem.Str.ofString "depends")) rfl)
  have g_earliest := He.glo_ok X G (c.fact 6 (f := .glo (PySem.Str.ofString "earliest")) rfl)
  have g__law_dep := He.glo_ok X G (c.fact 7 (f := .glo (PySem.Str.ofString "_law_dep")) rfl)
  have g__law_early := He.glo_ok X G (c.fact 8 (f := .glo (PySem.Str.ofString "_law_early")) rfl)
  have g_check_hours := He.glo_ok X G (c.fact 9 (f := .glo (PySem.Str.ofString "check_hours")) rfl)
  have g__law_is_whole := He.glo_ok X G (c.fact 10 (f := .glo (PySem.Str.ofString "_law_is_whole")) rfl)
  have g__law_asked := He.glo_ok X G (c.fact 11 (f := .glo (PySem.Str.ofString "_law_asked")) rfl)
  have g__law_wrong_ones := He.glo_ok X G (c.fact 12 (f := .glo (PySem.Str.ofString "_law_wrong_ones")) rfl)
  have g__law_are_wholes := He.glo_ok X G (c.fact 13 (f := .glo (PySem.Str.ofString "_law_are_wholes")) rfl)
  have g_law := He.glo_ok X G (c.fact 14 (f := .glo (PySem.Str.ofString "law")) rfl)
  have g_list := He.free_ok X G (c.fact 15 (f := .free (PySem.Str.ofString "list")) rfl)
  have g_int := He.free_ok X G (c.fact 16 (f := .free (PySem.Str.ofString "int")) rfl)
  have g_len := He.free_ok X G (c.fact 17 (f := .free (PySem.Str.ofString "len")) rfl)
  have g_abs := He.free_ok X G (c.fact 18 (f := .free (PySem.Str.ofString "abs")) rfl)
  have g_tuple := He.free_ok X G (c.fact 19 (f := .free (PySem.Str.ofString "tuple")) rfl)
  have g_range := He.free_ok X G (c.fact 20 (f := .free (PySem.Str.ofString "range")) rfl)
  have g_sorted := He.free_ok X G (c.fact 21 (f := .free (PySem.Str.ofString "sorted")) rfl)
  have g_any := He.free_ok X G (c.fact 22 (f := .free (PySem.Str.ofString "any")) rfl)
  have g_enumerate := He.free_ok X G (c.fact 23 (f := .free (PySem.Str.ofString "enumerate")) rfl)
  have g_max := He.free_ok X G (c.fact 24 (f := .free (PySem.Str.ofString "max")) rfl)
  have g_bool := He.free_ok X G (c.fact 25 (f := .free (PySem.Str.ofString "bool")) rfl)
  have g_isinstance := He.free_ok X G (c.fact 26 (f := .free (PySem.Str.ofString "isinstance")) rfl)
  have g_ValueError := He.free_ok X G (c.fact 27 (f := .free (PySem.Str.ofString "ValueError")) rfl)
  obtain ⟨t_MOST_HOURS, g_MOST_HOURS⟩ := He.int_ok X G (c.fact 28 (f := .int (PySem.Str.ofString "MOST_HOURS") 99) rfl)
  have c_MOST_HOURS : ∃ u y, mg (PySem.Str.ofString "MOST_HOURS") = some u ∧ RelV y u ∧ ∀ (K : PySem.W.Frag) H O, R K H O (.int 99) y := ⟨_, .int 99, g_MOST_HOURS, ⟨t_MOST_HOURS, rfl⟩, fun _ _ _ => rfl⟩
  have e := hfa.symm.trans g_law
  cases e
  have b := FunD.bindsA (ps := ["script"]) F_law fun _ _ _ _ _ _ us hl => match us, hl with | [_], _ => rfl
  refine ⟨fd_law, fun s v => b s [v] rfl, fun base _ _ => ?_⟩
  have k_BadHours := clsB_ok X G (ca := caOf K XCs) (n := XCs.length) (xa := XAs) (x := (PySem.Str.ofString "BadHours")) (ns := [(PySem.Str.ofString "at")]) (l := [0]) (List.all_eq_true.mp hxc ((PySem.Str.ofString "BadHours"), [(PySem.Str.ofString "at")], [0]) (List.mem_of_getElem? (i := 0) rfl))
  have k_BadRests := clsB_ok X G (ca := caOf K XCs) (n := XCs.length) (xa := XAs) (x := (PySem.Str.ofString "BadRests")) (ns := []) (l := [1]) (List.all_eq_true.mp hxc ((PySem.Str.ofString "BadRests"), [], [1]) (List.mem_of_getElem? (i := 1) rfl))
  have k_TooShort := clsB_ok X G (ca := caOf K XCs) (n := XCs.length) (xa := XAs) (x := (PySem.Str.ofString "TooShort")) (ns := []) (l := [2]) (List.all_eq_true.mp hxc ((PySem.Str.ofString "TooShort"), [], [2]) (List.mem_of_getElem? (i := 2) rfl))
  have k_ShopError := clsB_ok X G (ca := caOf K XCs) (n := XCs.length) (xa := XAs) (x := (PySem.Str.ofString "ShopError")) (ns := []) (l := [0, 1, 2, 3]) (List.all_eq_true.mp hxc ((PySem.Str.ofString "ShopError"), [], [0, 1, 2, 3]) (List.mem_of_getElem? (i := 3) rfl))
  obtain ⟨fdi_BadHours, FI_BadHours⟩ := c.def_ 15 (d := di_BadHours) rfl
  have bi_BadHours : Binds K fdi_BadHours [(PySem.Str.ofString "self"), (PySem.Str.ofString "at")] [] := FI_BadHours.bindsN fun _ _ _ _ _ _ us hl => match us, hl with | [_, _], _ => rfl
  have ini_BadHours : IniOk P w K mg base [(PySem.Str.ofString "at")] (He.ga K (PySem.Str.ofString "BadHours")) := ⟨((k_BadHours).2 (List.cons_ne_nil _ _)).1, _, fdi_BadHours, [(PySem.Str.ofString "self"), (PySem.Str.ofString "at")], ((k_BadHours).2 (List.cons_ne_nil _ _)).2.1, ((k_BadHours).2 (List.cons_ne_nil _ _)).2.2, ini1 FI_BadHours sci_BadHours ((defBody (metOf (top 2) 0)).getD 0 (.Pass ⟨0, 0, 0, 0⟩)) (by rfl) (by decide +kernel) ((k_BadHours).2 (List.cons_ne_nil _ _)).1 ((k_BadHours).1.no (PySem.Str.ofString "at") (by decide)) (by decide) (by decide), bi_BadHours⟩
  have xcx : XcOk P w K mg base (caOf K XCs) XCs.length XAs 0 XCs := ⟨⟨(k_BadHours).1, fun _ => ini_BadHours⟩, ⟨(k_BadRests).1, fun z => absurd rfl z⟩, ⟨(k_TooShort).1, fun z => absurd rfl z⟩, ⟨(k_ShopError).1, fun z => absurd rfl z⟩, trivial⟩
  have T__law_feed : Tb P w K mg base 0 (Gs []) (caOf K XCs) cc__law_feed := ⟨trivial, trivial, ⟨g_list, trivial⟩, (fun x hx => by cases hx), trivial, trivial, trivial, (fun z => absurd rfl z)⟩
  have b__law_feed : Binds K fd__law_feed [(PySem.Str.ofString "script")] [] := F__law_feed.bindsN fun _ _ _ _ _ _ us hl => match us, hl with | [_], _ => rfl
  have e__law_feed := fun (l : Nat) (hl : 1 ≤ l) => (def_x (def_ok (cc := cc__law_feed) F__law_feed sc__law_feed c__law_feed (by decide +kernel) rfl (by decide +kernel) T__law_feed rfl rfl rfl) F__law_feed.kp g__law_feed b__law_feed l hl : DefX P w K mg base l (PySem.Str.ofString "_law_feed") [0] den__law_feed)
  have T__law_draw : Tb P w K mg base 0 (Gs []) (caOf K XCs) cc__law_draw := ⟨trivial, trivial, ⟨g_int, g_len, g_abs, trivial⟩, (fun x hx => by cases hx), trivial, trivial, trivial, (fun z => absurd rfl z)⟩
  have b__law_draw : Binds K fd__law_draw [(PySem.Str.ofString "feed"), (PySem.Str.ofString "many")] [] := F__law_draw.bindsN fun _ _ _ _ _ _ us hl => match us, hl with | [_, _], _ => rfl
  have e__law_draw := fun (l : Nat) (hl : 1 ≤ l) => (def_x (def_ok (cc := cc__law_draw) F__law_draw sc__law_draw c__law_draw (by decide +kernel) rfl (by decide +kernel) T__law_draw rfl rfl rfl) F__law_draw.kp g__law_draw b__law_draw l hl : DefX P w K mg base l (PySem.Str.ofString "_law_draw") [1, 0] den__law_draw)
  have T__law_step : Tb P w K mg base 1 (Gs [den__law_draw]) (caOf K XCs) cc__law_step := ⟨⟨e__law_draw 1 (by decide), trivial⟩, trivial, ⟨g_tuple, g_len, trivial⟩, (fun x hx => by cases hx), trivial, trivial, trivial, (fun z => absurd rfl z)⟩
  have b__law_step : Binds K fd__law_step [(PySem.Str.ofString "feed"), (PySem.Str.ofString "hands"), (PySem.Str.ofString "things"), (PySem.Str.ofString "acts"), (PySem.Str.ofString "thick")] [] := F__law_step.bindsN fun _ _ _ _ _ _ us hl => match us, hl with | [_, _, _, _, _], _ => rfl
  have e__law_step := fun (l : Nat) (hl : 2 ≤ l) => (def_x (def_ok (cc := cc__law_step) F__law_step sc__law_step c__law_step (by decide +kernel) rfl (by decide +kernel) T__law_step rfl rfl rfl) F__law_step.kp g__law_step b__law_step l hl : DefX P w K mg base l (PySem.Str.ofString "_law_step") [1, 0, 0, 0, 0] den__law_step)
  have T__law_steps : Tb P w K mg base 2 (Gs [den__law_step, den__law_draw]) (caOf K XCs) cc__law_steps := ⟨⟨e__law_step 2 (by decide), e__law_draw 2 (by decide), trivial⟩, trivial, ⟨g_range, g_sorted, trivial⟩, (fun x hx => by cases hx), trivial, trivial, trivial, (fun z => absurd rfl z)⟩
  have b__law_steps : Binds K fd__law_steps [(PySem.Str.ofString "feed"), (PySem.Str.ofString "many")] [] := F__law_steps.bindsN fun _ _ _ _ _ _ us hl => match us, hl with | [_, _], _ => rfl
  have e__law_steps := fun (l : Nat) (hl : 3 ≤ l) => (def_x (def_ok (cc := cc__law_steps) F__law_steps sc__law_steps c__law_steps (by decide +kernel) rfl (by decide +kernel) T__law_steps rfl rfl rfl) F__law_steps.kp g__law_steps b__law_steps l hl : DefX P w K mg base l (PySem.Str.ofString "_law_steps") [1, 0] den__law_steps)
  have T__law_hours : Tb P w K mg base 1 (Gs [den__law_draw]) (caOf K XCs) cc__law_hours := ⟨⟨e__law_draw 1 (by decide), trivial⟩, trivial, ⟨g_range, trivial⟩, (fun x hx => by cases hx), trivial, trivial, trivial, (fun z => absurd rfl z)⟩
  have b__law_hours : Binds K fd__law_hours [(PySem.Str.ofString "feed"), (PySem.Str.ofString "many")] [] := F__law_hours.bindsN fun _ _ _ _ _ _ us hl => match us, hl with | [_, _], _ => rfl
  have e__law_hours := fun (l : Nat) (hl : 2 ≤ l) => (def_x (def_ok (cc := cc__law_hours) F__law_hours sc__law_hours c__law_hours (by decide +kernel) rfl (by decide +kernel) T__law_hours rfl rfl rfl) F__law_hours.kp g__law_hours b__law_hours l hl : DefX P w K mg base l (PySem.Str.ofString "_law_hours") [1, 0] den__law_hours)
  have T_depends : Tb P w K mg base 0 (Gs []) (caOf K XCs) cc_depends := ⟨trivial, trivial, ⟨g_any, trivial⟩, (fun x hx => by cases hx), trivial, trivial, trivial, (fun z => absurd rfl z)⟩
  have b_depends : Binds K fd_depends [(PySem.Str.ofString "step"), (PySem.Str.ofString "other")] [] := F_depends.bindsN fun _ _ _ _ _ _ us hl => match us, hl with | [_, _], _ => rfl
  have e_depends := fun (l : Nat) (hl : 1 ≤ l) => (def_x (def_ok (cc := cc_depends) F_depends sc_depends c_depends (by decide +kernel) rfl (by decide +kernel) T_depends rfl rfl rfl) F_depends.kp g_depends b_depends l hl : DefX P w K mg base l (PySem.Str.ofString "depends") [0, 0] den_depends)
  have T_earliest : Tb P w K mg base 1 (Gs [den_depends]) (caOf K XCs) cc_earliest := ⟨⟨e_depends 1 (by decide), trivial⟩, trivial, ⟨g_enumerate, g_max, g_range, trivial⟩, (fun x hx => by cases hx), trivial, trivial, trivial, (fun z => absurd rfl z)⟩
  have b_earliest : Binds K fd_earliest [(PySem.Str.ofString "steps"), (PySem.Str.ofString "hours")] [] := F_earliest.bindsN fun _ _ _ _ _ _ us hl => match us, hl with | [_, _], _ => rfl
  have e_earliest := fun (l : Nat) (hl : 2 ≤ l) => (def_x (def_ok (cc := cc_earliest) F_earliest sc_earliest c_earliest (by decide +kernel) rfl (by decide +kernel) T_earliest rfl rfl rfl) F_earliest.kp g_earliest b_earliest l hl : DefX P w K mg base l (PySem.Str.ofString "earliest") [0, 0] den_earliest)
  have T__law_dep : Tb P w K mg base 0 (Gs []) (caOf K XCs) cc__law_dep := ⟨trivial, trivial, ⟨g_len, trivial⟩, (fun x hx => by cases hx), trivial, trivial, trivial, (fun z => absurd rfl z)⟩
  have b__law_dep : Binds K fd__law_dep [(PySem.Str.ofString "one"), (PySem.Str.ofString "other")] [] := F__law_dep.bindsN fun _ _ _ _ _ _ us hl => match us, hl with | [_, _], _ => rfl
  have e__law_dep := fun (l : Nat) (hl : 1 ≤ l) => (def_x (def_ok (cc := cc__law_dep) F__law_dep sc__law_dep c__law_dep (by decide +kernel) rfl (by decide +kernel) T__law_dep rfl rfl rfl) F__law_dep.kp g__law_dep b__law_dep l hl : DefX P w K mg base l (PySem.Str.ofString "_law_dep") [0, 0] den__law_dep)
  have T__law_early : Tb P w K mg base 1 (Gs [den__law_dep]) (caOf K XCs) cc__law_early := ⟨⟨e__law_dep 1 (by decide), trivial⟩, trivial, ⟨g_range, g_len, g_max, trivial⟩, (fun x hx => by cases hx), trivial, trivial, trivial, (fun z => absurd rfl z)⟩
  have b__law_early : Binds K fd__law_early [(PySem.Str.ofString "steps"), (PySem.Str.ofString "hours")] [] := F__law_early.bindsN fun _ _ _ _ _ _ us hl => match us, hl with | [_, _], _ => rfl
  have e__law_early := fun (l : Nat) (hl : 2 ≤ l) => (def_x (def_ok (cc := cc__law_early) F__law_early sc__law_early c__law_early (by decide +kernel) rfl (by decide +kernel) T__law_early rfl rfl rfl) F__law_early.kp g__law_early b__law_early l hl : DefX P w K mg base l (PySem.Str.ofString "_law_early") [0, 0] den__law_early)
  have T_check_hours : Tb P w K mg base 2 (Gs []) (caOf K XCs) cc_check_hours := ⟨trivial, ⟨c_MOST_HOURS, trivial⟩, ⟨g_enumerate, g_len, trivial⟩, (fun x hx => by cases hx), trivial, trivial, xcx, (fun _ => by decide)⟩
  have b_check_hours : Binds K fd_check_hours [(PySem.Str.ofString "steps"), (PySem.Str.ofString "hours")] [] := F_check_hours.bindsN fun _ _ _ _ _ _ us hl => match us, hl with | [_, _], _ => rfl
  have e_check_hours := fun (l : Nat) (hl : 3 ≤ l) => (def_r (def_okR (cc := cc_check_hours) F_check_hours sc_check_hours c_check_hours (by decide +kernel) rfl (by decide +kernel) T_check_hours rfl rfl) F_check_hours.kp g_check_hours b_check_hours l hl : DefR P w K mg base (caOf K XCs) l (PySem.Str.ofString "check_hours") [0, 0] den_check_hours)
  have T__law_is_whole : Tb P w K mg base 0 (Gs []) (caOf K XCs) cc__law_is_whole := ⟨trivial, trivial, ⟨g_bool, g_isinstance, g_int, trivial⟩, (fun x hx => by cases hx), trivial, trivial, trivial, (fun z => absurd rfl z)⟩
  have b__law_is_whole : Binds K fd__law_is_whole [(PySem.Str.ofString "x")] [] := F__law_is_whole.bindsN fun _ _ _ _ _ _ us hl => match us, hl with | [_], _ => rfl
  have e__law_is_whole := fun (l : Nat) (hl : 1 ≤ l) => (def_x (def_ok (cc := cc__law_is_whole) F__law_is_whole sc__law_is_whole c__law_is_whole (by decide +kernel) rfl (by decide +kernel) T__law_is_whole rfl rfl rfl) F__law_is_whole.kp g__law_is_whole b__law_is_whole l hl : DefX P w K mg base l (PySem.Str.ofString "_law_is_whole") [0] den__law_is_whole)
  have TH__law_is_whole : Tb P w K mg base 0 (Gs []) (caOf K XCs) { cch__law_is_whole with fns := [] } := ⟨trivial, trivial, ⟨g_bool, g_isinstance, g_int, trivial⟩, (fun x hx => by cases hx), trivial, trivial, trivial, fun z => absurd rfl z⟩
  have h__law_is_whole := fun (l : Nat) (hl : 1 ≤ l) => (def_h (def_okH (cc := cch__law_is_whole) F__law_is_whole sc__law_is_whole ch__law_is_whole (by decide +kernel) rfl (by decide +kernel) (show RowsOk (DefH P w K mg base 0) (Gs []) fns__law_is_whole from trivial) TH__law_is_whole rfl rfl rfl) F__law_is_whole.kp g__law_is_whole b__law_is_whole l hl : DefH P w K mg base l (PySem.Str.ofString "_law_is_whole") [0] den__law_is_whole)
  have T__law_asked : Tb P w K mg base 3 (Gs [den_check_hours, den__law_is_whole]) (caOf K XCs) cc__law_asked := ⟨⟨e__law_is_whole 3 (by decide), trivial⟩, trivial, ⟨g_list, g_isinstance, g_ValueError, trivial⟩, (fun x hx => by cases hx), ⟨e_check_hours 3 (by decide), trivial⟩, ⟨h__law_is_whole 3 (by decide), trivial⟩, xcx, (fun _ => by decide)⟩
  have b__law_asked : Binds K fd__law_asked [(PySem.Str.ofString "steps"), (PySem.Str.ofString "hours")] [] := F__law_asked.bindsN fun _ _ _ _ _ _ us hl => match us, hl with | [_, _], _ => rfl
  have e__law_asked := fun (l : Nat) (hl : 4 ≤ l) => (def_x (def_ok (cc := cc__law_asked) F__law_asked sc__law_asked c__law_asked (by decide +kernel) rfl (by decide +kernel) T__law_asked rfl rfl rfl) F__law_asked.kp g__law_asked b__law_asked l hl : DefX P w K mg base l (PySem.Str.ofString "_law_asked") [0, 0] den__law_asked)
  have T__law_wrong_ones : Tb P w K mg base 4 (Gs [den__law_asked, den__law_draw]) (caOf K XCs) cc__law_wrong_ones := ⟨⟨e__law_asked 4 (by decide), e__law_draw 4 (by decide), trivial⟩, trivial, ⟨g_len, trivial⟩, (fun x hx => by cases hx), trivial, trivial, trivial, (fun z => absurd rfl z)⟩
  have b__law_wrong_ones : Binds K fd__law_wrong_ones [(PySem.Str.ofString "feed"), (PySem.Str.ofString "steps"), (PySem.Str.ofString "hours")] [] := F__law_wrong_ones.bindsN fun _ _ _ _ _ _ us hl => match us, hl with | [_, _, _], _ => rfl
  have e__law_wrong_ones := fun (l : Nat) (hl : 5 ≤ l) => (def_x (def_ok (cc := cc__law_wrong_ones) F__law_wrong_ones sc__law_wrong_ones c__law_wrong_ones (by decide +kernel) rfl (by decide +kernel) T__law_wrong_ones rfl rfl rfl) F__law_wrong_ones.kp g__law_wrong_ones b__law_wrong_ones l hl : DefX P w K mg base l (PySem.Str.ofString "_law_wrong_ones") [1, 0, 0] den__law_wrong_ones)
  have T__law_are_wholes : Tb P w K mg base 1 (Gs [den__law_is_whole]) (caOf K XCs) cc__law_are_wholes := ⟨⟨e__law_is_whole 1 (by decide), trivial⟩, trivial, ⟨g_len, g_list, g_isinstance, trivial⟩, (fun x hx => by cases hx), trivial, trivial, trivial, (fun z => absurd rfl z)⟩
  have b__law_are_wholes : Binds K fd__law_are_wholes [(PySem.Str.ofString "row"), (PySem.Str.ofString "many")] [] := F__law_are_wholes.bindsN fun _ _ _ _ _ _ us hl => match us, hl with | [_, _], _ => rfl
  have e__law_are_wholes := fun (l : Nat) (hl : 2 ≤ l) => (def_x (def_ok (cc := cc__law_are_wholes) F__law_are_wholes sc__law_are_wholes c__law_are_wholes (by decide +kernel) rfl (by decide +kernel) T__law_are_wholes rfl rfl rfl) F__law_are_wholes.kp g__law_are_wholes b__law_are_wholes l hl : DefX P w K mg base l (PySem.Str.ofString "_law_are_wholes") [0, 0] den__law_are_wholes)
  have T_law : Tb P w K mg base 5 (Gs [den_earliest, den__law_early, den__law_are_wholes, den__law_wrong_ones, den__law_asked, den__law_hours, den__law_steps, den__law_draw, den__law_feed]) (caOf K XCs) cc_law := ⟨⟨e_earliest 5 (by decide), e__law_early 5 (by decide), e__law_are_wholes 5 (by decide), e__law_wrong_ones 5 (by decide), e__law_asked 5 (by decide), e__law_hours 5 (by decide), e__law_steps 5 (by decide), e__law_draw 5 (by decide), e__law_feed 5 (by decide), trivial⟩, trivial, ⟨g_range, g_list, trivial⟩, (fun x hx => by cases hx), trivial, trivial, trivial, (fun z => absurd rfl z)⟩
  exact def_ok (cc := cc_law) F_law sc_law c_law (by decide +kernel) rfl (by decide +kernel) T_law rfl rfl rfl
end Law
namespace Law
open PySem PySem.Spec PyProof.Rows L2 VI
/-- the feed of draws -/
abbrev feedV (ns : List Int) (i : Nat) (big seed : Int) : PV := .lst [.lst (ns.map PV.int), .int i, .int big, .int seed]
def FeedOk (v : PV) : Prop := ∃ (ns : List Int) (i : Nat) (big seed : Int), v = feedV ns i big seed ∧ 0 ≤ big ∧ 0 ≤ seed ∧ seed < 2147483647
theorem iabs_nonneg (x : Int) : 0 ≤ iabs x := by unfold iabs; split <;> omega
theorem emod_rng {x m : Int} (h : 0 < m) : 0 ≤ x % m ∧ x % m < m := ⟨Int.emod_nonneg _ (by omega), Int.emod_lt_of_pos _ h⟩
theorem draw_ok {w : PV} {many : Int} (hw : FeedOk w) (h0 : 0 < many) (h1 : many < 18446744073709551616) : ∃ (r : Int) (w' : PV), DenR den__law_draw [w, .int many] (.int r) 0 [w'] ∧ 0 ≤ r ∧ r < many ∧ FeedOk w' := by
  obtain ⟨ns, i, big, seed, rfl, hb, h2, h3⟩ := hw
  suffices h : ∃ v m outs, den__law_draw [feedV ns i big seed, .int many] = some (v, m, outs) ∧ ∃ r w', v = .int r ∧ m = 0 ∧ outs = [w'] ∧ 0 ≤ r ∧ r < many ∧ FeedOk w' by
    obtain ⟨v, m, outs, e, r, w', rfl, rfl, rfl, a, b, c⟩ := h
    exact ⟨r, w', ⟨e⟩, a, b, c⟩
  refine i__law_draw ?_
  have hx := iabs_nonneg (ns.getD i default)
  have key : ∀ (x big' seed' : Int) (i' : Nat), 0 ≤ big' → 0 ≤ seed' → seed' < 2147483647 → ∃ r w', PV.int (x % many) = .int r ∧ 0 = 0 ∧ [feedV ns i' big' seed'] = [w'] ∧ 0 ≤ r ∧ r < many ∧ FeedOk w' := fun x b s i' h4 h5 h6 =>
    ⟨_, _, rfl, rfl, rfl, (emod_rng h0).1, (emod_rng h0).2, ns, i', b, s, rfl, h4, h5, h6⟩
  have hd : ∀ x : Int, 0 ≤ x → 0 ≤ x / many := fun x hx => Int.ediv_nonneg hx (by omega)
  walk_at "vsteps"
  · exact key _ _ _ (i + 1) (hd _ hx) h2 h3
  · exact key _ _ _ (i + 1) (by omega) (by omega) (by omega)
  · exact key _ _ _ i (hd _ hb) h2 h3
  · exact key _ _ _ i hb (by omega) (by omega)
instance r_whole {x : Int} : DenR den__law_is_whole [.int x] (.bl true) 0 [] := iR__law_is_whole (by walk_at "vsteps"; exact ⟨rfl, rfl, rfl⟩)
theorem feed_ok (ns : List Int) : ∃ w, DenR den__law_feed [.scr (ns.map PV.int)] w 1 [] ∧ FeedOk w :=
  ⟨feedV ns 0 0 1, iR__law_feed (by walk_at "vsteps"; exact ⟨rfl, rfl, rfl⟩), ns, 0, 0, 1, rfl, by decide, by decide, by decide⟩
/-- a comprehension that draws -/
theorem lc_feed {G : GE} {own : List Nat} {pt : Pat} {it : IT} {ts : IEs} {e : IE} {k : Nat} {als : List Nat} {fr : Fr} {vs : List PV} {src : List Nat} {C : Prop} (F : PV → Fr) {w0 : PV} [wi : WIc G it fr C (F w0) vs src []] (c : C) (hw : FeedOk w0) {α : Type} (g : α → PV) (P : Nat → α → Prop)
    (h : ∀ (n : Nat) v w, vs[n]? = some v → FeedOk w → ∃ a w', LTs G own pt ts e k als (F w) v (some (g a)) (F w') ∧ FeedOk w' ∧ P n a)
    (d1 : disj src (mutdL ts ++ mutd e) = true) (d2 : disj als (mutdL ts ++ mutd e) = true) (hz : vs.length ≤ 16777216) (no : ∀ i ∈ own, ((F w0)[i]?).join = none) (w00 : ∀ w, wipeF (F w) own = F w) :
    ∃ (l : List α) (w' : PV), WV G (.lc own pt it ts e k als) fr (F w') ⟨.lst (l.map g), k, als, false⟩ ∧ FeedOk w' ∧ l.length = vs.length ∧ ∀ (n : Nat) a, l[n]? = some a → P n a := by
  obtain ⟨w', acc, i, ⟨h1, l, rfl, h2, h3⟩, _⟩ := lc_st (G := G) (own := own) (pt := pt) (it := it) (ts := ts) (e := e) (k := k) (als := als) (fr := fr) c d1 d2 hz (st := F) (I := fun n w acc => FeedOk w ∧ ∃ l : List α, acc = l.map g ∧ l.length = n ∧ ∀ (n : Nat) a, l[n]? = some a → P n a) w0 rfl ⟨hw, [], rfl, rfl, fun n a z => by simp at z⟩ no
    (fun n v w acc hv ⟨hw, l, e1, e2, e3⟩ => by
      obtain ⟨a, w', t, hw', p⟩ := h n v w hv hw
      refine ⟨_, w', t, w00 _, hw', l ++ [a], by rw [e1]; simp, by simp [e2], fun j b hj => ?_⟩
      by_cases hjl : j < l.length
      · rw [List.getElem?_append_left hjl] at hj
        exact e3 j b hj
      · rw [List.getElem?_append_right (by omega)] at hj
        have : j = l.length := by
          refine Classical.byContradiction fun q => ?_
          rw [List.getElem?_eq_none (by simp; omega)] at hj; cases hj
        subst this
        rw [Nat.sub_self] at hj
        cases hj
        rw [e2]; exact p) (w00 _)
  exact ⟨l, w', i, h1, h2, h3⟩
/-- the same, where the comprehension's own names were bound before -/
theorem lc_feedB {G : GE} {own : List Nat} {pt : Pat} {it : IT} {ts : IEs} {e : IE} {k : Nat} {als : List Nat} {fr fr1 : Fr} {vs : List PV} {src : List Nat} {C : Prop} (F : PV → Fr) {w0 : PV} [wi : WIc G it fr C fr1 vs src []] (c : C) (h0 : wipeF fr1 own = F w0) (hw : FeedOk w0) {α : Type} (g : α → PV) (P : Nat → α → Prop)
    (h : ∀ (n : Nat) v w, vs[n]? = some v → FeedOk w → ∃ a w', LTs G own pt ts e k als (F w) v (some (g a)) (F w') ∧ FeedOk w' ∧ P n a)
    (d1 : disj src (mutdL ts ++ mutd e) = true) (d2 : disj als (mutdL ts ++ mutd e) = true) (hz : vs.length ≤ 16777216) (w00 : ∀ w, wipeF (F w) own = F w) :
    ∃ (l : List α) (w' : PV), WV G (.lc own pt it ts e k als) fr (backF fr1 (F w') own) ⟨.lst (l.map g), k, als, false⟩ ∧ FeedOk w' ∧ l.length = vs.length ∧ ∀ (n : Nat) a, l[n]? = some a → P n a := by
  obtain ⟨w', acc, i, ⟨h1, l, rfl, h2, h3⟩, _⟩ := lc_stB (G := G) (own := own) (pt := pt) (it := it) (ts := ts) (e := e) (k := k) (als := als) (fr := fr) c d1 d2 hz (st := F) (I := fun n w acc => FeedOk w ∧ ∃ l : List α, acc = l.map g ∧ l.length = n ∧ ∀ (n : Nat) a, l[n]? = some a → P n a) w0 h0 ⟨hw, [], rfl, rfl, fun n a z => by simp at z⟩
    (fun n v w acc hv ⟨hw, l, e1, e2, e3⟩ => by
      obtain ⟨a, w', t, hw', p⟩ := h n v w hv hw
      refine ⟨_, w', t, w00 _, hw', l ++ [a], by rw [e1]; simp, by simp [e2], fun j b hj => ?_⟩
      by_cases hjl : j < l.length
      · rw [List.getElem?_append_left hjl] at hj
        exact e3 j b hj
      · rw [List.getElem?_append_right (by omega)] at hj
        have : j = l.length := by
          refine Classical.byContradiction fun q => ?_
          rw [List.getElem?_eq_none (by simp; omega)] at hj; cases hj
        subst this
        rw [Nat.sub_self] at hj
        cases hj
        rw [e2]; exact p) (w00 _)
  exact ⟨l, w', i, h1, h2, h3⟩
/-- one that draws, and leaves things out -/
theorem lc_feedF {G : GE} {own : List Nat} {pt : Pat} {it : IT} {ts : IEs} {e : IE} {k : Nat} {als : List Nat} {fr : Fr} {vs : List PV} {src : List Nat} {C : Prop} (F : PV → Fr) {w0 : PV} [wi : WIc G it fr C (F w0) vs src []] (c : C) (hw : FeedOk w0) {α : Type} (g : α → PV) (P : α → Prop)
    (h : ∀ (n : Nat) v w, vs[n]? = some v → FeedOk w → ∃ r w', LTs G own pt ts e k als (F w) v r (F w') ∧ FeedOk w' ∧ (r = none ∨ ∃ a, r = some (g a) ∧ P a))
    (d1 : disj src (mutdL ts ++ mutd e) = true) (d2 : disj als (mutdL ts ++ mutd e) = true) (hz : vs.length ≤ 16777216) (no : ∀ i ∈ own, ((F w0)[i]?).join = none) (w00 : ∀ w, wipeF (F w) own = F w) :
    ∃ (l : List α) (w' : PV), WV G (.lc own pt it ts e k als) fr (F w') ⟨.lst (l.map g), k, als, false⟩ ∧ FeedOk w' ∧ l.length ≤ vs.length ∧ ∀ a ∈ l, P a := by
  obtain ⟨w', acc, i, ⟨h1, l, rfl, h2, h3⟩, _⟩ := lc_st (G := G) (own := own) (pt := pt) (it := it) (ts := ts) (e := e) (k := k) (als := als) (fr := fr) c d1 d2 hz (st := F) (I := fun n w acc => FeedOk w ∧ ∃ l : List α, acc = l.map g ∧ l.length ≤ n ∧ ∀ a ∈ l, P a) w0 rfl ⟨hw, [], rfl, Nat.le_refl _, fun a z => nomatch z⟩ no
    (fun n v w acc hv ⟨hw, l, e1, e2, e3⟩ => by
      obtain ⟨r, w', t, hw', p⟩ := h n v w hv hw
      refine ⟨r, w', t, w00 _, hw', ?_⟩
      rcases p with rfl | ⟨a, rfl, p⟩
      · exact ⟨l, by rw [e1]; simp, by omega, e3⟩
      · refine ⟨l ++ [a], by rw [e1]; simp, by simp; omega, fun b hb => ?_⟩
        rcases List.mem_append.mp hb with hb | hb
        · exact e3 b hb
        · rw [List.mem_singleton.mp hb]; exact p) (w00 _)
  exact ⟨l, w', i, h1, h2, h3⟩
end Law
namespace Law
open PySem PySem.Spec PyProof.Rows L2 VI
theorem depends_ok {s t : Stp} (hs : SOk s) : DenR den_depends [stV s, stV t] (.bl (dep s t)) 0 [] := by
  refine iR_depends ?_
  unfold SOk at hs
  haveI : WV G_depends lc0_depends [sl (stV s), sl (stV t), none] _ _ := lc_map (fr0 := [sl (stV s), sl (stV t), none]) (g := sv) (l := s.ts) (fun x => decide (x ∈ t.ts)) PV.bl (by trivial) rfl rfl rfl (by omega) (fun x hx => lt_of trivial rfl rfl rfl)
  have hh : (s.h.1 = t.h.1) = (s.h = t.h) := propext ⟨Subtype.ext, fun z => by rw [z]⟩
  walk_at "vsteps"
  · rename_i hc
    rw [hh] at hc
    refine ⟨congrArg PV.bl ?_, rfl, rfl⟩
    unfold dep
    rw [decide_eq_true hc]; rfl
  · rename_i hc
    rw [hh] at hc
    refine ⟨congrArg PV.bl ?_, rfl, rfl⟩
    unfold dep
    rw [decide_eq_false hc, Bool.false_or, List.any_map]; rfl
theorem ldep_ok {s t : Stp} (hs : SOk s) : DenR den__law_dep [stV s, stV t] (.bl (dep s t)) 0 [] := by
  refine iR__law_dep ?_
  unfold SOk at hs
  haveI : WV G__law_dep lc0__law_dep [sl (stV s), sl (stV t), none] _ _ := lc_filt (fr0 := [sl (stV s), sl (stV t), none]) (g := sv) (l := s.ts) (fun x => decide (x ∈ t.ts)) sv (by trivial) rfl rfl rfl (by omega) (fun x hx => lt_if (b := decide (x ∈ t.ts)) trivial (fun _ => trivial) rfl rfl rfl rfl)
  have hh : (s.h.1 = t.h.1) = (s.h = t.h) := propext ⟨Subtype.ext, fun z => by rw [z]⟩
  walk_at "vsteps"
  · rename_i hc
    rw [hh] at hc
    refine ⟨congrArg PV.bl ?_, rfl, rfl⟩
    unfold dep
    rw [decide_eq_true hc]; rfl
  · rename_i hc
    rw [hh] at hc
    refine ⟨congrArg PV.bl ?_, rfl, rfl⟩
    unfold dep
    rw [decide_eq_false hc, Bool.false_or, Bool.eq_iff_iff, decide_eq_true_eq, List.any_eq_true]
    constructor
    · intro h
      obtain ⟨x, hx⟩ := List.exists_mem_of_length_pos (show 0 < (s.ts.filter fun x => decide (x ∈ t.ts)).length by omega)
      exact ⟨x, (List.mem_filter.mp hx).1, (List.mem_filter.mp hx).2⟩
    · rintro ⟨x, h1, h2⟩
      have := List.length_pos_of_mem (List.mem_filter (p := fun x => decide (x ∈ t.ts)) |>.mpr ⟨h1, h2⟩)
      omega
abbrev sl' (l : List OS) : PV := .lst (l.map sv)
theorem step_ok {w : PV} {hs ths acs : List OS} {k : Int} (hw : FeedOk w) (hk : 0 < k ∧ k ≤ 10) (h1 : 0 < hs.length ∧ hs.length ≤ 10) (h2 : ths.length ≤ 10) (h3 : 0 < acs.length ∧ acs.length ≤ 10) :
    ∃ s w', DenR den__law_step [w, sl' hs, sl' ths, sl' acs, .int k] (stV s) 0 [w'] ∧ FeedOk w' ∧ SOk s := by
  suffices h : ∃ v m outs, den__law_step [w, sl' hs, sl' ths, sl' acs, .int k] = some (v, m, outs) ∧ ∃ s w', v = stV s ∧ m = 0 ∧ outs = [w'] ∧ FeedOk w' ∧ SOk s by
    obtain ⟨v, m, outs, e, s, w', rfl, rfl, rfl, h⟩ := h
    exact ⟨s, w', ⟨e⟩, h⟩
  refine i__law_step ?_
  obtain ⟨w1, acc, i1, ⟨hw1, own, rfl, ho⟩, _⟩ := lc_st (G := G__law_step) (own := [6]) (pt := .nm 6) (it := .seq (.var 2)) (ts := (.cons (.prim .eq (.cons (.call 0 [1, 0] false (.cons (.var 0) (.cons (.var 4) .nil))) (.cons (.cst (.int 0)) .nil))) .nil)) (e := .var 6) (k := 1) (als := []) (fr := [slp w, sl (sl' hs), sl (sl' ths), sl (sl' acs), sl (.int k), none, none]) trivial rfl rfl (by simp; omega)
    (st := fun w => [slp w, sl (sl' hs), sl (sl' ths), sl (sl' acs), sl (.int k), none, none]) (I := fun q w acc => FeedOk w ∧ ∃ xs : List OS, acc = xs.map sv ∧ xs.length ≤ q) w rfl ⟨hw, [], rfl, Nat.le_refl _⟩ (fun i hi => by simp at hi; subst hi; rfl)
    (fun q v w acc hv ⟨hw, xs, e1, e2⟩ => by
      obtain ⟨r, w', d, a, b, hw'⟩ := draw_ok hw (many := k) (by omega) (by omega)
      obtain ⟨z, _, rfl⟩ := List.mem_map.mp (List.mem_of_getElem? hv)
      refine ⟨_, w', lts_if (b := decide (r = 0)) trivial (fun _ => trivial) rfl rfl rfl rfl, rfl, hw', if decide (r = 0) = true then xs ++ [z] else xs, ?_, ?_⟩
      · subst e1; by_cases c : r = 0 <;> simp [c]
      · by_cases c : r = 0 <;> simp [c] <;> omega) rfl
  rw [List.length_map] at ho
  obtain ⟨r2, w2, d2, a2, b2, hw2⟩ := draw_ok hw1 (many := hs.length) (by omega) (by omega)
  obtain ⟨r3, w3, d3, a3, b3, hw3⟩ := draw_ok hw2 (many := acs.length) (by omega) (by omega)
  haveI := i1
  walk_at "vsteps"
  refine ⟨⟨hs.getD r2.toNat default, acs.getD r3.toNat default, own.take 4⟩, w3, rfl, rfl, rfl, hw3, ?_⟩
  unfold SOk
  rw [List.length_take]
  omega
abbrev os (x : PySem.Str) (h : PyData.strOk x = true := by decide +kernel) : OS := ⟨x, ⟨h⟩⟩
def hands : List OS := [os (PySem.Str.ofString "ann"), os (PySem.Str.ofString "bob"), os (PySem.Str.ofString "cy"), os (PySem.Str.ofString "dot"), os (PySem.Str.ofString "annabell")]
def things : List OS := [os (PySem.Str.ofString "axe"), os (PySem.Str.ofString "box"), os (PySem.Str.ofString "cup"), os (PySem.Str.ofString "dye"), os (PySem.Str.ofString "axes")]
def acts : List OS := [os (PySem.Str.ofString "cut"), os (PySem.Str.ofString "dry"), os (PySem.Str.ofString "mend"), os (PySem.Str.ofString "oil")]
instance cut_hands {i : Int} : Cut [PV.str (PySem.Str.ofString "ann"), PV.str (PySem.Str.ofString "bob"), PV.str (PySem.Str.ofString "cy"), PV.str (PySem.Str.ofString "dot"), PV.str (PySem.Str.ofString "annabell")] none (some i) (0 ≤ i) ((hands.take i.toNat).map sv) := (inferInstance : Cut (hands.map sv) none (some i) _ _)
instance cut_things {i : Int} : Cut [PV.str (PySem.Str.ofString "axe"), PV.str (PySem.Str.ofString "box"), PV.str (PySem.Str.ofString "cup"), PV.str (PySem.Str.ofString "dye"), PV.str (PySem.Str.ofString "axes")] none (some i) (0 ≤ i) ((things.take i.toNat).map sv) := (inferInstance : Cut (things.map sv) none (some i) _ _)
instance cut_acts {i : Int} : Cut [PV.str (PySem.Str.ofString "cut"), PV.str (PySem.Str.ofString "dry"), PV.str (PySem.Str.ofString "mend"), PV.str (PySem.Str.ofString "oil")] none (some i) (0 ≤ i) ((acts.take i.toNat).map sv) := (inferInstance : Cut (acts.map sv) none (some i) _ _)
theorem steps_ok {w : PV} {many : Int} (hw : FeedOk w) (h0 : 0 ≤ many) (h1 : many ≤ 24) : ∃ ss w', DenR den__law_steps [w, .int many] (ssV ss) 1 [w'] ∧ FeedOk w' ∧ SsOk ss ∧ (ss.length : Int) = many := by
  suffices h : ∃ v m outs, den__law_steps [w, .int many] = some (v, m, outs) ∧ ∃ ss w', v = ssV ss ∧ m = 1 ∧ outs = [w'] ∧ FeedOk w' ∧ SsOk ss ∧ (ss.length : Int) = many by
    obtain ⟨v, m, outs, e, s, w', rfl, rfl, rfl, h⟩ := h
    exact ⟨s, w', ⟨e⟩, h⟩
  refine i__law_steps ?_
  obtain ⟨r1, w1, d1, a1, b1, hw1⟩ := draw_ok hw (many := 5) (by decide) (by decide)
  obtain ⟨r2, w2, d2, a2, b2, hw2⟩ := draw_ok hw1 (many := 6) (by decide) (by decide)
  obtain ⟨r3, w3, d3, a3, b3, hw3⟩ := draw_ok hw2 (many := 4) (by decide) (by decide)
  obtain ⟨r4, w4, d4, a4, b4, hw4⟩ := draw_ok hw3 (many := 4) (by decide) (by decide)
  have hh : 0 < (hands.take (1 + r1).toNat).length ∧ (hands.take (1 + r1).toNat).length ≤ 10 := by
    rw [List.length_take]
    have : hands.length = 5 := rfl
    omega
  have ht0 : (things.take r2.toNat).length ≤ 10 := by
    rw [List.length_take]
    have : things.length = 5 := rfl
    omega
  have ht : (srtO (things.take r2.toNat)).length ≤ 10 := by rw [(srtO_perm _).length_eq]; exact ht0
  have ha : 0 < (acts.take (1 + r3).toNat).length ∧ (acts.take (1 + r3).toNat).length ≤ 10 := by
    rw [List.length_take]
    have : acts.length = 4 := rfl
    omega
  obtain ⟨ss, w5, i1, hw5, hl, hs⟩ := lc_feed (G := G__law_steps) (own := [6]) (pt := .nm 6) (it := (.rng1 (.var 1))) (ts := .nil) (e := (.call 0 [1, 0, 0, 0, 0] false (.cons (.var 0) (.cons (.var 2) (.cons (.var 3) (.cons (.var 4) (.cons (.var 5) .nil))))))) (k := 1) (als := [2, 3, 4, 5]) (fr := [slp w4, sl (.int many), sl (sl' (hands.take (1 + r1).toNat)), sl (sl' (srtO (things.take r2.toNat))), sl (sl' (acts.take (1 + r3).toNat)), sl (.int (2 + r4)), none])
    (fun w => [slp w, sl (.int many), sl (sl' (hands.take (1 + r1).toNat)), sl (sl' (srtO (things.take r2.toNat))), sl (sl' (acts.take (1 + r3).toNat)), sl (.int (2 + r4)), none]) (w0 := w4) (by omega) hw4 stV (fun _ s => SOk s) (fun n v w hv hw => by
      obtain ⟨s, w', d, hw', hs'⟩ := step_ok hw (k := 2 + r4) (by omega) hh ht ha
      exact ⟨s, w', lts_of trivial rfl rfl rfl, hw', hs'⟩) rfl rfl (by rw [rangeP_I, List.length_map, rgI_length]; omega) (fun i hi => by simp at hi; subst hi; rfl) (fun w => rfl)
  haveI := i1
  walk_at "vsteps"
  rw [rangeP_I, List.length_map, rgI_length] at hl
  refine ⟨ss, w5, rfl, rfl, rfl, hw5, ⟨by omega, fun s h => ?_⟩, by omega⟩
  obtain ⟨k, hk⟩ := List.getElem?_of_mem h
  exact hs k s hk
end Law
namespace Law
open PySem PySem.Spec PyProof.Rows L2 VI
/-! plans: earliest and latest beginnings -/
structure IsMx (P : Int → Prop) (M : Int) : Prop where
  nn : 0 ≤ M
  up : ∀ x, P x → x ≤ M
  at_ : M = 0 ∨ P M
structure IsMn (L : Int) (P : Int → Prop) (M : Int) : Prop where
  nn : M ≤ L
  up : ∀ x, P x → M ≤ x
  at_ : M = L ∨ P M
theorem IsMx.uniq {P : Int → Prop} {M N : Int} (h : IsMx P M) (g : IsMx P N) : M = N := by
  have h1 : M ≤ N := h.at_.elim (fun e => e ▸ g.nn) (g.up M)
  have h2 : N ≤ M := g.at_.elim (fun e => e ▸ h.nn) (h.up N)
  omega
theorem IsMn.uniq {L : Int} {P : Int → Prop} {M N : Int} (h : IsMn L P M) (g : IsMn L P N) : M = N := by
  have h1 : N ≤ M := h.at_.elim (fun e => e ▸ g.nn) (g.up M)
  have h2 : M ≤ N := g.at_.elim (fun e => e ▸ h.nn) (h.up N)
  omega
theorem IsMx.congr {P Q : Int → Prop} {M : Int} (h : IsMx P M) (e : ∀ x, P x ↔ Q x) : IsMx Q M := ⟨h.nn, fun x q => h.up x ((e x).mpr q), h.at_.imp id (e M).mp⟩
theorem IsMn.congr {L : Int} {P Q : Int → Prop} {M : Int} (h : IsMn L P M) (e : ∀ x, P x ↔ Q x) : IsMn L Q M := ⟨h.nn, fun x q => h.up x ((e x).mpr q), h.at_.imp id (e M).mp⟩
abbrev EP (d : Nat → Nat → Bool) (h E : Nat → Int) (j : Nat) (x : Int) : Prop := ∃ i, i < j ∧ d i j = true ∧ x = E i + h i
abbrev LP (n : Nat) (d : Nat → Nat → Bool) (F : Nat → Int) (k : Nat) (x : Int) : Prop := ∃ j, k < j ∧ j < n ∧ d k j = true ∧ x = F j
def IsE (n : Nat) (d : Nat → Nat → Bool) (h E : Nat → Int) : Prop := ∀ j, j < n → IsMx (EP d h E j) (E j)
def IsL (n : Nat) (d : Nat → Nat → Bool) (h : Nat → Int) (L : Int) (F : Nat → Int) : Prop := ∀ k, k < n → IsMn L (LP n d F k) (F k + h k)
theorem IsE.uniq {n : Nat} {d : Nat → Nat → Bool} {h E E' : Nat → Int} (a : IsE n d h E) (b : IsE n d h E') : ∀ j, j < n → E j = E' j := by
  intro j
  induction j using Nat.strongRecOn with
  | _ j ih =>
    intro hj
    refine (a j hj).uniq ((b j hj).congr fun x => ?_)
    constructor
    · rintro ⟨i, h1, h2, rfl⟩
      exact ⟨i, h1, h2, by rw [ih i h1 (by omega)]⟩
    · rintro ⟨i, h1, h2, rfl⟩
      exact ⟨i, h1, h2, by rw [ih i h1 (by omega)]⟩
theorem IsL.uniq {n : Nat} {d : Nat → Nat → Bool} {h F F' : Nat → Int} {L : Int} (a : IsL n d h L F) (b : IsL n d h L F') : ∀ k, k < n → F k = F' k := by
  intro k hk
  obtain ⟨m, hm⟩ : ∃ m, n - k = m := ⟨_, rfl⟩
  induction m using Nat.strongRecOn generalizing k with
  | _ m ih =>
    have := (a k hk).uniq ((b k hk).congr (Q := LP n d F k) fun x => by
      constructor
      · rintro ⟨j, h1, h2, h3, rfl⟩
        exact ⟨j, h1, h2, h3, (ih (n - j) (by omega) j h2 rfl).symm⟩
      · rintro ⟨j, h1, h2, h3, rfl⟩
        exact ⟨j, h1, h2, h3, ih (n - j) (by omega) j h2 rfl⟩)
    omega
/-- neighbours that are apart change places -/
def swp (k i : Nat) : Nat := if i = k then k + 1 else if i = k + 1 then k else i
theorem swp_k {k : Nat} : swp k k = k + 1 := by simp [swp]
theorem swp_k1 {k : Nat} : swp k (k + 1) = k := by simp [swp]
theorem swp_o {k i : Nat} (h : i ≠ k) (g : i ≠ k + 1) : swp k i = i := by simp [swp, h, g]
theorem swp_swp {k i : Nat} : swp k (swp k i) = i := by
  by_cases h : i = k
  · subst h; rw [swp_k, swp_k1]
  · by_cases g : i = k + 1
    · subst g; rw [swp_k1, swp_k]
    · rw [swp_o h g, swp_o h g]
theorem swp_lt {k i n : Nat} (h : k + 1 < n) (g : i < n) : swp k i < n := by
  unfold swp; split
  · omega
  · split <;> omega
structure ExD (d d' : Nat → Nat → Bool) (k : Nat) : Prop where
  at_ : ∀ i j, d' i j = d (swp k i) (swp k j)
  ap : d k (k + 1) = false
  ap2 : d (k + 1) k = false
theorem ExD.symm {d d' : Nat → Nat → Bool} {k : Nat} (h : ExD d d' k) : ExD d' d k := ⟨fun i j => by rw [h.at_, swp_swp, swp_swp], by rw [h.at_, swp_k, swp_k1]; exact h.ap2, by rw [h.at_, swp_k, swp_k1]; exact h.ap⟩
theorem ExD.lt {d d' : Nat → Nat → Bool} {k i j : Nat} (h : ExD d d' k) (lt : i < j) (g : d i j = true) : swp k i < swp k j := by
  by_cases c : i = k ∧ j = k + 1
  · obtain ⟨rfl, rfl⟩ := c
    rw [h.ap] at g; cases g
  · unfold swp
    repeat' split
    all_goals omega
theorem IsE.exch {n k : Nat} {d d' : Nat → Nat → Bool} {h E : Nat → Int} (x : ExD d d' k) (hk : k + 1 < n) (a : IsE n d h E) : IsE n d' (fun i => h (swp k i)) (fun i => E (swp k i)) := by
  intro j hj
  refine (a (swp k j) (swp_lt hk hj)).congr fun y => ?_
  constructor
  · rintro ⟨i, h1, h2, rfl⟩
    refine ⟨swp k i, ?_, ?_, ?_⟩
    · have := x.lt h1 h2
      rwa [swp_swp] at this
    · rw [x.at_, swp_swp]; exact h2
    · show E i + h i = E (swp k (swp k i)) + h (swp k (swp k i))
      rw [swp_swp]
  · rintro ⟨i, h1, h2, rfl⟩
    refine ⟨swp k i, x.symm.lt h1 h2, ?_, rfl⟩
    rw [← x.at_]; exact h2
theorem IsL.exch {n k : Nat} {d d' : Nat → Nat → Bool} {h F : Nat → Int} {L : Int} (x : ExD d d' k) (hk : k + 1 < n) (a : IsL n d h L F) : IsL n d' (fun i => h (swp k i)) L (fun i => F (swp k i)) := by
  intro i hi
  refine (a (swp k i) (swp_lt hk hi)).congr fun y => ?_
  constructor
  · rintro ⟨j, h1, h2, h3, rfl⟩
    refine ⟨swp k j, ?_, swp_lt hk h2, ?_, ?_⟩
    · have := x.lt h1 h3
      rwa [swp_swp] at this
    · rw [x.at_, swp_swp]; exact h3
    · show F j = F (swp k (swp k j))
      rw [swp_swp]
  · rintro ⟨j, h1, h2, h3, rfl⟩
    refine ⟨swp k j, x.symm.lt h1 h3, swp_lt hk h2, ?_, rfl⟩
    rw [← x.at_]; exact h3
/-- a latest plan read backwards is an earliest one -/
theorem IsL.back {n : Nat} {d d' : Nat → Nat → Bool} {h F : Nat → Int} {L : Int} (sy : ∀ i j, d i j = d j i) (e : ∀ i j, i < n → j < n → d' i j = d (n - 1 - i) (n - 1 - j)) (a : IsL n d h L F) : IsE n d' (fun i => h (n - 1 - i)) (fun i => L - F (n - 1 - i) - h (n - 1 - i)) := by
  intro j hj
  have b := a (n - 1 - j) (by omega)
  refine ⟨by have := b.nn; dsimp only; omega, ?_, ?_⟩
  · rintro x ⟨i, h1, h2, rfl⟩
    have := b.up _ ⟨n - 1 - i, by omega, by omega, by rw [sy, ← e i j (by omega) hj]; exact h2, rfl⟩
    dsimp only
    omega
  · rcases b.at_ with z | ⟨i, h1, h2, h3, z⟩
    · left; dsimp only; omega
    · right
      refine ⟨n - 1 - i, by omega, ?_, ?_⟩
      · rw [e _ _ (by omega) hj, show n - 1 - (n - 1 - i) = i by omega, sy]; exact h3
      · dsimp only
        rw [show n - 1 - (n - 1 - i) = i by omega, ← z]; omega
/-- the least length: all ends -/
abbrev NP (n : Nat) (h E : Nat → Int) (x : Int) : Prop := ∃ i, i < n ∧ x = E i + h i

abbrev hf (l : List Int) : Nat → Int := fun i => l.getD i default
abbrev dp (ss : List Stp) (i j : Nat) : Bool := dep (ss.getD i default) (ss.getD j default)
theorem IsE.ext {n : Nat} {d : Nat → Nat → Bool} {h : Nat → Int} {E E' : List Int} (a : IsE n d h (hf E)) (b : IsE n d h (hf E')) (l1 : E.length = n) (l2 : E'.length = n) : E = E' := by
  refine List.ext_getElem? fun i => ?_
  by_cases c : i < n
  · have := a.uniq b i c
    simp only [hf, List.getD_eq_getElem?_getD, List.getElem?_eq_getElem (show i < E.length by omega), List.getElem?_eq_getElem (show i < E'.length by omega), Option.getD_some] at this
    rw [List.getElem?_eq_getElem (show i < E.length by omega), List.getElem?_eq_getElem (show i < E'.length by omega), this]
  · rw [List.getElem?_eq_none (by omega), List.getElem?_eq_none (by omega)]
theorem int_ext {n : Nat} {E E' : List Int} (a : ∀ i, i < n → hf E i = hf E' i) (l1 : E.length = n) (l2 : E'.length = n) : E = E' := by
  refine List.ext_getElem? fun i => ?_
  by_cases c : i < n
  · have := a i c
    simp only [hf, List.getD_eq_getElem?_getD, List.getElem?_eq_getElem (show i < E.length by omega), List.getElem?_eq_getElem (show i < E'.length by omega), Option.getD_some] at this
    rw [List.getElem?_eq_getElem (show i < E.length by omega), List.getElem?_eq_getElem (show i < E'.length by omega), this]
  · rw [List.getElem?_eq_none (by omega), List.getElem?_eq_none (by omega)]
theorem IsL.ext {n : Nat} {d : Nat → Nat → Bool} {h : Nat → Int} {L : Int} {E E' : List Int} (a : IsL n d h L (hf E)) (b : IsL n d h L (hf E')) (l1 : E.length = n) (l2 : E'.length = n) : E = E' := int_ext (a.uniq b) l1 l2
theorem mxL_is {l : List Int} : IsMx (· ∈ l) (maxL (0 :: l)) := by
  obtain ⟨h1, h2⟩ := maxL_ok 0 l
  refine ⟨h2 0 List.mem_cons_self, fun x hx => h2 x (List.mem_cons_of_mem _ hx), ?_⟩
  exact (List.mem_cons.mp h1).imp id id
theorem mnL_is {L : Int} {l : List Int} : IsMn L (· ∈ l) (minL (L :: l)) := by
  obtain ⟨h1, h2⟩ := minL_ok L l
  refine ⟨h2 L List.mem_cons_self, fun x hx => h2 x (List.mem_cons_of_mem _ hx), ?_⟩
  exact (List.mem_cons.mp h1).imp id id
theorem mxD_is {l : List Int} (h : ∀ x ∈ l, 0 ≤ x) : IsMx (· ∈ l) (maxD 0 l) := by
  cases l with
  | nil => exact ⟨Int.le_refl _, (fun x hx => nomatch hx), .inl rfl⟩
  | cons a l =>
    obtain ⟨h1, h2⟩ := maxL_ok a l
    exact ⟨h _ h1, h2, .inr h1⟩
theorem mnD_is {L : Int} {l : List Int} (h : ∀ x ∈ l, x ≤ L) : IsMn L (· ∈ l) (minD L l) := by
  cases l with
  | nil => exact ⟨Int.le_refl _, (fun x hx => nomatch hx), .inl rfl⟩
  | cons a l =>
    obtain ⟨h1, h2⟩ := minL_ok a l
    exact ⟨h _ h1, h2, .inr h1⟩
/-- the ends ahead of step j -/
def endsL (d : Nat → Nat → Bool) (hs E : List Int) (j : Nat) : List Int := (List.range j).filterMap fun i => if d i j = true then some (E.getD i default + hs.getD i default) else none
theorem endsL_mem {d : Nat → Nat → Bool} {hs E : List Int} {j : Nat} {x : Int} : x ∈ endsL d hs E j ↔ EP d (hf hs) (hf E) j x := by
  unfold endsL
  rw [List.mem_filterMap]
  constructor
  · rintro ⟨i, h1, h2⟩
    by_cases c : d i j = true
    · rw [if_pos c] at h2
      exact ⟨i, List.mem_range.mp h1, c, (Option.some.inj h2).symm⟩
    · rw [if_neg c] at h2; cases h2
  · rintro ⟨i, h1, h2, rfl⟩
    exact ⟨i, List.mem_range.mpr h1, by rw [if_pos h2]⟩
theorem endsL_len {d : Nat → Nat → Bool} {hs E : List Int} {j : Nat} : (endsL d hs E j).length ≤ j := by
  have := List.length_filterMap_le (fun i => if d i j = true then some (E.getD i default + hs.getD i default) else none) (List.range j)
  rwa [List.length_range] at this
/-- the begins behind step k -/
def begL (d : Nat → Nat → Bool) (n : Nat) (F : List Int) (k : Nat) : List Int := (List.range (n - (k + 1))).filterMap fun x => if d k (k + 1 + x) = true then some (F.getD (k + 1 + x) default) else none
theorem begL_mem {d : Nat → Nat → Bool} {n : Nat} {F : List Int} {k : Nat} {y : Int} : y ∈ begL d n F k ↔ LP n d (hf F) k y := by
  unfold begL
  rw [List.mem_filterMap]
  constructor
  · rintro ⟨i, h1, h2⟩
    have h1 := List.mem_range.mp h1
    by_cases c : d k (k + 1 + i) = true
    · rw [if_pos c] at h2
      exact ⟨k + 1 + i, by omega, by omega, c, (Option.some.inj h2).symm⟩
    · rw [if_neg c] at h2; cases h2
  · rintro ⟨j, h1, h2, h3, rfl⟩
    refine ⟨j - (k + 1), List.mem_range.mpr (by omega), ?_⟩
    rw [show k + 1 + (j - (k + 1)) = j by omega, if_pos h3]
theorem begL_len {d : Nat → Nat → Bool} {n : Nat} {F : List Int} {k : Nat} : (begL d n F k).length ≤ n := by
  have := List.length_filterMap_le (fun x => if d k (k + 1 + x) = true then some (F.getD (k + 1 + x) default) else none) (List.range (n - (k + 1)))
  rw [List.length_range] at this
  exact Nat.le_trans this (Nat.sub_le _ _)
/-- what the loops keep -/
theorem IsE.snoc {j : Nat} {d : Nat → Nat → Bool} {h : Nat → Int} {E : List Int} {M : Int} (a : IsE j d h (hf E)) (l : E.length = j) (m : IsMx (EP d h (hf E) j) M) : IsE (j + 1) d h (hf (E ++ [M])) := by
  have e : ∀ i, i < j → hf (E ++ [M]) i = hf E i := fun i hi => by
    simp only [hf, List.getD_eq_getElem?_getD]
    rw [List.getElem?_append_left (by omega)]
  have cg : ∀ i, i ≤ j → ∀ x, EP d h (hf E) i x ↔ EP d h (hf (E ++ [M])) i x := fun i hi x => by
    constructor
    · rintro ⟨q, h1, h2, rfl⟩
      exact ⟨q, h1, h2, by rw [e q (by omega)]⟩
    · rintro ⟨q, h1, h2, rfl⟩
      exact ⟨q, h1, h2, by rw [e q (by omega)]⟩
  intro i hi
  by_cases c : i = j
  · subst c
    have : hf (E ++ [M]) i = M := by
      simp only [hf, List.getD_eq_getElem?_getD]
      rw [List.getElem?_append_right (by omega), l, Nat.sub_self]; rfl
    rw [this]
    exact m.congr (cg i (Nat.le_refl _))
  · rw [e i (by omega)]
    exact (a i (by omega)).congr (cg i (by omega))
def IsLf (m n : Nat) (d : Nat → Nat → Bool) (h : Nat → Int) (L : Int) (F : Nat → Int) : Prop := ∀ k, m ≤ k → k < n → IsMn L (LP n d F k) (F k + h k)
theorem hf_set {F : List Int} {k j : Nat} {M : Int} (hk : k < F.length) : hf (F.set k M) j = if j = k then M else hf F j := by
  simp only [hf, List.getD_eq_getElem?_getD, List.getElem?_set]
  by_cases c : k = j
  · subst c; rw [if_pos rfl, if_pos hk, if_pos rfl]; rfl
  · rw [if_neg c, if_neg fun e => c e.symm]
theorem IsLf.set {k n : Nat} {d : Nat → Nat → Bool} {h : Nat → Int} {L : Int} {F : List Int} {M : Int} (a : IsLf (k + 1) n d h L (hf F)) (l : F.length = n) (hk : k < n) (m : IsMn L (LP n d (hf F) k) (M + h k)) : IsLf k n d h L (hf (F.set k M)) := by
  have hk' : k < F.length := by omega
  have cg : ∀ i, k ≤ i → ∀ x, LP n d (hf F) i x ↔ LP n d (hf (F.set k M)) i x := fun i hi x => by
    constructor
    · rintro ⟨q, h1, h2, h3, rfl⟩
      exact ⟨q, h1, h2, h3, by rw [hf_set hk', if_neg (by omega)]⟩
    · rintro ⟨q, h1, h2, h3, rfl⟩
      exact ⟨q, h1, h2, h3, by rw [hf_set hk', if_neg (by omega)]⟩
  intro i h1 h2
  by_cases c : i = k
  · subst c
    rw [hf_set hk', if_pos rfl]
    exact m.congr (cg i h1)
  · rw [hf_set hk', if_neg c]
    exact (a i (by omega) h2).congr (cg i h1)
/-- hours -/
def HsOk (n : Nat) (hs : List Int) : Prop := hs.length = n ∧ ∀ x ∈ hs, 1 ≤ x ∧ x ≤ 99
theorem HsOk.g {n : Nat} {hs : List Int} (h : HsOk n hs) {k : Nat} (hk : k < n) : 1 ≤ hs.getD k default ∧ hs.getD k default ≤ 99 := by
  rw [List.getD_eq_getElem?_getD, List.getElem?_eq_getElem (by rw [h.1]; exact hk)]; exact h.2 _ (List.getElem_mem _)
theorem endsL_nn {n j : Nat} {d : Nat → Nat → Bool} {hs E : List Int} (h : HsOk n hs) (hj : j < n) (a : IsE j d (hf hs) (hf E)) : ∀ x ∈ endsL d hs E j, 0 ≤ x := by
  intro x hx
  obtain ⟨i, h1, h2, rfl⟩ := endsL_mem.mp hx
  have := (a i h1).nn
  have := (h.g (k := i) (by omega)).1
  show 0 ≤ hf E i + hs.getD i default
  omega
theorem begL_le {n k : Nat} {d : Nat → Nat → Bool} {hs F : List Int} {L : Int} (h : HsOk n hs) (a : IsLf (k + 1) n d (hf hs) L (hf F)) : ∀ x ∈ begL d n F k, x ≤ L := by
  intro x hx
  obtain ⟨i, h1, h2, h3, rfl⟩ := begL_mem.mp hx
  have := (a i (by omega) h2).nn
  have := (h.g (k := i) (by omega)).1
  simp only [hf] at *
  omega
section
variable {G : GE}
/-- over a range, with a test, and what is written down -/
theorem lc_fmR {β : Type} {own : List Nat} {pt : Pat} {it : IT} {ts : IEs} {e : IE} {k : Nat} {als : List Nat} {fr fr1 fr0 : Fr} {lo : Int} {n : Nat} {src : List Nat} {C : Prop} (f : Nat → Option β) (g' : β → PV) [w : WIc G it fr C fr1 (rangeP lo n) src []] (c : C) (h0 : wipeF fr1 own = fr0) (d1 : disj src (mutdL ts ++ mutd e) = true) (d2 : disj als (mutdL ts ++ mutd e) = true) (hz : n ≤ 16777216)
    (h : ∀ x : Nat, x < n → LT G own pt ts e k als fr0 (.int (lo + (x : Int))) ((f x).map g')) : WV G (.lc own pt it ts e k als) fr fr1 ⟨.lst (((List.range n).filterMap f).map g'), k, als, false⟩ := by
  haveI : WIc G it fr C fr1 ((List.range n).map fun x : Nat => PV.int (lo + (x : Int))) src [] := ⟨fun z => w.h z⟩
  exact lc_fmG (g := fun x : Nat => PV.int (lo + (x : Int))) f g' c h0 d1 d2 (by rw [List.length_range]; exact hz) fun x hx => h x (List.mem_range.mp hx)
end
theorem ite_map {α β : Type} {g : α → β} {b : Bool} {y : α} : (if b = true then some (g y) else none) = (if b = true then some y else none).map g := by cases b <;> rfl
end Law
namespace Law
open PySem PySem.Spec PyProof.Rows L2 VI

theorem hours_ok {w : PV} {n : Nat} (hw : FeedOk w) (hn : n ≤ 24) : ∃ hs w', DenR den__law_hours [w, .int n] (li hs) 1 [w'] ∧ FeedOk w' ∧ HsOk n hs := by
  suffices h : ∃ v m outs, den__law_hours [w, .int n] = some (v, m, outs) ∧ ∃ hs w', v = li hs ∧ m = 1 ∧ outs = [w'] ∧ FeedOk w' ∧ HsOk n hs by
    obtain ⟨v, m, outs, e, s, w', rfl, rfl, rfl, h⟩ := h
    exact ⟨s, w', ⟨e⟩, h⟩
  refine i__law_hours ?_
  obtain ⟨r1, w1, d1, a1, b1, hw1⟩ := draw_ok hw (many := 4) (by decide) (by decide)
  obtain ⟨r2, w2, d2, a2, b2, hw2⟩ := draw_ok hw1 (many := 6) (by decide) (by decide)
  have key : ∀ most least : Int, 1 ≤ least → least ≤ most → most ≤ 99 → ∃ hs w', WV G__law_hours lc0__law_hours [slp w2, sl (.int n), sl (.int most), sl (.int least), none] [slp w', sl (.int n), sl (.int most), sl (.int least), none] ⟨li hs, 1, [], false⟩ ∧ FeedOk w' ∧ HsOk n hs := by
    intro most least h1 h2 h3
    obtain ⟨hs, w5, i1, hw5, hl, hs'⟩ := lc_feed (G := G__law_hours) (own := [4]) (pt := .nm 4) (it := (.rng1 (.var 1))) (ts := .nil) (e := (.prim .add (.cons (.var 3) (.cons (.call 0 [1, 0] false (.cons (.var 0) (.cons (.prim .add (.cons (.prim .sub (.cons (.var 2) (.cons (.var 3) .nil))) (.cons (.cst (.int 1)) .nil))) .nil))) .nil)))) (k := 1) (als := []) (fr := [slp w2, sl (.int n), sl (.int most), sl (.int least), none])
      (fun w => [slp w, sl (.int n), sl (.int most), sl (.int least), none]) (w0 := w2) (by omega) hw2 PV.int (fun _ x => 1 ≤ x ∧ x ≤ 99) (fun q v w hv hw => by
        obtain ⟨r, w', d, a, b, hw'⟩ := draw_ok hw (many := most - least + 1) (by omega) (by omega)
        exact ⟨least + r, w', lts_of trivial rfl rfl rfl, hw', by omega⟩) rfl rfl (by rw [rangeP_I, List.length_map, rgI_length]; omega) (fun i hi => by simp at hi; subst hi; rfl) (fun w => rfl)
    refine ⟨hs, w5, i1, hw5, ?_, fun x hx => ?_⟩
    · rw [hl, rangeP_I, List.length_map, rgI_length]; omega
    · obtain ⟨k, hk⟩ := List.getElem?_of_mem hx
      exact hs' k x hk
  have hm : ([1, 3, 9, 99] : List Int).getD r1.toNat default = 1 ∨ ([1, 3, 9, 99] : List Int).getD r1.toNat default = 3 ∨ ([1, 3, 9, 99] : List Int).getD r1.toNat default = 9 ∨ ([1, 3, 9, 99] : List Int).getD r1.toNat default = 99 := by
    have : r1.toNat = 0 ∨ r1.toNat = 1 ∨ r1.toNat = 2 ∨ r1.toNat = 3 := by omega
    rcases this with e | e | e | e <;> rw [e] <;> simp
  walk_at "vsteps"
  · obtain ⟨hs, w3, i1, hw3, ho⟩ := key (([1, 3, 9, 99] : List Int).getD r1.toNat default) (([1, 3, 9, 99] : List Int).getD r1.toNat default) (by omega) (by omega) (by omega)
    walk_at "vsteps"
    exact ⟨hs, w3, rfl, rfl, rfl, hw3, ho⟩
  · obtain ⟨hs, w3, i1, hw3, ho⟩ := key (([1, 3, 9, 99] : List Int).getD r1.toNat default) 1 (by omega) (by omega) (by omega)
    walk_at "vsteps"
    exact ⟨hs, w3, rfl, rfl, rfl, hw3, ho⟩
theorem earliest_ok {ss : List Stp} {hs : List Int} (h : SsOk ss) (g : HsOk ss.length hs) : ∃ E, DenR den_earliest [ssV ss, li hs] (li E) 1 [] ∧ E.length = ss.length ∧ IsE ss.length (dp ss) (hf hs) (hf E) := by
  suffices hh : ∃ v m outs, den_earliest [ssV ss, li hs] = some (v, m, outs) ∧ ∃ E, v = li E ∧ m = 1 ∧ outs = [] ∧ E.length = ss.length ∧ IsE ss.length (dp ss) (hf hs) (hf E) by
    obtain ⟨v, m, outs, e, s, rfl, rfl, rfl, h⟩ := hh
    exact ⟨s, ⟨e⟩, h⟩
  refine i_earliest ?_
  have hn := h.1
  have hg := g.1
  walk_at "vsteps"
  walk_at "vfor"
  refine sf_enum (S := List Int × FS × FS × FS) (fun s => [sl (ssV ss), sl (li hs), sl1 (li s.1), s.2.1.1, s.2.2.1.1, s.2.2.2.1, none]) (fun j s => s.1.length = j ∧ IsE j (dp ss) (hf hs) (hf s.1)) ([], fs0, fs0, fs0) rfl ⟨rfl, fun j hj => absurd hj (Nat.not_lt_zero _)⟩ ?_ ?_
  · rintro j s ⟨E, o3, o4, o5⟩ hx ⟨hl, he⟩
    simp only at hl he ⊢
    obtain ⟨hsx, hj⟩ := getD_some hx
    have e0 : ss.getD j default = s := hsx
    subst e0
    have q := endsL_len (d := dp ss) (hs := hs) (E := E) (j := j)
    have i0 : WV G_earliest lc0_earliest [sl (ssV ss), sl (li hs), sl1 (li E), sl (.int j), sl (stV (ss.getD j default)), o5.1, none] [sl (ssV ss), sl (li hs), sl1 (li E), sl (.int j), sl (stV (ss.getD j default)), o5.1, none] ⟨li (endsL (dp ss) hs E j), 1, [], false⟩ := by
      refine lc_fmR (fr0 := [sl (ssV ss), sl (li hs), sl1 (li E), sl (.int j), sl (stV (ss.getD j default)), o5.1, none]) (lo := 0) (n := j) (fun i => if dp ss i j = true then some (E.getD i default + hs.getD i default) else none) PV.int (by omega) rfl rfl rfl (by omega) (fun x hx => ?_)
      have i1 := depends_ok (s := ss.getD x default) (t := ss.getD j default) (h.g (by omega))
      rw [show (0 : Int) + (x : Int) = (x : Int) by omega]
      exact lt_eqO (lt_if (b := dep (ss.getD x default) (ss.getD j default)) (by omega) (fun _ => by omega) rfl rfl rfl rfl) ite_map
    have hnn := endsL_nn g hj he
    have hmx := mxD_is hnn
    refine tb_of ?_
    walk_at "vsteps"
    refine ⟨(E ++ [maxD 0 (endsL (dp ss) hs E j)], ⟨sl (.int j), inferInstance⟩, ⟨sl (stV (ss.getD j default)), inferInstance⟩, ⟨sl1 (li (endsL (dp ss) hs E j)), inferInstance⟩), rfl, by simp [hl], ?_⟩
    exact he.snoc hl (hmx.congr fun x => endsL_mem)
  · rintro ⟨E, o3, o4, o5⟩ ⟨hl, he⟩
    simp only at hl he ⊢
    walk_at "vsteps"
    exact ⟨E, rfl, rfl, rfl, hl, he⟩
theorem early_ok {ss : List Stp} {hs : List Int} (h : SsOk ss) (g : HsOk ss.length hs) : ∃ E, DenR den__law_early [ssV ss, li hs] (li E) 1 [] ∧ E.length = ss.length ∧ IsE ss.length (dp ss) (hf hs) (hf E) := by
  suffices hh : ∃ v m outs, den__law_early [ssV ss, li hs] = some (v, m, outs) ∧ ∃ E, v = li E ∧ m = 1 ∧ outs = [] ∧ E.length = ss.length ∧ IsE ss.length (dp ss) (hf hs) (hf E) by
    obtain ⟨v, m, outs, e, s, rfl, rfl, rfl, h⟩ := hh
    exact ⟨s, ⟨e⟩, h⟩
  refine i__law_early ?_
  have hn := h.1
  have hg := g.1
  walk_at "vsteps"
  walk_at "vfor"
  refine sf_range0 (S := List Int × FS) (fun s => [sl (ssV ss), sl (li hs), sl1 (li s.1), s.2.1, none]) (fun j s => s.1.length = j ∧ IsE j (dp ss) (hf hs) (hf s.1)) ([], fs0) rfl ⟨rfl, fun j hj => absurd hj (Nat.not_lt_zero _)⟩ ?_ ?_
  · rintro j ⟨E, o3⟩ hj ⟨hl, he⟩
    simp only at hl he ⊢
    have hj : j < ss.length := by omega
    have q := endsL_len (d := dp ss) (hs := hs) (E := E) (j := j)
    have i0 : WV G__law_early lc0__law_early [sl (ssV ss), sl (li hs), sl1 (li E), sl (.int j), none] [sl (ssV ss), sl (li hs), sl1 (li E), sl (.int j), none] ⟨li (endsL (dp ss) hs E j), 1, [], false⟩ := by
      refine lc_fmR (fr0 := [sl (ssV ss), sl (li hs), sl1 (li E), sl (.int j), none]) (lo := 0) (n := j) (fun i => if dp ss i j = true then some (E.getD i default + hs.getD i default) else none) PV.int (by omega) rfl rfl rfl (by omega) (fun x hx => ?_)
      have i1 := ldep_ok (s := ss.getD x default) (t := ss.getD j default) (h.g (by omega))
      rw [show (0 : Int) + (x : Int) = (x : Int) by omega]
      exact lt_eqO (lt_if (b := dep (ss.getD x default) (ss.getD j default)) (by omega) (fun _ => by omega) rfl rfl rfl rfl) ite_map
    have hmx := mxL_is (l := endsL (dp ss) hs E j)
    refine tb_of ?_
    walk_at "vsteps"
    refine ⟨(E ++ [maxL (0 :: endsL (dp ss) hs E j)], ⟨sl (.int j), inferInstance⟩), rfl, by simp [hl], ?_⟩
    exact he.snoc hl (hmx.congr fun x => endsL_mem)
  · rintro ⟨E, o3⟩ ⟨hl, he⟩
    simp only at hl he ⊢
    walk_at "vsteps"
    refine ⟨E, rfl, rfl, rfl, by simpa using hl, by simpa using he⟩
end Law
namespace Law
open PySem PySem.Spec PyProof.Rows L2 VI

abbrev atS : List PySem.Str := [PySem.Str.ofString "at"]
instance : StrOk (PySem.Str.ofString "let") := ⟨by decide +kernel⟩
instance : StrOk (PySem.Str.ofString "refused") := ⟨by decide +kernel⟩
instance : StrOk (PySem.Str.ofString "error") := ⟨by decide +kernel⟩
def bad (t : List Int) (i : Nat) : Bool := !(decide (1 ≤ t.getD i default) && decide (t.getD i default ≤ 99))
def due (n : Nat) (t : List Int) : Option Int := if ¬ t.length = n then some (-1) else ixO (firstB t.length (bad t))
abbrev chkV : Option Int → PV
  | none => .non
  | some a => .exn 0 atS [.int a]
abbrev toldV : Option Int → PV
  | none => .tup [.str (PySem.Str.ofString "let"), .int 0]
  | some a => .tup [.str (PySem.Str.ofString "refused"), .int a]
theorem check_ok {ss : List Stp} {t : List Int} (h : SsOk ss) (hl : t.length ≤ 100) : DenR den_check_hours [ssV ss, li t] (chkV (due ss.length t)) 0 [] := by
  refine iR_check_hours ?_
  have hn := h.1
  walk_at "vsteps"
  · rename_i h
    have : due ss.length t = some (-1) := by unfold due; rw [if_pos (by omega)]
    rw [this]; exact ⟨rfl, rfl, rfl⟩
  · rename_i h
    have hd : due ss.length t = ixO (firstB t.length (bad t)) := by unfold due; rw [if_neg (by omega)]
    walk_at "vfor"
    refine sf_enum (S := FS × FS) (fun s => [sl (ssV ss), sl (li t), s.1.1, s.2.1]) (fun k _ => ∀ j, j < k → bad t j = false) (fs0, fs0) rfl (fun _ z => absurd z (Nat.not_lt_zero _)) ?_ ?_
    · rintro k x ⟨o1, o2⟩ hx hi
      simp only at hi ⊢
      obtain ⟨hg, hk⟩ := getD_some hx
      have e : bad t k = !(decide (1 ≤ x) && decide (x ≤ 99)) := by unfold bad; rw [hg]
      refine tb_of ?_
      walk_at "vsteps"
      · rename_i h2
        rw [hd, firstB_some hk (by rw [e, Bool.not_eq_true', ← Bool.not_eq_true, Bool.and_eq_true, decide_eq_true_eq, decide_eq_true_eq]; exact h2) hi]; exact ⟨rfl, rfl, rfl⟩
      · rename_i h2
        refine ⟨(⟨_, inferInstance⟩, ⟨_, inferInstance⟩), rfl, fun j hj => ?_⟩
        by_cases q : j = k
        · rw [q, e, ← Bool.not_eq_true, Bool.not_eq_true', ← Bool.not_eq_true, Bool.and_eq_true, decide_eq_true_eq, decide_eq_true_eq]; exact h2
        · exact hi j (by omega)
    · rintro ⟨o1, o2⟩ hi
      simp only
      walk_at "vsteps"
      rw [hd, firstB_none (by simpa using hi)]
      exact ⟨rfl, rfl, rfl⟩
theorem asked_ok {ss : List Stp} {t : List Int} (h : SsOk ss) (hl : t.length ≤ 100) : DenR den__law_asked [ssV ss, li t] (toldV (due ss.length t)) 0 [] := by
  refine iR__law_asked ?_
  have i1 := check_ok h hl
  have hn := h.1
  rcases hd : due ss.length t with _ | a
  · rw [hd] at i1
    simp only [chkV, toldV] at i1 ⊢
    walk_at "vsteps"
    exact ⟨rfl, rfl, rfl⟩
  · rw [hd] at i1
    simp only [chkV, toldV] at i1 ⊢
    walk_at "vsteps"
    exact ⟨rfl, rfl, rfl⟩
theorem asked_eq {ss : List Stp} {t : List Int} {d : Option Int} (h : SsOk ss) (hl : t.length ≤ 100) (e : due ss.length t = d) : DenR den__law_asked [ssV ss, li t] (toldV d) 0 [] := e ▸ asked_ok h hl
abbrev sp (hs : List Int) (r x : Int) : List Int := List.take r.toNat hs ++ [x] ++ List.drop (r + 1).toNat hs
theorem sp_eq {hs : List Int} {r x : Int} (h0 : 0 ≤ r) (h1 : r < hs.length) : sp hs r x = hs.set r.toNat x := by
  rw [List.set_eq_take_append_cons_drop, if_pos (by omega)]
  show List.take r.toNat hs ++ [x] ++ List.drop (r + 1).toNat hs = _
  rw [show (r + 1).toNat = r.toNat + 1 by omega]
  simp
theorem sp_at {hs : List Int} {r x : Int} (h0 : 0 ≤ r) (h1 : r < hs.length) (i : Nat) : (sp hs r x).getD i default = if i = r.toNat then x else hs.getD i default := by
  rw [sp_eq h0 h1]
  exact hf_set (F := hs) (by omega)
theorem sp_len {hs : List Int} {r x : Int} (h0 : 0 ≤ r) (h1 : r < hs.length) : (sp hs r x).length = hs.length := by rw [sp_eq h0 h1, List.length_set]
theorem due_bad {n : Nat} {t : List Int} {k : Nat} (hl : t.length = n) (hk : k < n) (hb : bad t k = true) (hi : ∀ j, j < k → bad t j = false) : due n t = some (k : Int) := by
  unfold due
  rw [if_neg (by omega), firstB_some (by omega) hb hi]; rfl
theorem due_good {n : Nat} {t : List Int} (hl : t.length = n) (hi : ∀ j, j < n → bad t j = false) : due n t = none := by
  unfold due
  rw [if_neg (by omega), firstB_none (by rw [hl]; exact hi)]; rfl
theorem due_len {n : Nat} {t : List Int} (hl : ¬ t.length = n) : due n t = some (-1) := by
  unfold due
  rw [if_pos hl]
theorem bad_iff {t : List Int} {i : Nat} : bad t i = true ↔ ¬ (1 ≤ t.getD i default ∧ t.getD i default ≤ 99) := by
  unfold bad
  rw [Bool.not_eq_true', ← Bool.not_eq_true, Bool.and_eq_true, decide_eq_true_eq, decide_eq_true_eq]
theorem good_iff {t : List Int} {i : Nat} : bad t i = false ↔ (1 ≤ t.getD i default ∧ t.getD i default ≤ 99) := by
  rw [← Bool.not_eq_true, bad_iff]
  exact Decidable.not_not
theorem wrong_ok {w : PV} {ss : List Stp} {hs : List Int} (hw : FeedOk w) (h : SsOk ss) (g : HsOk ss.length hs) : ∃ w', DenR den__law_wrong_ones [w, ssV ss, li hs] (.bl true) 0 [w'] ∧ FeedOk w' := by
  suffices hh : ∃ v m outs, den__law_wrong_ones [w, ssV ss, li hs] = some (v, m, outs) ∧ ∃ w', v = .bl true ∧ m = 0 ∧ outs = [w'] ∧ FeedOk w' by
    obtain ⟨v, m, outs, e, w', rfl, rfl, rfl, h⟩ := hh
    exact ⟨w', ⟨e⟩, h⟩
  refine i__law_wrong_ones ?_
  have hn := h.1
  have hl := g.1
  walk_at "vfor"
  refine sf_map (g := li) (l := [hs ++ [1], hs ++ [0], hs ++ hs ++ [99]]) (S := FS) (fun o => [slp w, sl (ssV ss), sl (li hs), o.1, none, none, none, none, none, none]) (fun _ _ => True) fs0 rfl trivial ?_ ?_
  · rintro k t o ht _
    have hq : t.length ≤ 100 ∧ ¬ t.length = ss.length := by
      have := List.mem_of_getElem? ht
      simp only [List.mem_cons, List.not_mem_nil, or_false] at this
      rcases this with rfl | rfl | rfl <;> (simp only [List.length_append, List.length_cons, List.length_nil]; omega)
    have i1 := asked_eq h hq.1 (due_len hq.2)
    simp only [toldV] at i1
    refine tb_of ?_
    walk_at "vsteps"
    exact ⟨⟨_, inferInstance⟩, rfl, trivial⟩
  rintro o _
  simp only
  by_cases c : hs.length = 0
  · walk_at "vsteps"
    exact ⟨w, rfl, rfl, rfl, hw⟩
  · have i1 := asked_eq (t := List.drop (1 : Int).toNat hs) h (by rw [List.length_drop]; omega) (due_len (n := ss.length) (by rw [List.length_drop, show (1 : Int).toNat = 1 from rfl]; omega))
    have i2 : ∃ a, DenR den__law_asked [ssV ss, li (0 :: List.drop (2 : Int).toNat hs)] (toldV (some a)) 0 [] := by
      by_cases c1 : ss.length = 1
      · exact ⟨_, asked_eq h (by simp only [List.length_cons, List.length_drop]; omega) (due_bad (k := 0) (n := ss.length) (by rw [List.length_cons, List.length_drop, show (2 : Int).toNat = 2 from rfl]; omega) (by omega) rfl (fun j hj => absurd hj (Nat.not_lt_zero _)))⟩
      · exact ⟨_, asked_eq h (by simp only [List.length_cons, List.length_drop]; omega) (due_len (n := ss.length) (by rw [List.length_cons, List.length_drop, show (2 : Int).toNat = 2 from rfl]; omega))⟩
    obtain ⟨a, i2⟩ := i2
    simp only [toldV] at i1 i2
    obtain ⟨r, w1, d1, a1, b1, hw1⟩ := draw_ok hw (many := hs.length) (by omega) (by omega)
    walk_at "vsteps"
    · rename_i hc
      rcases hc with hc | hc
      · exact absurd rfl hc
      · exact absurd hc.1 (by decide +kernel)
    have spb : ∀ j, j < ss.length → bad hs j = false := fun j hj => good_iff.mpr (g.g hj)
    walk_at "vfor"
    refine sf_inv (S := PV × FS × FS × FS × FS) (fun s => [slp s.1, sl (ssV ss), sl (li hs), o.1, sl (.int r), s.2.1.1, none, s.2.2.1.1, s.2.2.2.1.1, s.2.2.2.2.1]) (fun _ s => FeedOk s.1) (w1, fs0, fs0, fs0, fs0) rfl hw1 ?_ ?_
    · rintro k v ⟨w, o5, o7, o8, o9⟩ hv hw
      simp only at hw ⊢
      obtain ⟨x, rfl, hx⟩ : ∃ x : Int, v = .int x ∧ ¬ (1 ≤ x ∧ x ≤ 99) := by
        have := List.mem_of_getElem? hv
        simp only [List.mem_cons, List.not_mem_nil, or_false] at this
        rcases this with rfl | rfl | rfl | rfl | rfl
        all_goals exact ⟨_, rfl, by decide +kernel⟩
      obtain ⟨r2, w2, d2, a2, b2, hw2⟩ := draw_ok hw (many := (hs.length : Int) - r) (by omega) (by omega)
      have l1 : (sp hs r x).length = hs.length := sp_len a1 b1
      have q1 := asked_eq (t := sp hs r x) (d := some r) h (by omega) (by
        have := due_bad (n := ss.length) (t := sp hs r x) (k := r.toNat) (by omega) (by omega) (bad_iff.mpr (by rw [sp_at a1 b1, if_pos rfl]; exact hx)) (fun j hj => good_iff.mpr (by rw [sp_at a1 b1, if_neg (by omega)]; exact g.g (by omega)))
        rw [this]; congr 1; omega)
      have l2 : (sp (sp hs r x) (r + r2) 0).length = hs.length := by rw [sp_len (by omega) (by omega), l1]
      have q2 := asked_eq (t := sp (sp hs r x) (r + r2) 0) (d := some r) h (by omega) (by
        have c1 : 0 ≤ r + r2 := by omega
        have c2 : r + r2 < (sp hs r x).length := by omega
        have := due_bad (n := ss.length) (t := sp (sp hs r x) (r + r2) 0) (k := r.toNat) (by omega) (by omega) (bad_iff.mpr (by
          rw [sp_at c1 c2]
          by_cases q : r.toNat = (r + r2).toNat
          · rw [if_pos q]; decide
          · rw [if_neg q, sp_at a1 b1, if_pos rfl]; exact hx)) (fun j hj => good_iff.mpr (by rw [sp_at c1 c2, if_neg (by omega), sp_at a1 b1, if_neg (by omega)]; exact g.g (by omega)))
        rw [this]; congr 1; omega)
      simp only [toldV, sp] at q1 q2
      refine tb_of ?_
      walk_at "vsteps"
      exact ⟨(w2, ⟨sl (.int x), inferInstance⟩, ⟨sl1 (li (sp hs r x)), inferInstance⟩, ⟨sl (.int (r + r2)), inferInstance⟩, ⟨sl1 (li (sp (sp hs r x) (r + r2) 0)), inferInstance⟩), rfl, hw2⟩
    rintro ⟨w, o5, o7, o8, o9⟩ hw
    simp only at hw ⊢
    walk_at "vfor"
    refine sf_map (g := PV.int) (l := [1, 99]) (S := FS) (fun o6 => [slp w, sl (ssV ss), sl (li hs), o.1, sl (.int r), o5.1, o6.1, o7.1, o8.1, o9.1]) (fun _ _ => True) fs0 rfl trivial ?_ ?_
    · rintro k x o6 hx _
      have hx : x = 1 ∨ x = 99 := by simpa using List.mem_of_getElem? hx
      have q1 := asked_eq (t := sp hs r x) (d := none) h (by rw [sp_len a1 b1]; omega) (due_good (by rw [sp_len a1 b1]; omega) fun j hj => good_iff.mpr (by
        rw [sp_at a1 b1]
        by_cases q : j = r.toNat
        · rw [if_pos q]; omega
        · rw [if_neg q]; exact g.g hj))
      simp only [toldV, sp] at q1
      refine tb_of ?_
      walk_at "vsteps"
      exact ⟨⟨sl (.int x), inferInstance⟩, rfl, trivial⟩
    rintro o6 _
    simp only
    walk_at "vsteps"
    exact ⟨w, rfl, rfl, rfl, hw⟩
end Law
namespace Law
open PySem PySem.Spec PyProof.Rows L2 VI
theorem wholes_ok {l : List Int} (h : l.length ≤ 24) : DenR den__law_are_wholes [li l, .int l.length] (.bl true) 0 [] := by
  refine iR__law_are_wholes ?_
  haveI : WV G__law_are_wholes lc0__law_are_wholes [sl (li l), sl (.int l.length), none] _ _ := lc_filt (fr0 := [sl (li l), sl (.int l.length), none]) (g := PV.int) (l := l) (fun _ => false) PV.int trivial rfl rfl rfl (by omega) (fun x hx => lt_eqO (lt_if (b := !true) trivial (fun _ => trivial) rfl rfl rfl rfl) rfl)
  have e : (l.filter fun _ => false) = [] := by simp
  have e2 : (((l.filter fun _ => false).length : Nat) : Int) = 0 := by rw [e]; rfl
  walk_at "vsteps"
  exact ⟨by simp, rfl, rfl⟩
abbrev q_saw : Stp := ⟨os (PySem.Str.ofString "ann"), os (PySem.Str.ofString "saw"), [os (PySem.Str.ofString "plank")]⟩
abbrev q_oil : Stp := ⟨os (PySem.Str.ofString "bob"), os (PySem.Str.ofString "oil"), [os (PySem.Str.ofString "lathe")]⟩
abbrev q_glue : Stp := ⟨os (PySem.Str.ofString "bob"), os (PySem.Str.ofString "glue"), [os (PySem.Str.ofString "plank")]⟩
abbrev w3 : List Stp := [q_saw, q_oil, q_glue]
theorem w3_ok : SsOk w3 := ⟨by decide, fun s hs => by
  simp only [List.mem_cons, List.not_mem_nil, or_false] at hs
  rcases hs with rfl | rfl | rfl <;> (unfold SOk; decide)⟩
theorem h3_ok : HsOk w3.length [3, 2, 1] := ⟨rfl, fun x hx => by
  simp only [List.mem_cons, List.not_mem_nil, or_false] at hx
  rcases hx with rfl | rfl | rfl <;> decide⟩
theorem d3 : dp w3 0 1 = false ∧ dp w3 0 2 = true ∧ dp w3 1 2 = true := by decide +kernel
theorem e3 : IsE 3 (dp w3) (hf [3, 2, 1]) (hf [0, 0, 3]) := by
  obtain ⟨h1, h2, h3⟩ := d3
  intro j hj
  have : j = 0 ∨ j = 1 ∨ j = 2 := by omega
  rcases this with rfl | rfl | rfl
  · exact ⟨by decide, (fun x ⟨i, a, b, c⟩ => by omega), .inl rfl⟩
  · refine ⟨by decide, ?_, .inl rfl⟩
    rintro x ⟨i, a, b, rfl⟩
    have : i = 0 := by omega
    subst this
    rw [h1] at b; cases b
  · refine ⟨by decide, ?_, .inr ⟨0, by decide, h2, rfl⟩⟩
    rintro x ⟨i, a, b, rfl⟩
    have : i = 0 ∨ i = 1 := by omega
    rcases this with rfl | rfl <;> decide

abbrev v3 : List Stp := [q_oil, q_glue, q_saw]
theorem v3_ok : SsOk v3 := ⟨by decide, fun s hs => by
  simp only [List.mem_cons, List.not_mem_nil, or_false] at hs
  rcases hs with rfl | rfl | rfl <;> (unfold SOk; decide)⟩
theorem dv3 : dp v3 0 1 = true ∧ dp v3 0 2 = false ∧ dp v3 1 2 = true := by decide +kernel
theorem ev3 : IsE 3 (dp v3) (hf [3, 2, 1]) (hf [0, 3, 5]) := by
  obtain ⟨h1, h2, h3⟩ := dv3
  intro j hj
  have : j = 0 ∨ j = 1 ∨ j = 2 := by omega
  rcases this with rfl | rfl | rfl
  · exact ⟨by decide, (fun x ⟨i, a, b, c⟩ => by omega), .inl rfl⟩
  · refine ⟨by decide, ?_, .inr ⟨0, by decide, h1, rfl⟩⟩
    rintro x ⟨i, a, b, rfl⟩
    have : i = 0 := by omega
    subst this
    decide
  · refine ⟨by decide, ?_, .inr ⟨1, by decide, h3, rfl⟩⟩
    rintro x ⟨i, a, b, rfl⟩
    have : i = 0 ∨ i = 1 := by omega
    rcases this with rfl | rfl
    · rw [h2] at b; cases b
    · decide
theorem t1_ok : DenR den_earliest [ssV w3, li [3, 2, 1]] (li [0, 0, 3]) 1 [] := by
  obtain ⟨E, i, l, e⟩ := earliest_ok w3_ok h3_ok
  have e1 : E = [0, 0, 3] := e.ext (n := 3) e3 l rfl
  subst e1
  exact i
theorem t2_ok : DenR den_earliest [ssV v3, li [3, 2, 1]] (li [0, 3, 5]) 1 [] := by
  obtain ⟨E, i, l, e⟩ := earliest_ok v3_ok h3_ok
  have e1 : E = [0, 3, 5] := e.ext (n := 3) ev3 l rfl
  subst e1
  exact i
theorem turn_ok {ns : List Int} {w : PV} {t : Int} {n : Nat} {o7 o8 o9 o10 o11 : FS} {Q : Fr → Fl → Prop} (hw : FeedOk w) (hn : n ≤ 24)
    (hQ : ∀ w' (o7 o8 o9 o10 o11 : FS), FeedOk w' → Q [sl (.scr (ns.map PV.int)), sl1 w', sl (.int t), none, none, none, sl (.int n), o7.1, o8.1, o9.1, o10.1, o11.1] .next) :
    SK G_law [dropIS 2 fb0_law] [sl (.scr (ns.map PV.int)), sl1 w, sl (.int t), none, none, none, sl (.int n), o7.1, o8.1, o9.1, o10.1, o11.1] Q := by
  simp only [dropIS, fb0_law]
  obtain ⟨ss, w1, d1, hw1, hss, hl⟩ := steps_ok hw (many := n) (by omega) (by omega)
  obtain ⟨hs, w2, d2, hw2, hhs⟩ := hours_ok (n := n) hw1 hn
  have hl : ss.length = n := by omega
  subst hl
  obtain ⟨E, iE, lE, hE⟩ := earliest_ok hss hhs
  obtain ⟨E', iE', lE', hE'⟩ := early_ok hss hhs
  have : E = E' := hE.ext hE' lE lE'
  subst this
  have hg := hhs.1
  obtain ⟨w3, d3, hw3⟩ := wrong_ok hw2 hss hhs
  have i1 := asked_eq (t := hs) (d := none) hss (by omega) (due_good hg fun j hj => good_iff.mpr (hhs.g hj))
  simp only [toldV] at i1
  have i2 := wholes_ok (l := E) (by omega)
  rw [lE] at i2
  walk_at "vsteps"
  exact hQ w3 ⟨sl (ssV ss), inferInstance⟩ ⟨sl (li hs), inferInstance⟩ ⟨sl (ssV ss), inferInstance⟩ ⟨sl (li hs), inferInstance⟩ ⟨sl1 (li E), inferInstance⟩ hw3
theorem law_true (ns : List Int) (hn : ns.length ≤ 63) : ∃ v, den_law [.scr (ns.map PV.int)] = some (.bl true, 0, v) := by
  suffices h : ∃ v m outs, den_law [.scr (ns.map PV.int)] = some (v, m, outs) ∧ v = .bl true ∧ m = 0 by
    obtain ⟨v, m, outs, e, rfl, rfl⟩ := h
    exact ⟨outs, e⟩
  refine i_law ?_
  obtain ⟨w, d0, hw⟩ := feed_ok ns
  walk_at "vsteps"
  walk_at "vfor"
  refine sf_range0 (S := PV × FS × FS × FS × FS × FS × FS × FS) (fun s => [sl (.scr (ns.map PV.int)), sl1 s.1, s.2.1.1, none, none, none, s.2.2.1.1, s.2.2.2.1.1, s.2.2.2.2.1.1, s.2.2.2.2.2.1.1, s.2.2.2.2.2.2.1.1, s.2.2.2.2.2.2.2.1]) (fun _ s => FeedOk s.1) (w, fs0, fs0, fs0, fs0, fs0, fs0, fs0) rfl hw ?_ ?_
  · rintro k ⟨w, o2, o6, o7, o8, o9, o10, o11⟩ hk hw
    simp only at hw ⊢
    obtain ⟨r1, w1, d1, a1, b1, hw1⟩ := draw_ok hw (many := 10) (by decide) (by decide)
    obtain ⟨r2, w2, d2, a2, b2, hw2⟩ := draw_ok hw1 (many := 6) (by decide) (by decide)
    obtain ⟨m, rfl⟩ := Int.eq_ofNat_of_zero_le a1
    refine tb_of ?_
    walk_at "vsteps"
    · exact turn_ok (n := 24) hw2 (by decide) fun w' o7 o8 o9 o10 o11 hw => ⟨(w', ⟨sl (.int k), inferInstance⟩, ⟨sl (.int 24), inferInstance⟩, o7, o8, o9, o10, o11), rfl, hw⟩
    · exact turn_ok (n := m) hw2 (by omega) fun w' o7 o8 o9 o10 o11 hw => ⟨(w', ⟨sl (.int k), inferInstance⟩, ⟨sl (.int m), inferInstance⟩, o7, o8, o9, o10, o11), rfl, hw⟩
    · exact turn_ok (n := m) hw1 (by omega) fun w' o7 o8 o9 o10 o11 hw => ⟨(w', ⟨sl (.int k), inferInstance⟩, ⟨sl (.int m), inferInstance⟩, o7, o8, o9, o10, o11), rfl, hw⟩
  · rintro ⟨w, o2, o6, o7, o8, o9, o10, o11⟩ hw
    simp only at hw ⊢
    have i1 : DenR den_earliest [.lst [.tup [.str (PySem.Str.ofString "ann"), .str (PySem.Str.ofString "saw"), .tup [.str (PySem.Str.ofString "plank")]], .tup [.str (PySem.Str.ofString "bob"), .str (PySem.Str.ofString "oil"), .tup [.str (PySem.Str.ofString "lathe")]], .tup [.str (PySem.Str.ofString "bob"), .str (PySem.Str.ofString "glue"), .tup [.str (PySem.Str.ofString "plank")]]], .lst [.int 3, .int 2, .int 1]] (.lst [.int 0, .int 0, .int 3]) 1 [] := t1_ok
    have i2 : DenR den_earliest [.lst [.tup [.str (PySem.Str.ofString "bob"), .str (PySem.Str.ofString "oil"), .tup [.str (PySem.Str.ofString "lathe")]], .tup [.str (PySem.Str.ofString "bob"), .str (PySem.Str.ofString "glue"), .tup [.str (PySem.Str.ofString "plank")]], .tup [.str (PySem.Str.ofString "ann"), .str (PySem.Str.ofString "saw"), .tup [.str (PySem.Str.ofString "plank")]]], .lst [.int 3, .int 2, .int 1]] (.lst [.int 0, .int 3, .int 5]) 1 [] := t2_ok
    walk_at "vsteps"
    exact ⟨rfl, rfl⟩
end Law
open PySem PySem.W PySem.Calls PyProof.Rows
theorem PySem.Challenge.cw_daybooktold_k59_hours_checked_and_earlie_holds : PySem.Challenge.rw_daybooktold_k59_hours_checked_and_earlie.Holds := by
  w_on; o_law
  refine HandSHeadRun.head_any (r := OpenLaw.row PySem.Challenge.rw_daybooktold_k59_hours_checked_and_earlie) (q := view (OpenLaw.row PySem.Challenge.rw_daybooktold_k59_hours_checked_and_earlie).prog [23]) (H := Law.hk) (ob := Law.ob) (M := 1840) (loose := Law.loose) (d := HandSHeadRun.topDef (OpenLaw.row PySem.Challenge.rw_daybooktold_k59_hours_checked_and_earlie).prog 23) (kwd := []) Law.ob_eq
    (by kernel_rfl) (fun s => by kernel_rfl) Law.run (by kernel_rfl) (by kernel_rfl) (by kernel_rfl) (by rfl) (by first | assumption | decide +kernel) (by decide +kernel) ⟨rfl, rfl, rfl, rfl, rfl, by decide +kernel⟩ ?hw ?hc
  case hw => w_witness2
  case hc =>
    refine L2.walk_ofE (l := PySem.Challenge.rw_daybooktold_k59_hours_checked_and_earlie) (n := 63) (k := 6) (x := "script") (CX := L2.CX0) rfl (by decide) (by kernel_rfl) ⟨rfl, by decide, by decide⟩ ?F (fun _ _ _ _ z => z)
    intro w mg fa h Y G hmg0
    obtain ⟨K, KX, c⟩ := Y
    have hmg : mg ("law" : PySem.Str) = some (.ref fa) := by
      have e : (HandSHeadRun.topDef (OpenLaw.row PySem.Challenge.rw_daybooktold_k59_hours_checked_and_earlie).prog 23).name = ("law" : PySem.Str) := by kernel_rfl
      rw [← e]
      exact hmg0
    obtain ⟨fd, hb, hF⟩ := Law.facts (P := (PySem.Challenge.rw_daybooktold_k59_hours_checked_and_earlie).prog) (w := w) KX G hmg c
    exact ⟨K, fd, VI.spI K [0] Law.den_law, KX, hb, fun H a ns hl _ hS => VI.law_sp hS (Law.law_true ns hl), hF⟩
