import PyProof.Rows.All
import HandS.ForMost
import HandS.Flow
import HandS.DictComp
import HandS.TupAny
import HandS.TupMul
import HandS.Style
import HandS.Deep
import HandS.IsInst
import HandS.TupLen
import HandS.Conv
import HandS.SetFor
import HandS.More
import HandS.Small
import HandS.SortInts
import KE.DataMinMax
import KE.KTupSum
import KE.SortData
import PyProof.DictUpdate
import PyProof.DictFindH
import HandS.Iter
import HandS.Zip
import KE.GoesMore
import HandS.Words
import HandS.Call
import HandS.SetKeys
import PySem.Challenge.RW_websbothways_k58_whole_most_ties_without
set_option Elab.async false
set_option linter.all false
set_option maxRecDepth 100000
namespace Wv
open PySem PySem.Spec PyProof.Rows L2
abbrev St := L2.St

/-! ## data by value -/
/-- what never changes -/
inductive Im where
  | non | bl (b : Bool) | int (i : Int) | str (x : Str) | tup (l : List Im)
/-- data: with lists and dicts (t: the keys are tuples); scr: the script; tpl: a tuple that has lists or dicts in it -/
inductive Dt where
  | im (i : Im) | lst (l : List Dt) | dic (t : Bool) (l : List (Im × Dt)) | scr (l : List Int) | tpl (l : List Dt)

mutual
def Im.beq : Im → Im → Bool
  | .non, .non => true
  | .bl a, .bl b => a == b
  | .int a, .int b => a == b
  | .str a, .str b => decide (a = b)
  | .tup a, .tup b => Im.beqs a b
  | _, _ => false
def Im.beqs : List Im → List Im → Bool
  | [], [] => true
  | a :: r, b :: s => Im.beq a b && Im.beqs r s
  | _, _ => false
end
mutual
theorem Im.beq_eq : ∀ (a b : Im), Im.beq a b = true → a = b
  | .non, b, h => by cases b <;> simp_all [Im.beq]
  | .bl a, b, h => by cases b <;> simp_all [Im.beq]
  | .int a, b, h => by cases b <;> simp_all [Im.beq]
  | .str a, b, h => by cases b <;> simp_all [Im.beq]
  | .tup a, b, h => by
    cases b with
    | tup b => rw [Im.beqs_eq a b (by simpa [Im.beq] using h)]
    | _ => simp [Im.beq] at h
theorem Im.beqs_eq : ∀ (a b : List Im), Im.beqs a b = true → a = b
  | [], b, h => by cases b <;> simp_all [Im.beqs]
  | x :: r, b, h => by
    cases b with
    | nil => simp [Im.beqs] at h
    | cons y s =>
      simp only [Im.beqs, Bool.and_eq_true] at h
      rw [Im.beq_eq x y h.1, Im.beqs_eq r s h.2]
end
mutual
theorem Im.beq_refl : ∀ (a : Im), Im.beq a a = true
  | .non => rfl
  | .bl a => by simp [Im.beq]
  | .int a => by simp [Im.beq]
  | .str a => by simp [Im.beq]
  | .tup a => by simp only [Im.beq]; exact Im.beqs_refl a
theorem Im.beqs_refl : ∀ (a : List Im), Im.beqs a a = true
  | [] => rfl
  | x :: r => by simp only [Im.beqs, Im.beq_refl x, Im.beqs_refl r, Bool.and_true]
end
instance : DecidableEq Im := fun a b => if h : Im.beq a b = true then .isTrue (Im.beq_eq a b h) else .isFalse fun e => h (by rw [e]; exact Im.beq_refl b)

def keyI : Key → Im
  | .inl i => .int i
  | .inr x => .str x
def tkI (k : List Key) : Im := .tup (k.map keyI)

/-- what can't be changed is kept -/
def KTup (H H' : Hp) : Prop := ∀ a o, H a = some o → ¬ Mut (some o) → H' a = some o
mutual
inductive RepI (K : PySem.W.Frag) (H : Hp) : Im → V → Prop
  | non : RepI K H .non .non
  | bl {b} : RepI K H (.bl b) (.bl b)
  | int {i} : RepI K H (.int i) (.int i)
  | str {x} : RepI K H (.str x) (.str x)
  | tup {l p vs} : H p = some (.tup vs) → RepIs K H l vs → RepI K H (.tup l) (.ref p)
inductive RepIs (K : PySem.W.Frag) (H : Hp) : List Im → List V → Prop
  | nil : RepIs K H [] []
  | cons {i l v vs} : RepI K H i v → RepIs K H l vs → RepIs K H (i :: l) (v :: vs)
end
mutual
inductive RepD (K : PySem.W.Frag) (H : Hp) : Dt → V → List Addr → Prop
  | im {i v} : RepI K H i v → RepD K H (.im i) v []
  | lst {l a vs G} : H a = some (.lst vs) → RepDs K H l vs G → RepD K H (.lst l) (.ref a) (a :: G)
  | scr {l a} : (∀ H', KTup H H' → SqL K H' a (l.map V.int)) → RepD K H (.scr l) (.ref a) []
  | tpl {l a vs G} : H a = some (.tup vs) → RepDs K H l vs G → RepD K H (.tpl l) (.ref a) G
  | dicK {l a kvs G} : Rd H a (.dK kvs) → (l.map (·.1) = kvs.map (fun p => keyI p.1) ∧ (l.map (·.1)).Nodup) → RepDs K H (l.map (·.2)) (kvs.map (·.2)) G → RepD K H (.dic false l) (.ref a) (a :: G)
  | dicT {l a kvs G} : Rd H a (.dT kvs) → (l.map (·.1) = kvs.map (fun p => tkI p.1) ∧ (l.map (·.1)).Nodup) → RepDs K H (l.map (·.2)) (kvs.map (·.2)) G → RepD K H (.dic true l) (.ref a) (a :: G)
inductive RepDs (K : PySem.W.Frag) (H : Hp) : List Dt → List V → List Addr → Prop
  | nil : RepDs K H [] [] []
  | cons {d l v vs F G} : RepD K H d v F → RepDs K H l vs G → RepDs K H (d :: l) (v :: vs) (F ++ G)
end

/-- all that stood stands -/
def Ext (H H' : Hp) : Prop := ∀ a o, H a = some o → H' a = some o
theorem Ext.refl (H : Hp) : Ext H H := fun _ _ h => h
theorem Ext.trans {A B C : Hp} (h : Ext A B) (k : Ext B C) : Ext A C := fun a o e => k a o (h a o e)
theorem Ext.upd {H : Hp} {p : Addr} {o : HO} (h : H p = none) : Ext H (upd H p o) := fun a u e => by
  rw [upd_ne (ne_of_none e h)]; exact e

theorem Mut.tup {xs : List V} : ¬ Mut (some (.tup xs)) := fun h => h
theorem Mut.frz {o u} : ¬ Mut (some (.frz o u)) := fun h => h
section
variable {K : PySem.W.Frag} {H H' : Hp}
mutual
theorem RepI.keep (k : KTup H H') : ∀ {i : Im} {v : V}, RepI K H i v → RepI K H' i v
  | _, _, .non => .non
  | _, _, .bl => .bl
  | _, _, .int => .int
  | _, _, .str => .str
  | _, _, .tup a b => .tup (k _ _ a Mut.tup) (RepIs.keep k b)
theorem RepIs.keep (k : KTup H H') : ∀ {i : List Im} {v : List V}, RepIs K H i v → RepIs K H' i v
  | _, _, .nil => .nil
  | _, _, .cons a b => .cons (RepI.keep k a) (RepIs.keep k b)
end
mutual
theorem RepD.keep (k : KTup H H') : ∀ {d : Dt} {v : V} {F : List Addr}, RepD K H d v F → (∀ a ∈ F, H' a = H a) → RepD K H' d v F
  | _, _, _, .im a, _ => .im (a.keep k)
  | _, _, _, .lst a b, h => .lst (by rw [h _ List.mem_cons_self]; exact a) (RepDs.keep k b fun x hx => h x (List.mem_cons_of_mem _ hx))
  | _, _, _, .scr a, h => .scr fun H2 k2 => a H2 fun x o e n => k2 x o (k x o e n) n
  | _, _, _, .tpl a b, h => .tpl (k _ _ a Mut.tup) (RepDs.keep k b h)
  | _, _, _, .dicK a e b, h => .dicK (by unfold Rd at *; rw [h _ List.mem_cons_self]; exact a) e (RepDs.keep k b fun x hx => h x (List.mem_cons_of_mem _ hx))
  | _, _, _, .dicT a e b, h => .dicT (by unfold Rd at *; rw [h _ List.mem_cons_self]; exact a) e (RepDs.keep k b fun x hx => h x (List.mem_cons_of_mem _ hx))
theorem RepDs.keep (k : KTup H H') : ∀ {d : List Dt} {v : List V} {F : List Addr}, RepDs K H d v F → (∀ a ∈ F, H' a = H a) → RepDs K H' d v F
  | _, _, _, .nil, _ => .nil
  | _, _, _, .cons a b, h => .cons (RepD.keep k a fun x hx => h x (List.mem_append_left _ hx)) (RepDs.keep k b fun x hx => h x (List.mem_append_right _ hx))
end
mutual
theorem RepD.live : ∀ {d : Dt} {v : V} {F : List Addr}, RepD K H d v F → ∀ a ∈ F, H a ≠ none
  | _, _, _, .im _, a, h => by cases h
  | _, _, _, .lst r b, a, h => by
    rcases List.mem_cons.mp h with rfl | h
    · rw [r]; simp
    · exact RepDs.live b a h
  | _, _, _, .scr _, a, h => by cases h
  | _, _, _, .tpl _ b, a, h => RepDs.live b a h
  | _, _, _, .dicK r _ b, a, h => by
    rcases List.mem_cons.mp h with rfl | h
    · rcases r with r | ⟨o, r⟩ <;> rw [r] <;> simp
    · exact RepDs.live b a h
  | _, _, _, .dicT r _ b, a, h => by
    rcases List.mem_cons.mp h with rfl | h
    · rcases r with r | ⟨o, r⟩ <;> rw [r] <;> simp
    · exact RepDs.live b a h
theorem RepDs.live : ∀ {d : List Dt} {v : List V} {F : List Addr}, RepDs K H d v F → ∀ a ∈ F, H a ≠ none
  | _, _, _, .nil, a, h => by cases h
  | _, _, _, .cons r b, a, h => by
    rcases List.mem_append.mp h with h | h
    · exact RepD.live r a h
    · exact RepDs.live b a h
end
theorem Ext.ktup (x : Ext H H') : KTup H H' := fun a o h _ => x _ _ h
theorem RepD.ext {d : Dt} {v : V} {F : List Addr} (x : Ext H H') (h : RepD K H d v F) : RepD K H' d v F := h.keep x.ktup fun a ha => by
  obtain ⟨o, e⟩ := Option.ne_none_iff_exists'.mp (h.live a ha)
  rw [e, x _ _ e]
theorem RepI.ext {i : Im} {v : V} (x : Ext H H') (h : RepI K H i v) : RepI K H' i v := h.keep x.ktup
theorem RepDs.len {d : List Dt} {v : List V} {F : List Addr} (h : RepDs K H d v F) : d.length = v.length := by
  induction d generalizing v F with
  | nil => cases h; rfl
  | cons x r ih => cases h with | cons a b => simp [ih b]
theorem RepIs.len {d : List Im} {v : List V} (h : RepIs K H d v) : d.length = v.length := by
  induction d generalizing v with
  | nil => cases h; rfl
  | cons x r ih => cases h with | cons a b => simp [ih b]
end

/-! ## slots, owners -/
/-- a slot: unset; owned; shared (it stands still); lent to a loop -/
inductive Sl where
  | e | o (d : Dt) | s (d : Dt) | l (d : Dt)
/-- a value: one's own; shared; read where it stands -/
inductive Vl where
  | o (d : Dt) | s (d : Dt) | b (d : Dt)
abbrev Ev := List Sl
inductive Tg where
  | no | sl (i : Nat) | fz | lk
  deriving DecidableEq
abbrev Ow := Addr → Tg
/-- nobody changes it while the loop runs -/
def Stl (t : Tg) : Prop := t = .lk ∨ t = .fz
theorem Stl.ne_sl {t : Tg} {i : Nat} (h : Stl t) : t ≠ .sl i := by rcases h with h | h <;> rw [h] <;> simp
theorem Stl.ne_no {t : Tg} (h : Stl t) : t ≠ .no := by rcases h with h | h <;> rw [h] <;> simp

section
variable (K : PySem.W.Frag)
def SlOk (O : Ow) (H : Hp) (y : Option (Option V)) (i : Nat) : Sl → Prop
  | .e => True
  | .o d => ∃ v F, y = some (some v) ∧ RepD K H d v F ∧ F.Nodup ∧ ∀ a ∈ F, O a = .sl i
  | .s d => ∃ v F, y = some (some v) ∧ RepD K H d v F ∧ ∀ a ∈ F, O a = .fz
  | .l d => ∃ v F, y = some (some v) ∧ RepD K H d v F ∧ ∀ a ∈ F, Stl (O a)
structure SR (O : Ow) (H : Hp) (σ : St) (ρ : Ev) : Prop where
  slot : ∀ i x, ρ[i]? = some x → SlOk K O H (σ[i]?) i x
  own : ∀ a i, O a = .sl i → Mut (H a)
  live : ∀ a, O a ≠ .no → H a ≠ none
  len : ρ.length = σ.length
structure Fr (O : Ow) (H : Hp) (O' : Ow) (H' : Hp) : Prop where
  keep : ∀ a o, H a = some o → (∀ i, O a ≠ .sl i) → H' a = some o
  no : ∀ a, H a ≠ none → O a = .no → O' a = .no
  fz : ∀ a, O a = .fz → O' a = .fz
  lk : ∀ a, O a = .lk → O' a = .lk
  lk' : ∀ a, O' a = .lk → O a = .lk
  live : ∀ a, H a ≠ none → H' a ≠ none
/-- nothing of what stood is changed, nor its owner -/
structure Qu (O : Ow) (H : Hp) (O' : Ow) (H' : Hp) : Prop where
  ext : Ext H H'
  own : ∀ a, H a ≠ none → O' a = O a
def VlOk (O : Ow) (H : Hp) (O' : Ow) (H' : Hp) : Vl → V → List Addr → Prop
  | .o d, v, F => RepD K H' d v F ∧ F.Nodup ∧ ∀ a ∈ F, O' a = .no ∧ Mut (H' a) ∧ (H a = none ∨ ∃ i, O a = .sl i)
  | .s d, v, F => RepD K H' d v F ∧ ∀ a ∈ F, O' a = .fz
  | .b d, v, F => RepD K H' d v F
end
section
variable {K : PySem.W.Frag} {O O' O2 : Ow} {H H' H2 : Hp} {σ : St} {ρ ρ' : Ev}
theorem Fr.refl : Fr O H O H := ⟨fun _ _ e _ => e, fun _ _ h => h, fun _ h => h, fun _ h => h, fun _ h => h, fun _ h => h⟩
theorem Fr.trans (h : Fr O H O' H') (k : Fr O' H' O2 H2) (sl : ∀ a i, O' a = .sl i → H' a ≠ none := by assumption) : Fr O H O2 H2 where
  keep := fun a o e n => by
    refine k.keep a o (h.keep a o e n) fun i z => ?_
    cases q : O a with
    | no => rw [h.no a (by rw [e]; simp) q] at z; cases z
    | sl j => exact n j q
    | fz => rw [h.fz a q] at z; cases z
    | lk => rw [h.lk a q] at z; cases z
  no := fun a n e => k.no a (h.live a n) (h.no a n e)
  fz := fun a e => k.fz a (h.fz a e)
  lk := fun a e => k.lk a (h.lk a e)
  lk' := fun a e => h.lk' a (k.lk' a e)
  live := fun a e => k.live a (h.live a e)
theorem SR.sl_live (s : SR K O H σ ρ) : ∀ a i, O a = .sl i → H a ≠ none := fun a i e => s.live a (by rw [e]; simp)
/-- what can't be changed is not owned -/
theorem SR.ktup (s : SR K O H σ ρ) (f : Fr O H O' H') : KTup H H' := fun a o h n => f.keep _ _ h fun i e => by
  have m := s.own a i e
  rw [h] at m; exact n m
theorem Qu.refl : Qu O H O H := ⟨Ext.refl H, fun _ _ => rfl⟩
theorem Qu.trans (h : Qu O H O' H') (k : Qu O' H' O2 H2) : Qu O H O2 H2 :=
  ⟨h.ext.trans k.ext, fun a n => by
    have n' : H' a ≠ none := by
      obtain ⟨o, e⟩ := Option.ne_none_iff_exists'.mp n
      rw [h.ext a o e]; simp
    rw [k.own a n', h.own a n]⟩
end
end Wv

set_option Elab.async false
set_option linter.all false
set_option maxRecDepth 100000
namespace Wv
open PySem PySem.Spec PyProof.Rows L2

/-! ## what the reckoner gives -/
inductive R (α : Type) where
  | ok (a : α) | ex (c : Str) (w : Im) | no
def R.bind {α β : Type} : R α → (α → R β) → R β
  | .ok a, f => f a
  | .ex c w, _ => .ex c w
  | .no, _ => .no
@[simp] theorem R.bind_ok {α β : Type} (a : α) (f : α → R β) : R.bind (.ok a) f = f a := (rfl)
@[simp] theorem R.bind_no {α β : Type} (f : α → R β) : R.bind (.no) f = .no := (rfl)
@[simp] theorem R.bind_ex {α β : Type} (c w) (f : α → R β) : R.bind (.ex c w) f = .ex c w := (rfl)
theorem R.bind_eq {α β : Type} {m : R α} {f : α → R β} {b : β} (h : R.bind m f = .ok b) : ∃ a, m = .ok a ∧ f a = .ok b := by
  cases m with
  | ok a => exact ⟨a, rfl, h⟩
  | ex c w => cases h
  | no => cases h
abbrev Fe := Ev → R (Vl × Ev)

section
variable (K : PySem.W.Frag)
def EPost (q : Bool) (O : Ow) (H : Hp) (σ : St) (ρ : Ev) (r : Vl) (ρ' : Ev) (Q : VK) : Prop :=
  ∀ v H' O' F, SR K O' H' σ ρ' → Fr O H O' H' → (q = true → ρ' = ρ ∧ Qu O H O' H') → VlOk K O H O' H' r v F → Q v H'
/-- an expression's reading by its reckoning -/
def TEs (q : Bool) (f : Fe) : TE := fun σ H Q => ∃ O ρ r ρ', SR K O H σ ρ ∧ f ρ = .ok (r, ρ') ∧ EPost K q O H σ ρ r ρ' Q
end
theorem _root_.L2.PE.imp {X : Cx} {e : Expr} {t t' : TE} (h : PE X e t) (k : ∀ σ H Q, t' σ H Q → t σ H Q) : PE X e t' :=
  ⟨fun pins s σ H Q I q => h.run pins s σ H Q I (k σ H Q q)⟩
theorem _root_.L2.PT.imp {X : Cx} {e : Expr} {t t' : TT} (h : PT X e t) (k : ∀ σ H Q, t' σ H Q → t σ H Q) : PT X e t' :=
  ⟨fun pins s σ H Q I q => h.run pins s σ H Q I (k σ H Q q)⟩
theorem _root_.L2.PW.imp {X : Cx} {e : Expr} {t t' : TT} (h : PW X e t) (k : ∀ σ H Q, t' σ H Q → t σ H Q) : PW X e t' :=
  ⟨fun w pins s σ H Q I q => h.run w pins s σ H Q I (k σ H Q q)⟩
theorem _root_.L2.PS.imp {X : Cx} {e : Stmt} {t t' : TS} (h : PS X e t) (k : ∀ D σ H, t' D σ H → t D σ H) : PS X e t' :=
  ⟨fun pins s σ H D I q => h.run pins s σ H D I (k D σ H q)⟩
theorem _root_.L2.PSs.imp {X : Cx} {e : List Stmt} {t t' : TS} (h : PSs X e t) (k : ∀ D σ H, t' D σ H → t D σ H) : PSs X e t' :=
  ⟨fun pins s σ H D I q => h.run pins s σ H D I (k D σ H q)⟩
theorem _root_.L2.PA.imp {X : Cx} {e : List Expr} {t t' : TA} (h : PA X e t) (k : ∀ σ H Q, t' σ H Q → t σ H Q) : PA X e t' :=
  ⟨fun p pins s σ H Q I q => h.run p pins s σ H Q I (k σ H Q q)⟩
theorem _root_.L2.PE.alt {X : Cx} {e : Expr} {t t' : TE} (h : PE X e t) (h' : PE X e t') : PE X e (fun σ H Q => t σ H Q ∨ t' σ H Q) :=
  ⟨fun pins s σ H Q I q => q.elim (h.run pins s σ H Q I) (h'.run pins s σ H Q I)⟩

section
variable {K : PySem.W.Frag} {O O' O1 O2 : Ow} {H H' H1 H2 : Hp} {σ : St} {ρ ρ' : Ev} {r : Vl} {v : V} {F : List Addr}
def Vl.isB : Vl → Bool
  | .b _ => true
  | _ => false
theorem SR.ext (s : SR K O H σ ρ) (x : Ext H H') : SR K O H' σ ρ where
  slot := fun i y e => by
    have h := s.slot i y e
    cases y with
    | e => trivial
    | o d => obtain ⟨v, F, h1, h2, h3⟩ := h; exact ⟨v, F, h1, h2.ext x, h3⟩
    | s d => obtain ⟨v, F, h1, h2, h3⟩ := h; exact ⟨v, F, h1, h2.ext x, h3⟩
    | l d => obtain ⟨v, F, h1, h2, h3⟩ := h; exact ⟨v, F, h1, h2.ext x, h3⟩
  own := fun a i e => by
    have m := s.own a i e
    obtain ⟨o, q⟩ := Option.ne_none_iff_exists'.mp (s.live a (by rw [e]; simp))
    rw [x a o q]; rw [q] at m; exact m
  live := fun a e => by
    obtain ⟨o, q⟩ := Option.ne_none_iff_exists'.mp (s.live a e)
    rw [x a o q]; simp
  len := s.len
theorem Ext.grow (x : Ext H H') : ∀ a, H a ≠ none → H' a ≠ none := fun a n => by
  obtain ⟨o, q⟩ := Option.ne_none_iff_exists'.mp n
  rw [x a o q]; simp
theorem Fr.ext (x : Ext H H') : Fr O H O H' := ⟨fun a o e _ => x a o e, fun _ _ h => h, fun _ h => h, fun _ h => h, fun _ h => h, x.grow⟩
theorem Qu.of (x : Ext H H') : Qu O H O H' := ⟨x, fun _ _ => rfl⟩
theorem Fr.rep (s : SR K O H σ ρ) (f : Fr O H O' H') {d : Dt} (h : RepD K H d v F) (n : ∀ a ∈ F, ∀ i, O a ≠ .sl i) : RepD K H' d v F :=
  h.keep (s.ktup f) fun a ha => by
    obtain ⟨o, q⟩ := Option.ne_none_iff_exists'.mp (h.live a ha)
    rw [q, f.keep a o q (n a ha)]
/-- a value that waits, through more reckoning -/
theorem VlOk.pend (h : VlOk K O H O1 H1 r v F) (s : SR K O1 H1 σ ρ) (f : Fr O1 H1 O2 H2) (q : r.isB = true → Qu O1 H1 O2 H2) : VlOk K O H O2 H2 r v F := by
  cases r with
  | o d =>
    obtain ⟨a, b, c⟩ := h
    refine ⟨f.rep s a fun x hx i => by rw [(c x hx).1]; simp, b, fun x hx => ?_⟩
    obtain ⟨c1, c2, c3⟩ := c x hx
    obtain ⟨o, e⟩ := Option.ne_none_iff_exists'.mp (a.live x hx)
    refine ⟨f.no x (by rw [e]; simp) c1, ?_, c3⟩
    rw [f.keep x o e fun i => by rw [c1]; simp]
    rw [e] at c2; exact c2
  | s d =>
    obtain ⟨a, b⟩ := h
    exact ⟨f.rep s a fun x hx i => by rw [b x hx]; simp, fun x hx => f.fz x (b x hx)⟩
  | b d => exact RepD.ext (q rfl).ext h
/-- .. seen from an earlier start -/
theorem VlOk.from (h : VlOk K O1 H1 O2 H2 r v F) (f : Fr O H O1 H1) : VlOk K O H O2 H2 r v F := by
  cases r with
  | o d =>
    obtain ⟨a, b, c⟩ := h
    refine ⟨a, b, fun x hx => ?_⟩
    obtain ⟨c1, c2, c3⟩ := c x hx
    refine ⟨c1, c2, ?_⟩
    by_cases n : H x = none
    · exact .inl n
    · refine .inr ?_
      rcases c3 with c3 | ⟨i, c3⟩
      · exact absurd c3 (f.live x n)
      · cases q : O x with
        | no => rw [f.no x n q] at c3; cases c3
        | sl j => exact ⟨j, rfl⟩
        | fz => rw [f.fz x q] at c3; cases c3
        | lk => rw [f.lk x q] at c3; cases c3
  | s d => exact h
  | b d => exact h
theorem VlOk.ext (h : VlOk K O H O1 H1 r v F) (x : Ext H1 H2) : VlOk K O H O1 H2 r v F := by
  cases r with
  | o d =>
    obtain ⟨a, b, c⟩ := h
    refine ⟨a.ext x, b, fun y hy => ?_⟩
    obtain ⟨c1, c2, c3⟩ := c y hy
    obtain ⟨o, e⟩ := Option.ne_none_iff_exists'.mp (a.live y hy)
    refine ⟨c1, ?_, c3⟩
    rw [x y o e]; rw [e] at c2; exact c2
  | s d => exact ⟨h.1.ext x, h.2⟩
  | b d => exact RepD.ext x h
theorem VlOk.imm {i : Im} (h : RepI K H' i v) : VlOk K O H O' H' (.o (.im i)) v [] := ⟨.im h, .nil, fun _ z => nomatch z⟩
theorem VlOk.imm' {i : Im} (h : VlOk K O H O' H' r v F) (e : r = .o (.im i) ∨ r = .s (.im i) ∨ r = .b (.im i)) : RepI K H' i v ∧ F = [] := by
  rcases e with rfl | rfl | rfl
  · cases h.1 with | im a => exact ⟨a, rfl⟩
  · cases h.1 with | im a => exact ⟨a, rfl⟩
  · cases (show RepD K H' _ v F from h) with | im a => exact ⟨a, rfl⟩
end

/-! ## constants, names -/
def kM (i : Im) : Fe := fun ρ => .ok (.o (.im i), ρ)
def rdM (x : Nat) : Fe := fun ρ => match ρ[x]? with
  | some (.o (.im i)) => .ok (.o (.im i), ρ)
  | some (.o d) => .ok (.b d, ρ)
  | some (.s d) => .ok (.s d, ρ)
  | some (.l d) => .ok (.b d, ρ)
  | _ => .no
/-- the name's value goes, the name is no longer read -/
def mvM (x : Nat) : Fe := fun ρ => match ρ[x]? with
  | some (.o (.im i)) => .ok (.o (.im i), ρ)
  | some (.o d) => .ok (.o d, ρ.set x .e)
  | some (.s d) => .ok (.s d, ρ)
  | _ => .no
/-- the name's value stands still from here on -/
def fzM (x : Nat) : Fe := fun ρ => match ρ[x]? with
  | some (.o (.im i)) => .ok (.o (.im i), ρ)
  | some (.o d) => .ok (.s d, ρ.set x (.s d))
  | some (.s d) => .ok (.s d, ρ)
  | _ => .no
section
variable {X : Cx} {K : PySem.W.Frag}
theorem TEs.const {i : Im} {v : V} (hv : ∀ H, RepI K H i v) {σ : St} {H : Hp} {Q : VK} (h : TEs K true (kM i) σ H Q) : Q v H := by
  obtain ⟨O, ρ, r, ρ', s, e, p⟩ := h
  cases e
  exact p v H O [] s Fr.refl (fun _ => ⟨rfl, Qu.refl⟩) (.imm (hv H))
theorem e_int {i j pos} : PE X (.Constant (.int i) j pos) (TEs K true (kM (.int i))) := pe_int.imp fun _ _ _ h => h.const fun _ => .int
theorem e_bl {i j pos} : PE X (.Constant (.bool i) j pos) (TEs K true (kM (.bl i))) := pe_bl.imp fun _ _ _ h => h.const fun _ => .bl
theorem e_non {j pos} : PE X (.Constant .none j pos) (TEs K true (kM .non)) := pe_non.imp fun _ _ _ h => h.const fun _ => .non
theorem e_str {i j pos} : PE X (.Constant (.str i) j pos) (TEs K true (kM (.str i))) := pe_str.imp fun _ _ _ h => h.const fun _ => .str

theorem SlOk.some_o {O : Ow} {H : Hp} {y : Option (Option V)} {i : Nat} {d : Dt} (h : SlOk K O H y i (.o d)) : ∃ v F, y = some (some v) ∧ RepD K H d v F ∧ F.Nodup ∧ ∀ a ∈ F, O a = .sl i := h
theorem TEs.rd {x : Nat} {σ : St} {H : Hp} {Q : VK} (h : TEs K true (rdM x) σ H Q) : ∃ v, σ[x]? = some (some v) ∧ Q v H := by
  obtain ⟨O, ρ, r, ρ', s, e, p⟩ := h
  unfold rdM at e
  split at e <;> first | cases e | skip
  · rename_i i q
    obtain ⟨v, F, h1, h2, _⟩ := s.slot _ _ q
    cases h2 with
    | im h2 => exact ⟨v, h1, p v H O [] s Fr.refl (fun _ => ⟨rfl, Qu.refl⟩) (.imm h2)⟩
  · rename_i d _ q
    obtain ⟨v, F, h1, h2, _⟩ := s.slot _ _ q
    exact ⟨v, h1, p v H O F s Fr.refl (fun _ => ⟨rfl, Qu.refl⟩) h2⟩
  · rename_i d q
    obtain ⟨v, F, h1, h2⟩ := s.slot _ _ q
    exact ⟨v, h1, p v H O F s Fr.refl (fun _ => ⟨rfl, Qu.refl⟩) h2⟩
  · rename_i d q
    obtain ⟨v, F, h1, h2, _⟩ := s.slot _ _ q
    exact ⟨v, h1, p v H O F s Fr.refl (fun _ => ⟨rfl, Qu.refl⟩) h2⟩
theorem SR.kill {O : Ow} {H : Hp} {σ : St} {ρ : Ev} {x : Nat} (s : SR K O H σ ρ) (g : Tg) (hg : g = .no ∨ g = .fz) (y : Sl)
    (hy : SlOk K (fun a => if O a = .sl x then g else O a) H (σ[x]?) x y) : SR K (fun a => if O a = .sl x then g else O a) H σ (ρ.set x y) where
  slot := fun i z e => by
    by_cases hi : i = x
    · subst hi
      by_cases hl : i < ρ.length
      · rw [List.getElem?_set_self hl] at e; cases e; exact hy
      · rw [List.getElem?_eq_none (by simpa using hl)] at e; cases e
    · rw [List.getElem?_set_ne (Ne.symm hi)] at e
      have h := s.slot i z e
      cases z with
      | e => trivial
      | o d =>
        obtain ⟨v, F, h1, h2, h3, h4⟩ := h
        exact ⟨v, F, h1, h2, h3, fun a ha => by
          show (if O a = .sl x then g else O a) = _
          rw [if_neg (by rw [h4 a ha]; intro z; exact hi (Tg.sl.inj z)), h4 a ha]⟩
      | s d =>
        obtain ⟨v, F, h1, h2, h4⟩ := h
        exact ⟨v, F, h1, h2, fun a ha => by
          show (if O a = .sl x then g else O a) = _
          rw [if_neg (by rw [h4 a ha]; simp), h4 a ha]⟩
      | l d =>
        obtain ⟨v, F, h1, h2, h4⟩ := h
        exact ⟨v, F, h1, h2, fun a ha => by
          show Stl (if O a = .sl x then g else O a)
          rw [if_neg (h4 a ha).ne_sl]
          exact h4 a ha⟩
  own := fun a i e => by
    have e : (if O a = .sl x then g else O a) = .sl i := e
    split at e
    · rcases hg with rfl | rfl <;> cases e
    · exact s.own a i e
  live := fun a e => by
    have e : (if O a = .sl x then g else O a) ≠ .no := e
    split at e
    · rename_i q; exact s.sl_live a x q
    · exact s.live a e
  len := by rw [List.length_set]; exact s.len
theorem Fr.kill {O : Ow} {H : Hp} {x : Nat} {g : Tg} (hg : g = .no ∨ g = .fz) : Fr O H (fun a => if O a = .sl x then g else O a) H where
  keep := fun _ _ e _ => e
  no := fun a _ e => by show (if O a = .sl x then g else O a) = _; rw [if_neg (by rw [e]; simp), e]
  fz := fun a e => by show (if O a = .sl x then g else O a) = _; rw [if_neg (by rw [e]; simp), e]
  lk := fun a e => by show (if O a = .sl x then g else O a) = _; rw [if_neg (by rw [e]; simp), e]
  lk' := fun a e => by
    have e : (if O a = .sl x then g else O a) = .lk := e
    split at e
    · rcases hg with rfl | rfl <;> cases e
    · exact e
  live := fun _ h => h
theorem TEs.mv {x : Nat} {σ : St} {H : Hp} {Q : VK} (h : TEs K false (mvM x) σ H Q) : ∃ v, σ[x]? = some (some v) ∧ Q v H := by
  obtain ⟨O, ρ, r, ρ', s, e, p⟩ := h
  unfold mvM at e
  split at e <;> first | cases e | skip
  · rename_i i q
    obtain ⟨v, F, h1, h2, _⟩ := s.slot _ _ q
    cases h2 with
    | im h2 => exact ⟨v, h1, p v H O [] s Fr.refl (fun z => nomatch z) (.imm h2)⟩
  · rename_i d _ q
    obtain ⟨v, F, h1, h2, h3, h4⟩ := s.slot _ _ q
    refine ⟨v, h1, p v H _ F (s.kill .no (.inl rfl) .e trivial) (Fr.kill (.inl rfl)) (fun z => nomatch z) ⟨h2, h3, fun a ha => ⟨?_, s.own a x (h4 a ha), .inr ⟨x, h4 a ha⟩⟩⟩⟩
    show (if O a = .sl x then Tg.no else O a) = _
    rw [if_pos (h4 a ha)]
  · rename_i d q
    obtain ⟨v, F, h1, h2⟩ := s.slot _ _ q
    exact ⟨v, h1, p v H O F s Fr.refl (fun z => nomatch z) h2⟩
theorem TEs.fz {x : Nat} {σ : St} {H : Hp} {Q : VK} (h : TEs K false (fzM x) σ H Q) : ∃ v, σ[x]? = some (some v) ∧ Q v H := by
  obtain ⟨O, ρ, r, ρ', s, e, p⟩ := h
  unfold fzM at e
  split at e <;> first | cases e | skip
  · rename_i i q
    obtain ⟨v, F, h1, h2, _⟩ := s.slot _ _ q
    cases h2 with
    | im h2 => exact ⟨v, h1, p v H O [] s Fr.refl (fun z => nomatch z) (.imm h2)⟩
  · rename_i d _ q
    obtain ⟨v, F, h1, h2, h3, h4⟩ := s.slot _ _ q
    have hz : ∀ a ∈ F, (if O a = .sl x then Tg.fz else O a) = .fz := fun a ha => by rw [if_pos (h4 a ha)]
    exact ⟨v, h1, p v H _ F (s.kill .fz (.inr rfl) (.s d) ⟨v, F, h1, h2, hz⟩) (Fr.kill (.inr rfl)) (fun z => nomatch z) ⟨h2, hz⟩⟩
  · rename_i d q
    obtain ⟨v, F, h1, h2⟩ := s.slot _ _ q
    exact ⟨v, h1, p v H O F s Fr.refl (fun z => nomatch z) h2⟩
section
variable {i : Nat} {x : Str} {pos : Pos} (hN : X.N[i]? = some x) (hv : Vis X.env.scope x) (hd : (x == ("__debug__" : Str)) = false) (hcd : (x == ("__classdict__" : Str)) = false)
include hN hv hd hcd
theorem e_rd : PE X (.Name x pos) (TEs K true (rdM i)) := (pe_var hN hv hd hcd).imp fun _ _ _ h => h.rd
theorem e_mv : PE X (.Name x pos) (TEs K false (mvM i)) := (pe_var hN hv hd hcd).imp fun _ _ _ h => h.mv
theorem e_fz : PE X (.Name x pos) (TEs K false (fzM i)) := (pe_var hN hv hd hcd).imp fun _ _ _ h => h.fz
end
/-- a module's constant -/
theorem e_glob {i : Im} {v : V} {x : Str} {u : Value} {pos : Pos} (hg : Gl X x) (hm : X.mg x = some u) (r : RelV v u) (hv : ∀ H, RepI K H i v) (hd : (x == ("__debug__" : Str)) = false) : PE X (.Name x pos) (TEs K true (kM i)) :=
  (pe_glob hg hm r hd).imp fun _ _ _ h => h.const hv
end
end Wv

set_option Elab.async false
set_option linter.all false
set_option maxRecDepth 100000
namespace Wv
open PySem PySem.Spec PyProof.Rows L2

section
variable (K : PySem.W.Frag) (O : Ow) (H : Hp) (O' : Ow) (H' : Hp)
/-- several values; G: what they own, each for itself -/
inductive VlsOk : List Vl → List V → List Addr → Prop
  | nil : VlsOk [] [] []
  | own {d v F rs vs G} : VlOk K O H O' H' (.o d) v F → VlsOk rs vs G → (∀ a ∈ F, a ∉ G) → VlsOk (.o d :: rs) (v :: vs) (F ++ G)
  | shr {d v F rs vs G} : VlOk K O H O' H' (.s d) v F → VlsOk rs vs G → VlsOk (.s d :: rs) (v :: vs) G
  | bor {d v F rs vs G} : VlOk K O H O' H' (.b d) v F → VlsOk rs vs G → VlsOk (.b d :: rs) (v :: vs) G
end
section
variable {K : PySem.W.Frag} {O O' O1 O2 : Ow} {H H' H1 H2 : Hp} {σ : St} {ρ ρ' : Ev} {r : Vl} {v : V} {F G : List Addr} {rs : List Vl} {vs : List V}
theorem VlsOk.ext (h : VlsOk K O H O1 H1 rs vs G) (x : Ext H1 H2) : VlsOk K O H O1 H2 rs vs G := by
  induction h with
  | nil => exact .nil
  | own a _ d ih => exact .own (a.ext x) ih d
  | shr a _ ih => exact .shr (a.ext x) ih
  | bor a _ ih => exact .bor (VlOk.ext (r := .b _) a x) ih
theorem VlsOk.from (h : VlsOk K O1 H1 O2 H2 rs vs G) (f : Fr O H O1 H1) : VlsOk K O H O2 H2 rs vs G := by
  induction h with
  | nil => exact .nil
  | own a _ d ih => exact .own (a.from f) ih d
  | shr a _ ih => exact .shr a ih
  | bor a _ ih => exact .bor a ih
theorem VlsOk.len (h : VlsOk K O1 H1 O2 H2 rs vs G) : rs.length = vs.length := by
  induction h with
  | nil => rfl
  | own _ _ _ ih => simp [ih]
  | shr _ _ ih => simp [ih]
  | bor _ _ ih => simp [ih]
/-- what the values own is nobody's, and new or taken from a slot -/
theorem VlsOk.own_all (h : VlsOk K O H O' H' rs vs G) : G.Nodup ∧ ∀ a ∈ G, O' a = .no ∧ Mut (H' a) ∧ (H a = none ∨ ∃ i, O a = .sl i) := by
  induction h with
  | nil => exact ⟨.nil, fun _ z => nomatch z⟩
  | own a _ d ih =>
    obtain ⟨a1, a2, a3⟩ := a
    refine ⟨List.nodup_append.mpr ⟨a2, ih.1, fun x hx y hy e => d x hx (e ▸ hy)⟩, fun x hx => ?_⟩
    rcases List.mem_append.mp hx with hx | hx
    · exact a3 x hx
    · exact ih.2 x hx
  | shr _ _ ih => exact ih
  | bor _ _ ih => exact ih
/-- a waiting value ahead of them -/
theorem VlsOk.cons (h : VlOk K O H O1 H1 r v F) (s : SR K O1 H1 σ ρ) (f1 : Fr O H O1 H1) (f : Fr O1 H1 O2 H2) (q : r.isB = true → Qu O1 H1 O2 H2) (k : VlsOk K O1 H1 O2 H2 rs vs G) :
    ∃ G', VlsOk K O H O2 H2 (r :: rs) (v :: vs) G' := by
  have h2 := h.pend s f q
  cases r with
  | o d =>
    refine ⟨_, .own h2 (k.from f1) fun a ha hg => ?_⟩
    obtain ⟨_, _, c⟩ := k.own_all.2 a hg
    obtain ⟨a1, _, a3⟩ := h
    rcases c with c | ⟨i, c⟩
    · exact a1.live a ha c
    · rw [(a3 a ha).1] at c; cases c
  | s d => exact ⟨_, .shr h2 (k.from f1)⟩
  | b d => exact ⟨_, .bor h2 (k.from f1)⟩
end

/-! ## argument lists -/
abbrev Fa := Ev → R (List Vl × Ev)
def anM : Fa := fun ρ => .ok ([], ρ)
def acM (qs : Bool) (f : Fe) (g : Fa) : Fa := fun ρ => (f ρ).bind fun p => if (qs || !p.1.isB) = true then (g p.2).bind fun q => .ok (p.1 :: q.1, q.2) else .no
section
variable (K : PySem.W.Frag)
def TAs (q : Bool) (f : Fa) : TA := fun σ H Q => ∃ O ρ rs ρ', SR K O H σ ρ ∧ f ρ = .ok (rs, ρ') ∧
  ∀ vs H' O' G, SR K O' H' σ ρ' → Fr O H O' H' → (q = true → ρ' = ρ ∧ Qu O H O' H') → VlsOk K O H O' H' rs vs G → Q vs H'
end
section
variable {X : Cx} {K : PySem.W.Frag} {q q1 q2 : Bool} {f g : Fe} {e : Expr} {es : List Expr}
theorem a_nil : PA X [] (TAs K true anM) := pa_nil.imp fun σ H Q h => by
  obtain ⟨O, ρ, rs, ρ', s, e, p⟩ := h
  cases e
  exact p [] H O [] s Fr.refl (fun _ => ⟨rfl, Qu.refl⟩) .nil
theorem TAs.nil {σ : St} {H : Hp} {Q : List V → Hp → Prop} (h : TAs K true anM σ H Q) : Q [] H := by
  obtain ⟨O, ρ, rs, ρ', s, e, p⟩ := h
  cases e
  exact p [] H O [] s Fr.refl (fun _ => ⟨rfl, Qu.refl⟩) .nil
theorem TAs.cons {g : Fa} {σ : St} {H : Hp} {Q : List V → Hp → Prop} (h : TAs K (q1 && q2) (acM q2 f g) σ H Q) : TEs K q1 f σ H fun x H1 => TAs K q2 g σ H1 fun xs H2 => Q (x :: xs) H2 := by
  obtain ⟨O, ρ, rs, ρ', s, e, p⟩ := h
  unfold acM at e
  obtain ⟨⟨r1, ρ1⟩, e1, e⟩ := R.bind_eq e
  simp only at e
  by_cases c : (q2 || !r1.isB) = true
  · rw [if_pos c] at e
    obtain ⟨⟨r2, ρ2⟩, e2, e⟩ := R.bind_eq e
    cases e
    refine ⟨O, ρ, r1, ρ1, s, e1, fun v H1 O1 F s1 f1 u1 k1 => ⟨O1, ρ1, r2, _, s1, e2, fun vs H2 O2 G s2 f2 u2 k2 => ?_⟩⟩
    obtain ⟨G', w⟩ := VlsOk.cons k1 s1 f1 f2 (fun z => (u2 (by rw [z] at c; simpa using c)).2) k2
    refine p _ _ _ _ s2 (f1.trans f2 s1.sl_live) (fun z => ?_) w
    rw [Bool.and_eq_true] at z
    exact ⟨(u2 z.2).1.trans (u1 z.1).1, (u1 z.1).2.trans (u2 z.2).2⟩
  · rw [if_neg c] at e; cases e
theorem TEs.mono {σ : St} {H : Hp} {Q Q' : VK} (h : TEs K q f σ H Q) (k : ∀ v H', Q v H' → Q' v H') : TEs K q f σ H Q' := by
  obtain ⟨O, ρ, r, ρ', s, e, p⟩ := h
  exact ⟨O, ρ, r, ρ', s, e, fun v H' O' F a b c d => k _ _ (p v H' O' F a b c d)⟩
theorem a_cons {g : Fa} (ha : PE X e (TEs K q1 f)) (hr : PA X es (TAs K q2 g)) (hs : starEach (e :: es) X.env = (false, eval e X.env) :: starEach es X.env) : PA X (e :: es) (TAs K (q1 && q2) (acM q2 f g)) :=
  (pa_cons ha hr hs).imp fun σ H Q h => h.cons
end

/-! ## operations that only make new things -/
section
variable (K : PySem.W.Frag)
/-- values in (rs at vs), one out; nothing that stood is changed -/
def PuN (rel : List V → Hp → VK → Prop) (h : List Vl → R Vl) : Prop :=
  ∀ (O : Ow) (H : Hp) (O' : Ow) (H' : Hp) (rs : List Vl) (vs : List V) (G : List Addr) (r : Vl) (Q : VK), h rs = .ok r → (∀ a, O' a ≠ .no → H' a ≠ none) → (∀ a, H a ≠ none → H' a ≠ none) → VlsOk K O H O' H' rs vs G →
    (∀ v H2 F, Ext H' H2 → VlOk K O H O' H2 r v F → Q v H2) → rel vs H' Q
end
def naM (g : Fa) (h : List Vl → R Vl) : Fe := fun ρ => (g ρ).bind fun q => (h q.1).bind fun r => .ok (r, q.2)
section
variable {X : Cx} {K : PySem.W.Frag} {q q1 q2 : Bool} {f g : Fe}
theorem TAs.fin {g : Fa} {h : List Vl → R Vl} {rel : List V → Hp → VK → Prop} (pu : PuN K rel h) {σ : St} {H : Hp} {Q : VK} (w : TEs K q (naM g h) σ H Q) : TAs K q g σ H fun vs H1 => rel vs H1 Q := by
  obtain ⟨O, ρ, r, ρ', s, e, p⟩ := w
  unfold naM at e
  obtain ⟨⟨rs, ρ1⟩, e1, e⟩ := R.bind_eq e
  obtain ⟨r', e2, e⟩ := R.bind_eq e
  cases e
  refine ⟨O, ρ, rs, _, s, e1, fun vs H' O' G s1 f1 u1 k1 => pu O H O' H' rs vs G r Q e2 s1.live f1.live k1 fun v H2 F x k => ?_⟩
  exact p v H2 O' F (s1.ext x) (f1.trans (Fr.ext x) s1.sl_live) (fun z => ⟨(u1 z).1, (u1 z).2.trans (Qu.of x)⟩) k
/-- two operands -/
def b2M (q2 : Bool) (f g : Fe) (h : List Vl → R Vl) : Fe := naM (acM q2 f (acM true g anM)) h
theorem TEs.two {h : List Vl → R Vl} {rel : R2} (pu : PuN K (fun vs H Q => ∀ x y, vs = [x, y] → rel x y H Q) h) {σ : St} {H : Hp} {Q : VK} (w : TEs K (q1 && q2) (b2M q2 f g h) σ H Q) :
    TEs K q1 f σ H fun x H1 => TEs K q2 g σ H1 fun y H2 => rel x y H2 Q := by
  have w : TAs K (q1 && q2) (acM q2 f (acM true g anM)) σ H _ := TAs.fin pu w
  refine w.cons.mono fun x H1 w => ?_
  have w : TAs K (q2 && true) (acM true g anM) σ H1 _ := (Bool.and_true q2).symm ▸ w
  exact w.cons.mono fun y H2 w => w.nil x y rfl
def u1M (f : Fe) (h : List Vl → R Vl) : Fe := naM (acM true f anM) h
theorem TEs.one {h : List Vl → R Vl} {rel : V → Hp → VK → Prop} (pu : PuN K (fun vs H Q => ∀ x, vs = [x] → rel x H Q) h) {σ : St} {H : Hp} {Q : VK} (w : TEs K q (u1M f h) σ H Q) :
    TEs K q f σ H fun x H1 => rel x H1 Q := by
  have w : TAs K q (acM true f anM) σ H _ := TAs.fin pu w
  have w : TAs K (q && true) (acM true f anM) σ H _ := (Bool.and_true q).symm ▸ w
  exact w.cons.mono fun y H2 w => w.nil y rfl
/-- three operands -/
def b3M (q2 q3 : Bool) (f g k : Fe) (h : List Vl → R Vl) : Fe := naM (acM (q2 && q3) f (acM q3 g (acM true k anM))) h
theorem TEs.three {k : Fe} {q3 : Bool} {h : List Vl → R Vl} {rel : V → V → V → Hp → VK → Prop} (pu : PuN K (fun vs H Q => ∀ x y z, vs = [x, y, z] → rel x y z H Q) h) {σ : St} {H : Hp} {Q : VK} (w : TEs K (q1 && (q2 && q3)) (b3M q2 q3 f g k h) σ H Q) :
    TEs K q1 f σ H fun x H1 => TEs K q2 g σ H1 fun y H2 => TEs K q3 k σ H2 fun z H3 => rel x y z H3 Q := by
  have w : TAs K (q1 && (q2 && q3)) (acM (q2 && q3) f (acM q3 g (acM true k anM))) σ H _ := TAs.fin pu w
  refine w.cons.mono fun x H1 w => ?_
  refine w.cons.mono fun y H2 w => ?_
  have w : TAs K (q3 && true) (acM true k anM) σ H2 _ := (Bool.and_true q3).symm ▸ w
  exact w.cons.mono fun z H2 w => w.nil x y z rfl
/-- two ways to do it: by the values -/
theorem TEs.alt {g : Fa} {h k : List Vl → R Vl} {σ : St} {H : Hp} {Q : VK} (w : TEs K q (naM g fun rs => match h rs with | .ok r => .ok r | _ => k rs) σ H Q) : TEs K q (naM g h) σ H Q ∨ TEs K q (naM g k) σ H Q := by
  obtain ⟨O, ρ, r, ρ', s, e, p⟩ := w
  unfold naM at e
  obtain ⟨⟨rs, ρ2⟩, e0, e⟩ := R.bind_eq e
  obtain ⟨r', e3, e⟩ := R.bind_eq e
  cases e
  simp only at e3
  cases z : h rs with
  | ok r2 =>
    rw [z] at e3; cases e3
    exact .inl ⟨O, ρ, _, _, s, by unfold naM; rw [e0, R.bind_ok, z]; rfl, p⟩
  | ex c i =>
    rw [z] at e3
    have e3 : k rs = .ok r := e3
    exact .inr ⟨O, ρ, _, _, s, by unfold naM; rw [e0, R.bind_ok, show k (rs, ρ2).1 = .ok r from e3]; rfl, p⟩
  | no =>
    rw [z] at e3
    have e3 : k rs = .ok r := e3
    exact .inr ⟨O, ρ, _, _, s, by unfold naM; rw [e0, R.bind_ok, show k (rs, ρ2).1 = .ok r from e3]; rfl, p⟩
end

/-! ## from the items' data -/
def Vl.d : Vl → Dt
  | .o d => d
  | .s d => d
  | .b d => d
section
variable {K : PySem.W.Frag} {O O' O1 O2 : Ow} {H H' H1 H2 : Hp} {r : Vl} {v : V} {F G : List Addr} {rs : List Vl} {vs : List V}
theorem VlOk.rep (h : VlOk K O H O' H' r v F) : RepD K H' r.d v F := by
  cases r with
  | o d => exact h.1
  | s d => exact h.1
  | b d => exact h
theorem VlsOk.rep (h : VlsOk K O H O' H' rs vs G) : ∃ F, RepDs K H' (rs.map Vl.d) vs F := by
  induction h with
  | nil => exact ⟨_, .nil⟩
  | own a _ _ ih => obtain ⟨F, ih⟩ := ih; exact ⟨_, .cons a.1 ih⟩
  | shr a _ ih => obtain ⟨F, ih⟩ := ih; exact ⟨_, .cons a.1 ih⟩
  | bor a _ ih => obtain ⟨F, ih⟩ := ih; exact ⟨_, .cons (show RepD K H' _ _ _ from a) ih⟩
theorem RepD.im_inv {i : Im} (h : RepD K H (.im i) v F) : RepI K H i v := by cases h; assumption
/-- all items unchangeable -/
def imsOf : List Vl → Option (List Im)
  | [] => some []
  | .o (.im i) :: r => (imsOf r).map (i :: ·)
  | _ :: _ => none
theorem imsOf_map : ∀ (l : List Im), imsOf (l.map fun i => .o (.im i)) = some l
  | [] => rfl
  | i :: r => by simp [imsOf, imsOf_map r]
theorem VlsOk.ims (h : VlsOk K O H O' H' rs vs G) : ∀ {l : List Im}, imsOf rs = some l → RepIs K H' l vs := by
  induction h with
  | nil => intro l e; cases e; exact .nil
  | @own d v F rs vs G a _ _ ih =>
    intro l e
    cases d with
    | im i =>
      simp only [imsOf, Option.map_eq_some_iff] at e
      obtain ⟨m, e, rfl⟩ := e
      exact .cons a.1.im_inv (ih e)
    | lst _ => cases e
    | dic _ _ => cases e
    | scr _ => cases e
    | tpl _ => cases e
  | shr _ _ _ => intro l e; cases e
  | bor _ _ _ => intro l e; cases e
/-- all items one's own -/
def ownsOf : List Vl → Option (List Dt)
  | [] => some []
  | .o d :: r => (ownsOf r).map (d :: ·)
  | _ :: _ => none
theorem VlsOk.owns (h : VlsOk K O H O' H' rs vs G) : ∀ {l : List Dt}, ownsOf rs = some l → RepDs K H' l vs G := by
  induction h with
  | nil => intro l e; cases e; exact .nil
  | @own d v F rs vs G a _ _ ih =>
    intro l e
    simp only [ownsOf, Option.map_eq_some_iff] at e
    obtain ⟨m, e, rfl⟩ := e
    exact .cons a.1 (ih e)
  | shr _ _ _ => intro l e; cases e
  | bor _ _ _ => intro l e; cases e
theorem one_ok (h : VlsOk K O H O' H' [r] vs G) : ∃ v F, vs = [v] ∧ VlOk K O H O' H' r v F := by
  cases h with
  | own a b _ => cases b; exact ⟨_, _, rfl, a⟩
  | shr a b => cases b; exact ⟨_, _, rfl, a⟩
  | bor a b => cases b; exact ⟨_, _, rfl, a⟩
theorem two_ok {r2 : Vl} (h : VlsOk K O H O' H' [r, r2] vs G) : ∃ v v2 F F2, vs = [v, v2] ∧ VlOk K O H O' H' r v F ∧ VlOk K O H O' H' r2 v2 F2 := by
  cases h with
  | own a b _ => obtain ⟨v, F, rfl, k⟩ := one_ok b; exact ⟨_, _, _, _, rfl, a, k⟩
  | shr a b => obtain ⟨v, F, rfl, k⟩ := one_ok b; exact ⟨_, _, _, _, rfl, a, k⟩
  | bor a b => obtain ⟨v, F, rfl, k⟩ := one_ok b; exact ⟨_, _, _, _, rfl, a, k⟩
theorem RepI.int_inv {i : Int} (h : RepI K H (.int i) v) : v = .int i := by cases h; rfl
theorem RepI.bl_inv {i : Bool} (h : RepI K H (.bl i) v) : v = .bl i := by cases h; rfl
theorem RepI.non_inv (h : RepI K H .non v) : v = .non := by cases h; rfl
theorem RepI.str_inv {i : Str} (h : RepI K H (.str i) v) : v = .str i := by cases h; rfl
theorem RepD.int_inv {i : Int} (h : RepD K H (.im (.int i)) v F) : v = .int i := h.im_inv.int_inv
/-- a new list of one's own items -/
theorem VlsOk.newL {p : Addr} {l : List Dt} (h : VlsOk K O H O' H' rs vs G) (e : ownsOf rs = some l) (lv : ∀ a, O' a ≠ .no → H' a ≠ none) (gr : ∀ a, H a ≠ none → H' a ≠ none) (hp : H' p = none) :
    VlOk K O H O' (upd H' p (.lst vs)) (.o (.lst l)) (.ref p) (p :: G) := by
  have x : Ext H' (upd H' p (.lst vs)) := Ext.upd hp
  have hO : O' p = .no := by
    cases q : O' p with
    | no => rfl
    | _ => exact absurd hp (lv p (by rw [q]; simp))
  have hH : H p = none := by
    cases q : H p with
    | none => rfl
    | some o => exact absurd hp (gr p (by rw [q]; simp))
  obtain ⟨nd, al⟩ := (h.ext x).own_all
  have hpG : p ∉ G := fun hg => by
    obtain ⟨_, al⟩ := h.own_all
    have := (al p hg).2.1
    rw [hp] at this; exact this
  refine ⟨.lst upd_same ((h.ext x).owns e), List.nodup_cons.mpr ⟨hpG, nd⟩, fun a ha => ?_⟩
  rcases List.mem_cons.mp ha with rfl | ha
  · exact ⟨hO, by rw [upd_same]; trivial, .inl hH⟩
  · exact al a ha
/-- a new tuple of what is one's own -/
theorem VlsOk.newTp {p : Addr} {l : List Dt} (h : VlsOk K O H O' H' rs vs G) (e : ownsOf rs = some l) (hp : H' p = none) :
    VlOk K O H O' (upd H' p (.tup vs)) (.o (.tpl l)) (.ref p) G := by
  have x : Ext H' (upd H' p (.tup vs)) := Ext.upd hp
  obtain ⟨nd, al⟩ := (h.ext x).own_all
  exact ⟨.tpl upd_same ((h.ext x).owns e), nd, al⟩
theorem RepDs.vls : ∀ {ds : List Dt} {vs : List V} {G : List Addr}, RepDs K H1 ds vs G → G.Nodup → (∀ a ∈ G, O1 a = .no ∧ Mut (H1 a) ∧ (H a = none ∨ ∃ i, O a = .sl i)) → VlsOk K O H O1 H1 (ds.map .o) vs G
  | [], _, _, h, _, _ => by cases h; exact .nil
  | d :: ds, _, _, h, nd, al => by
    cases h with
    | @cons _ _ v vs F G a b =>
      obtain ⟨n1, n2, n3⟩ := List.nodup_append.mp nd
      exact .own ⟨a, n1, fun x hx => al x (List.mem_append_left _ hx)⟩ (RepDs.vls b n2 fun x hx => al x (List.mem_append_right _ hx)) fun x hx hg => n3 x hx x hg rfl
/-- a new tuple -/
theorem VlsOk.newT {p : Addr} {l : List Im} (h : VlsOk K O H O' H' rs vs G) (e : imsOf rs = some l) (hp : H' p = none) :
    VlOk K O H O' (upd H' p (.tup vs)) (.o (.im (.tup l))) (.ref p) [] :=
  .imm (.tup upd_same ((h.ims e).keep (Ext.upd hp).ktup))
end
end Wv

set_option Elab.async false
set_option linter.all false
set_option maxRecDepth 100000
namespace Wv
open PySem PySem.Spec PyProof.Rows L2

/-- the longest list that the model makes -/
abbrev SZ : Nat := sizeLine
abbrev vI (i : Int) : Vl := .o (.im (.int i))
abbrev vB (b : Bool) : Vl := .o (.im (.bl b))

/-! ## deep == -/
mutual
def pdI : Im → PyData
  | .non => .none
  | .bl b => .bool b
  | .int i => .int i
  | .str x => .str x
  | .tup l => .tuple (pdIs l)
def pdIs : List Im → List PyData
  | [] => []
  | i :: r => pdI i :: pdIs r
end
mutual
def pdD : Dt → PyData
  | .im i => pdI i
  | .lst l => .list (pdDs l)
  | .dic _ _ => .dict []
  | .scr _ => .dict []
  | .tpl _ => .dict []
def pdDs : List Dt → List PyData
  | [] => []
  | i :: r => pdD i :: pdDs r
end
section
variable {K : PySem.W.Frag} {H : Hp}
mutual
theorem RepI.dp : ∀ {i : Im} {v : V}, RepI K H i v → Dp K H v (pdI i)
  | _, _, .non => .non
  | _, _, .bl => .bl _
  | _, _, .int => .int _
  | _, _, .str => .str _
  | _, _, .tup a b => .tup (.of a) (RepIs.dp b)
theorem RepIs.dp : ∀ {i : List Im} {v : List V}, RepIs K H i v → DpAll K H v (pdIs i)
  | _, _, .nil => .nil
  | _, _, .cons a b => .cons (RepI.dp a) (RepIs.dp b)
end
mutual
theorem RepD.dp : ∀ {d : Dt} {v : V} {F : List Addr}, RepD K H d v F → PyData.canLay0 (pdD d) = true → Dp K H v (pdD d)
  | _, _, _, .im a, _ => a.dp
  | _, _, _, .lst a b, h => .lst (.inl (.inl a)) (RepDs.dp b h)
  | _, _, _, .scr a, h => by cases h
  | _, _, _, .tpl a b, h => by cases h
  | _, _, _, .dicK a e b, h => by cases h
  | _, _, _, .dicT a e b, h => by cases h
theorem RepDs.dp : ∀ {d : List Dt} {v : List V} {F : List Addr}, RepDs K H d v F → PyData.canLayAll0 (pdDs d) = true → DpAll K H v (pdDs d)
  | _, _, _, .nil, _ => .nil
  | _, _, _, .cons a b, h => by
    simp only [pdDs, PyData.canLayAll0, Bool.and_eq_true] at h
    exact .cons (RepD.dp a h.1) (RepDs.dp b h.2)
end
end
def okEq (d : Dt) : Bool := SeqAt.shaped (pdD d)
def eqD (d e : Dt) : Bool := PyData.eqv (pdD d) (pdD e)

/-! ## the operations on values -/
def altH (h k : List Vl → R Vl) : List Vl → R Vl := fun rs => match h rs with
  | .ok r => .ok r
  | _ => k rs
def int2 (C : Int → Int → Bool) (g : Int → Int → Im) : List Vl → R Vl
  | [.o (.im (.int i)), .o (.im (.int j))] => if C i j = true then .ok (.o (.im (g i j))) else .no
  | _ => .no
def str2 : List Vl → R Vl
  | [.o (.im (.str i)), .o (.im (.str j))] => if i.length + j.length ≤ SZ then .ok (.o (.im (.str (i ++ j)))) else .no
  | _ => .no
def tup2 : List Vl → R Vl
  | [.o (.im (.tup i)), .o (.im (.tup j))] => if i.length + j.length ≤ SZ then .ok (.o (.im (.tup (i ++ j)))) else .no
  | _ => .no
def Dt.isIm : Dt → Bool
  | .im _ => true
  | _ => false
def lst2 : List Vl → R Vl
  | [a, b] => match a.d, b.d with
    | .lst x, .lst y => if (x.all Dt.isIm && y.all Dt.isIm && decide (x.length + y.length ≤ SZ)) = true then .ok (.o (.lst (x ++ y))) else .no
    | _, _ => .no
  | _ => .no
def addH : List Vl → R Vl := altH (int2 (fun _ _ => true) fun i j => .int (i + j)) (altH tup2 (altH lst2 str2))
def subH : List Vl → R Vl := int2 (fun _ _ => true) fun i j => .int (i - j)
def bndI (i : Int) : Bool := decide (-(2 ^ 64) < i) && decide (i < 2 ^ 64)
def mulI : List Vl → R Vl := int2 (fun i j => bndI i || bndI j) fun i j => .int (i * j)
def lstRep : List Vl → R Vl
  | [a, .o (.im (.int k))] => match a.d with
    | .lst x => if (x.all Dt.isIm && decide (-(2 ^ 63) ≤ k) && decide (k < 2 ^ 63) && decide (x.length * k.toNat ≤ SZ)) = true then .ok (.o (.lst (List.replicate k.toNat x).flatten)) else .no
    | _ => .no
  | _ => .no
def tupRep : List Vl → R Vl
  | [.o (.im (.tup x)), .o (.im (.int k))] => if (!x.isEmpty && decide (2 ≤ k) && decide (k ≤ 1000) && decide (x.length ≤ 1000)) = true then .ok (.o (.im (.tup (List.replicate k.toNat x).flatten))) else .no
  | _ => .no
def mulH : List Vl → R Vl := altH mulI (altH lstRep tupRep)
def fdivH : List Vl → R Vl := int2 (fun _ j => decide (j ≠ 0) && decide (j.natAbs < 1073741824)) fun i j => .int (i.fdiv j)
def modH : List Vl → R Vl := int2 (fun _ j => decide (j ≠ 0)) fun i j => .int (i.fmod j)
def powH : List Vl → R Vl := int2 (fun i j => decide (0 ≤ j) && decide (j ≤ 1000000) && decide (i.natAbs < 2 ^ 64)) fun i j => .int (i ^ j.toNat)
def shlH : List Vl → R Vl := int2 (fun i j => decide (0 ≤ j) && decide (j ≤ 1000000) && decide (i.natAbs < 2 ^ 64)) fun i j => .int (i * 2 ^ j.toNat)
def xorH : List Vl → R Vl := int2 (fun _ _ => true) fun i j => .int (Builtin.bitXor i j)
def ltH : List Vl → R Vl := int2 (fun _ _ => true) fun i j => .bl (decide (i < j))
def leH : List Vl → R Vl := int2 (fun _ _ => true) fun i j => .bl (decide (i ≤ j))
def gtH : List Vl → R Vl := int2 (fun _ _ => true) fun i j => .bl (decide (j < i))
def geH : List Vl → R Vl := int2 (fun _ _ => true) fun i j => .bl (decide (j ≤ i))
def eqDH (neg : Bool) : List Vl → R Vl
  | [a, b] => if (okEq a.d && okEq b.d) = true then .ok (vB (if neg then !eqD a.d b.d else eqD a.d b.d)) else .no
  | _ => .no
def eqH : List Vl → R Vl := altH (int2 (fun _ _ => true) fun i j => .bl (decide (i = j))) (eqDH false)
def neH : List Vl → R Vl := altH (int2 (fun _ _ => true) fun i j => .bl (!decide (i = j))) (eqDH true)
def Dt.isNon : Dt → Bool
  | .im .non => true
  | _ => false
def isH (neg : Bool) : List Vl → R Vl
  | [a, .o (.im .non)] => .ok (vB (if neg then !a.d.isNon else a.d.isNon))
  | [.o (.im (.bl x)), .o (.im (.bl y))] => .ok (vB (if neg then !decide (x = y) else decide (x = y)))
  | _ => .no
def itemsOf : Dt → Option (List Dt)
  | .lst l => some l
  | .im (.tup l) => some (l.map .im)
  | _ => none
/-- x in a list or tuple -/
def inSeq (neg : Bool) : List Vl → R Vl
  | [a, b] => match itemsOf b.d with
    | some l => if (okEq a.d && okEq b.d) = true then .ok (vB (if neg then !l.any (fun z => eqD z a.d) else l.any (fun z => eqD z a.d))) else .no
    | none => .no
  | _ => .no
def inStr (neg : Bool) : List Vl → R Vl
  | [.o (.im (.str i)), .o (.im (.str j))] => .ok (vB (if neg then !(!(Builtin.Str.occurrences j i 0 j.length 1).isEmpty) else !(Builtin.Str.occurrences j i 0 j.length 1).isEmpty))
  | _ => .no
def negH : List Vl → R Vl
  | [.o (.im (.int i))] => .ok (vI (-i))
  | _ => .no

/-! ## that they are what Python does -/
section
variable {X : Cx} {K : PySem.W.Frag} {q q1 q2 : Bool} {f g : Fe}
abbrev Lr2 (rel : R2) : List V → Hp → VK → Prop := fun vs H Q => ∀ x y, vs = [x, y] → rel x y H Q
theorem PuN.alt {rel rel' : R2} {h k : List Vl → R Vl} (a : PuN K (Lr2 rel) h) (b : PuN K (Lr2 rel') k) : PuN K (Lr2 fun x y H Q => rel x y H Q ∨ rel' x y H Q) (altH h k) := by
  intro O H O' H' rs vs G r Q e lv gr w p x y hv
  unfold altH at e
  cases q : h rs with
  | ok r' =>
    rw [q] at e; cases e
    exact .inl (a O H O' H' rs vs G r Q q lv gr w p x y hv)
  | ex c i => rw [q] at e; exact .inr (b O H O' H' rs vs G r Q e lv gr w p x y hv)
  | no => rw [q] at e; exact .inr (b O H O' H' rs vs G r Q e lv gr w p x y hv)
theorem two_imm {O O' : Ow} {H H' : Hp} {i j : Im} {vs : List V} {G : List Addr} (w : VlsOk K O H O' H' [.o (.im i), .o (.im j)] vs G) {x y : V} (e : vs = [x, y]) : RepI K H' i x ∧ RepI K H' j y := by
  obtain ⟨v, v2, F, F2, rfl, a, b⟩ := two_ok w
  cases e
  exact ⟨a.1.im_inv, b.1.im_inv⟩
theorem pu_int2 {C : Int → Int → Prop} {c : Int → Int → Bool} {g : Int → Int → Im} {gv : Int → Int → V} (hc : ∀ i j, c i j = true → C i j) (hg : ∀ i j H, RepI K H (g i j) (gv i j)) : PuN K (Lr2 (rI C gv)) (int2 c g) := by
  intro O H O' H' rs vs G r Q e lv gr w p x y hv
  unfold int2 at e
  split at e <;> first | cases e | skip
  rename_i i j
  split at e <;> cases e
  rename_i hcc
  obtain ⟨a, b⟩ := two_imm w hv
  exact ⟨i, j, a.int_inv, b.int_inv, hc _ _ hcc, p _ H' [] (Ext.refl _) (.imm (hg i j H'))⟩
theorem pu_int0 {c : Int → Int → Bool} {g : Int → Int → Im} {gv : Int → Int → V} (hg : ∀ i j H, RepI K H (g i j) (gv i j)) : PuN K (Lr2 (rI0 gv)) (int2 c g) := by
  intro O H O' H' rs vs G r Q e lv gr w p x y hv
  obtain ⟨i, j, e1, e2, _, h⟩ := pu_int2 (K := K) (C := fun _ _ => True) (fun _ _ _ => trivial) hg O H O' H' rs vs G r Q e lv gr w p x y hv
  exact ⟨i, j, e1, e2, h⟩
theorem pu_str2 : PuN K (Lr2 fun x y H Q => ∃ i j, x = .str i ∧ y = .str j ∧ i.length + j.length ≤ sizeLine ∧ Q (.str (i ++ j)) H) str2 := by
  intro O H O' H' rs vs G r Q e lv gr w p x y hv
  unfold str2 at e
  split at e <;> first | cases e | skip
  rename_i i j
  split at e <;> cases e
  rename_i hc
  obtain ⟨a, b⟩ := two_imm w hv
  exact ⟨i, j, a.str_inv, b.str_inv, hc, p _ H' [] (Ext.refl _) (.imm .str)⟩
theorem RepI.tup_inv {H : Hp} {l : List Im} {v : V} (h : RepI K H (.tup l) v) : ∃ p vs, v = .ref p ∧ H p = some (.tup vs) ∧ RepIs K H l vs := by cases h; exact ⟨_, _, rfl, by assumption, by assumption⟩
theorem RepIs.append {H : Hp} {l m : List Im} {vs ws : List V} (h : RepIs K H l vs) (k : RepIs K H m ws) : RepIs K H (l ++ m) (vs ++ ws) := by
  induction l generalizing vs with
  | nil => cases h; exact k
  | cons i r ih => cases h with | cons a b => exact .cons a (ih b)
theorem RepDs.append {H : Hp} {l m : List Dt} {vs ws : List V} {F G : List Addr} (h : RepDs K H l vs F) (k : RepDs K H m ws G) : RepDs K H (l ++ m) (vs ++ ws) (F ++ G) := by
  induction l generalizing vs F with
  | nil => cases h; exact k
  | cons i r ih => cases h with | cons a b => rw [List.cons_append, List.cons_append, List.append_assoc]; exact .cons a (ih b)
theorem RepDs.ims {H : Hp} {l : List Dt} {vs : List V} {F : List Addr} (h : RepDs K H l vs F) (a : l.all Dt.isIm = true) : F = [] := by
  induction l generalizing vs F with
  | nil => cases h; rfl
  | cons i r ih =>
    rw [List.all_cons, Bool.and_eq_true] at a
    cases h with
    | cons x y =>
      rw [ih y a.2]
      cases i with
      | im _ => cases x; rfl
      | lst _ => cases a.1
      | dic _ _ => cases a.1
      | scr _ => cases a.1
      | tpl _ => cases a.1
theorem RepD.lst_inv {H : Hp} {l : List Dt} {v : V} {F : List Addr} (h : RepD K H (.lst l) v F) : ∃ a vs G, v = .ref a ∧ F = a :: G ∧ H a = some (.lst vs) ∧ RepDs K H l vs G := by cases h; exact ⟨_, _, _, rfl, rfl, by assumption, by assumption⟩
theorem VlOk.lst {O O' : Ow} {H H' : Hp} {r : Vl} {l : List Dt} {v : V} {F : List Addr} (h : VlOk K O H O' H' r v F) (e : r.d = .lst l) : ∃ a vs G, v = .ref a ∧ H' a = some (.lst vs) ∧ RepDs K H' l vs G := by
  have := h.rep
  rw [e] at this
  obtain ⟨a, vs, G, h1, _, h2, h3⟩ := this.lst_inv
  exact ⟨a, vs, G, h1, h2, h3⟩
/-- a new list of unchangeable items -/
theorem newL_im {O O' : Ow} {H H' : Hp} {l : List Dt} {vs : List V} {p : Addr} (h : RepDs K H' l vs []) (lv : ∀ a, O' a ≠ .no → H' a ≠ none) (gr : ∀ a, H a ≠ none → H' a ≠ none) (hp : H' p = none) :
    VlOk K O H O' (upd H' p (.lst vs)) (.o (.lst l)) (.ref p) [p] := by
  have hO : O' p = .no := by
    cases q : O' p with
    | no => rfl
    | _ => exact absurd hp (lv p (by rw [q]; simp))
  have hH : H p = none := by
    cases q : H p with
    | none => rfl
    | some o => exact absurd hp (gr p (by rw [q]; simp))
  refine ⟨.lst upd_same (h.keep (Ext.upd hp).ktup fun _ z => nomatch z), by simp, fun a ha => ?_⟩
  have : a = p := by simpa using ha
  subst this
  exact ⟨hO, by rw [upd_same]; trivial, .inl hH⟩
theorem newT_im {O O' : Ow} {H H' : Hp} {l : List Im} {vs : List V} {p : Addr} (h : RepIs K H' l vs) (hp : H' p = none) : VlOk K O H O' (upd H' p (.tup vs)) (.o (.im (.tup l))) (.ref p) [] :=
  .imm (.tup upd_same (h.keep (Ext.upd hp).ktup))
theorem pu_tup2 : PuN K (Lr2 (rCatA K)) tup2 := by
  intro O H O' H' rs vs G r Q e lv gr w p x y hv
  unfold tup2 at e
  split at e <;> first | cases e | skip
  rename_i i j
  split at e <;> cases e
  rename_i hc
  obtain ⟨a, b⟩ := two_imm w hv
  obtain ⟨pa, xs, rfl, h1, h2⟩ := a.tup_inv
  obtain ⟨pb, ys, rfl, h3, h4⟩ := b.tup_inv
  refine ⟨pa, pb, xs, ys, rfl, rfl, .of h1, .of h3, by rw [← h2.len, ← h4.len]; exact hc, fun z => ?_, fun _ z => ?_, fun _ _ p' hp => ?_⟩
  · subst z
    cases h2
    exact p _ H' [] (Ext.refl _) (.imm (.tup h3 h4))
  · subst z
    cases h4
    rw [List.append_nil] at *
    exact p _ H' [] (Ext.refl _) (.imm (.tup h1 h2))
  · exact p _ _ [] (Ext.upd hp) (newT_im (h2.append h4) hp)
theorem RepDs.flat {H : Hp} {l : List Dt} {vs : List V} (h : RepDs K H l vs []) : ∀ k : Nat, RepDs K H (List.replicate k l).flatten (List.replicate k vs).flatten []
  | 0 => .nil
  | k + 1 => by
    rw [List.replicate_succ, List.replicate_succ, List.flatten_cons, List.flatten_cons]
    exact (List.append_nil ([] : List Addr)) ▸ h.append (RepDs.flat h k)
theorem RepIs.flat {H : Hp} {l : List Im} {vs : List V} (h : RepIs K H l vs) : ∀ k : Nat, RepIs K H (List.replicate k l).flatten (List.replicate k vs).flatten
  | 0 => .nil
  | k + 1 => by
    rw [List.replicate_succ, List.replicate_succ, List.flatten_cons, List.flatten_cons]
    exact h.append (RepIs.flat h k)
theorem pu_lst2 : PuN K (Lr2 rCat) lst2 := by
  intro O H O' H' rs vs G r Q e lv gr w p x y hv
  unfold lst2 at e
  split at e <;> first | cases e | skip
  rename_i a b
  split at e <;> first | cases e | skip
  rename_i l m ha hb
  split at e <;> cases e
  rename_i hc
  simp only [Bool.and_eq_true, decide_eq_true_eq] at hc
  obtain ⟨v, v2, F, F2, rfl, k1, k2⟩ := two_ok w
  cases hv
  obtain ⟨pa, xs, F1, rfl, h1, h2⟩ := k1.lst ha
  obtain ⟨pb, ys, F2, rfl, h3, h4⟩ := k2.lst hb
  obtain rfl := h2.ims hc.1.1
  obtain rfl := h4.ims hc.1.2
  exact ⟨pa, pb, xs, ys, rfl, rfl, h1, h3, by rw [← h2.len, ← h4.len]; exact hc.2, fun q hq => p _ _ _ (Ext.upd hq) (newL_im (h2.append h4) lv gr hq)⟩
theorem pu_lstRep : PuN K (Lr2 rRep) lstRep := by
  intro O H O' H' rs vs G r Q e lv gr w p x y hv
  unfold lstRep at e
  split at e <;> first | cases e | skip
  rename_i a k
  split at e <;> first | cases e | skip
  rename_i l ha
  split at e <;> cases e
  rename_i hc
  simp only [Bool.and_eq_true, decide_eq_true_eq] at hc
  obtain ⟨v, v2, F, F2, rfl, k1, k2⟩ := two_ok w
  cases hv
  obtain ⟨pa, xs, F1, rfl, h1, h2⟩ := k1.lst ha
  obtain rfl := h2.ims hc.1.1.1
  exact ⟨pa, k, xs, rfl, k2.1.int_inv, h1, hc.1.1.2, hc.1.2, by rw [← h2.len]; exact hc.2, fun q hq => p _ _ _ (Ext.upd hq) (newL_im (h2.flat _) lv gr hq)⟩
theorem pu_tupRep : PuN K (Lr2 (rRepT K)) tupRep := by
  intro O H O' H' rs vs G r Q e lv gr w p x y hv
  unfold tupRep at e
  split at e <;> first | cases e | skip
  rename_i l k
  split at e <;> cases e
  rename_i hc
  simp only [Bool.and_eq_true, decide_eq_true_eq, Bool.not_eq_true'] at hc
  obtain ⟨a, b⟩ := two_imm w hv
  obtain ⟨pa, xs, rfl, h1, h2⟩ := a.tup_inv
  have hl := h2.len
  refine ⟨pa, k, xs, rfl, b.int_inv, .of h1, fun z => ?_, hc.1.1.2, hc.1.2, by omega, fun q hq => p _ _ [] (Ext.upd hq) (newT_im (h2.flat _) hq)⟩
  subst z
  cases l with
  | nil => simp at hc
  | cons _ _ => cases hl
theorem pu_eqD (neg : Bool) : PuN K (Lr2 fun x y H Q => ∃ d e, Dp K H x d ∧ Dp K H y e ∧ SeqAt.shaped d = true ∧ SeqAt.shaped e = true ∧ Q (.bl (if neg then !PyData.eqv d e else PyData.eqv d e)) H) (eqDH neg) := by
  intro O H O' H' rs vs G r Q e lv gr w p x y hv
  unfold eqDH at e
  split at e <;> first | cases e | skip
  rename_i a b
  split at e <;> cases e
  rename_i hc
  simp only [Bool.and_eq_true, okEq] at hc
  obtain ⟨v, v2, F, F2, rfl, k1, k2⟩ := two_ok w
  cases hv
  refine ⟨_, _, k1.rep.dp (SeqAt.canLay_of_shaped hc.1), k2.rep.dp (SeqAt.canLay_of_shaped hc.2), hc.1, hc.2, ?_⟩
  have := p (.bl (if neg then !eqD a.d b.d else eqD a.d b.d)) H' [] (Ext.refl _) (.imm .bl)
  exact this
theorem pdDs_map : ∀ l : List Im, pdDs (l.map .im) = pdIs l
  | [] => rfl
  | i :: r => by rw [List.map_cons, pdDs, pdIs, pdDs_map r]; rfl
theorem pdDs_any (f : PyData → Bool) : ∀ l : List Dt, (pdDs l).any f = l.any fun z => f (pdD z)
  | [] => rfl
  | i :: r => by rw [pdDs, List.any_cons, List.any_cons, pdDs_any f r]
/-- in: lists and tuples -/
def rInSeq (K : PySem.W.Frag) (neg : Bool) : R2 := fun x y H Q => ∃ d ds, Dp K H x d ∧ (Dp K H y (.list ds) ∨ Dp K H y (.tuple ds)) ∧ SeqAt.shaped d = true ∧ SeqAt.shaped (.list ds) = true ∧ Q (.bl (if neg then !ds.any (fun z => PyData.eqv z d) else ds.any (fun z => PyData.eqv z d))) H
theorem pu_inSeq (neg : Bool) : PuN K (Lr2 (rInSeq K neg)) (inSeq neg) := by
  intro O H O' H' rs vs G r Q e lv gr w p x y hv
  unfold inSeq at e
  split at e <;> first | cases e | skip
  rename_i a b
  split at e <;> first | cases e | skip
  rename_i l hl
  split at e <;> cases e
  rename_i hc
  simp only [Bool.and_eq_true, okEq] at hc
  obtain ⟨v, v2, F, F2, rfl, k1, k2⟩ := two_ok w
  cases hv
  have q := p (.bl (if neg then !l.any (fun z => eqD z a.d) else l.any (fun z => eqD z a.d))) H' [] (Ext.refl _) (.imm .bl)
  have k2 := k2.rep
  have hc2 := hc.2
  generalize b.d = bd at *
  cases bd with
  | im i =>
    cases i with
    | tup m =>
      simp only [itemsOf, Option.some.injEq] at hl
      subst hl
      refine ⟨_, _, k1.rep.dp (SeqAt.canLay_of_shaped hc.1), .inr (k2.dp (SeqAt.canLay_of_shaped hc.2)), hc.1, hc.2, ?_⟩
      rw [← pdDs_map, pdDs_any]
      exact q
    | _ => cases hl
  | lst m =>
    simp only [itemsOf, Option.some.injEq] at hl
    subst hl
    refine ⟨_, _, k1.rep.dp (SeqAt.canLay_of_shaped hc.1), .inl (k2.dp (SeqAt.canLay_of_shaped hc.2)), hc.1, hc.2, ?_⟩
    rw [pdDs_any]
    exact q
  | dic _ _ => cases hl
  | scr _ => cases hl
  | tpl _ => cases hl
theorem op_inSeq (hu : X.A.units + 65 < cLine) : OpR X (compareOp .In) (rInSeq X.K false) := by
  intro pins s σ H x y v u Q I rx ry h
  obtain ⟨d, ds, hd, he, sd, se, q⟩ := h
  obtain ⟨as, r1⟩ := Dp.reads I d x v hd rx
  rcases he with he | he
  · obtain ⟨bs, r2⟩ := Dp.reads I (.list ds) y u he ry
    exact SeqAt.in_list_reads r2 r1 (SeqAt.canLay_of_shaped se) (SeqAt.canLay_of_shaped sd) (room_in_shaped sd hu) ⟨.bl _, H, I, rfl, q⟩
  · obtain ⟨bs, r2⟩ := Dp.reads I (.tuple ds) y u he ry
    exact SeqAt.in_tuple_reads r2 r1 (SeqAt.canLay_of_shaped se) (SeqAt.canLay_of_shaped sd) (room_in_shaped sd hu) ⟨.bl _, H, I, rfl, q⟩
theorem op_notInSeq (hu : X.A.units + 65 < cLine) : OpR X (compareOp .NotIn) (rInSeq X.K true) := by
  intro pins s σ H x y v u Q I rx ry h
  obtain ⟨d, ds, hd, he, sd, se, q⟩ := h
  obtain ⟨as, r1⟩ := Dp.reads I d x v hd rx
  rcases he with he | he
  · obtain ⟨bs, r2⟩ := Dp.reads I (.list ds) y u he ry
    exact SeqAt.notIn_list_reads r2 r1 (SeqAt.canLay_of_shaped se) (SeqAt.canLay_of_shaped sd) (room_in_shaped sd hu) ⟨.bl _, H, I, rfl, q⟩
  · obtain ⟨bs, r2⟩ := Dp.reads I (.tuple ds) y u he ry
    exact SeqAt.notIn_tuple_reads r2 r1 (SeqAt.canLay_of_shaped se) (SeqAt.canLay_of_shaped sd) (room_in_shaped sd hu) ⟨.bl _, H, I, rfl, q⟩
theorem RepD.non_iff {H : Hp} {d : Dt} {v : V} {F : List Addr} (h : RepD K H d v F) : decide (v = .non) = d.isNon := by
  cases h with
  | im h => cases h <;> simp [Dt.isNon]
  | _ => simp [Dt.isNon]
theorem pu_isN (neg : Bool) : PuN K (Lr2 fun x y H Q => (y = .non ∧ Q (.bl (if neg then !decide (x = .non) else decide (x = .non))) H) ∨ ∃ a b, x = .bl a ∧ y = .bl b ∧ Q (.bl (if neg then !decide (a = b) else decide (a = b))) H) (isH neg) := by
  intro O H O' H' rs vs G r Q e lv gr w p x y hv
  unfold isH at e
  split at e <;> first | cases e | skip
  · rename_i a
    obtain ⟨v, v2, F, F2, rfl, k1, k2⟩ := two_ok w
    cases hv
    refine .inl ⟨k2.1.im_inv.non_inv, ?_⟩
    rw [k1.rep.non_iff]
    exact p _ H' [] (Ext.refl _) (.imm .bl)
  · obtain ⟨a, b⟩ := two_imm w hv
    exact .inr ⟨_, _, a.bl_inv, b.bl_inv, p _ H' [] (Ext.refl _) (.imm .bl)⟩
theorem pu_inStr (neg : Bool) : PuN K (Lr2 fun x y H Q => ∃ i j, x = .str i ∧ y = .str j ∧ Q (.bl (if neg then !(!(Builtin.Str.occurrences j i 0 j.length 1).isEmpty) else !(Builtin.Str.occurrences j i 0 j.length 1).isEmpty)) H) (inStr neg) := by
  intro O H O' H' rs vs G r Q e lv gr w p x y hv
  unfold inStr at e
  split at e <;> first | cases e | skip
  obtain ⟨a, b⟩ := two_imm w hv
  exact ⟨_, _, a.str_inv, b.str_inv, p _ H' [] (Ext.refl _) (.imm .bl)⟩
theorem OpR.weak {fn : Value → Value → Sem Value} {rel rel' : R2} (h : OpR X fn rel) (k : ∀ x y H Q, rel' x y H Q → rel x y H Q) : OpR X fn rel' := fun pins s σ H x y v u Q I rx ry q => h pins s σ H x y v u Q I rx ry (k _ _ _ _ q)

section
variable {a b : Expr} {pos : Pos} (ha : PE X a (TEs X.K q1 f)) (hb : PE X b (TEs X.K q2 g))
include ha hb
theorem e_bin {op : Operator} {rel : R2} {h : List Vl → R Vl} (ho : OpR X (binaryOp op) rel) (pu : PuN X.K (Lr2 rel) h) : PE X (.BinOp a op b pos) (TEs X.K (q1 && q2) (b2M q2 f g h)) :=
  (pe_op ho ha hb).imp fun _ _ _ w => w.two pu
theorem e_cmp {op : CmpOp} {rel : R2} {h : List Vl → R Vl} (ho : OpR X (compareOp op) rel) (pu : PuN X.K (Lr2 rel) h) (hm : behindInMarks op b = false) : PE X (.Compare a [op] [b] pos) (TEs X.K (q1 && q2) (b2M q2 f g h)) :=
  (pe_cmpR ho ha hb hm).imp fun _ _ _ w => w.two pu
theorem e_add : PE X (.BinOp a .Add b pos) (TEs X.K (q1 && q2) (b2M q2 f g addH)) :=
  e_bin ha hb (op_add.or (op_catA.or (op_cat.or op_add_str))) ((pu_int0 fun _ _ _ => .int).alt (pu_tup2.alt (pu_lst2.alt pu_str2)))
theorem e_sub : PE X (.BinOp a .Sub b pos) (TEs X.K (q1 && q2) (b2M q2 f g subH)) := e_bin ha hb op_sub (pu_int0 fun _ _ _ => .int)
theorem e_mul : PE X (.BinOp a .Mult b pos) (TEs X.K (q1 && q2) (b2M q2 f g mulH)) :=
  e_bin ha hb (op_mul.or (op_rep.or op_repT)) ((pu_int2 (C := CMul) (fun i j h => by
    simp only [bndI, Bool.or_eq_true, Bool.and_eq_true, decide_eq_true_eq] at h
    exact h) fun _ _ _ => .int).alt (pu_lstRep.alt pu_tupRep))
theorem e_fdiv : PE X (.BinOp a .FloorDiv b pos) (TEs X.K (q1 && q2) (b2M q2 f g fdivH)) :=
  e_bin ha hb op_fdivN (pu_int2 (C := CDivN) (fun i j h => by simp only [Bool.and_eq_true, decide_eq_true_eq] at h; exact h) fun _ _ _ => .int)
theorem e_mod : PE X (.BinOp a .Mod b pos) (TEs X.K (q1 && q2) (b2M q2 f g modH)) :=
  e_bin ha hb op_modN (pu_int2 (C := fun _ j => j ≠ 0) (fun i j h => by simpa using h) fun _ _ _ => .int)
theorem e_pow : PE X (.BinOp a .Pow b pos) (TEs X.K (q1 && q2) (b2M q2 f g powH)) :=
  e_bin ha hb op_pow (pu_int2 (C := CPow) (fun i j h => by simp only [Bool.and_eq_true, decide_eq_true_eq] at h; exact ⟨h.1.1, h.1.2, h.2⟩) fun _ _ _ => .int)
theorem e_shl : PE X (.BinOp a .LShift b pos) (TEs X.K (q1 && q2) (b2M q2 f g shlH)) :=
  e_bin ha hb op_shl (pu_int2 (C := CPow) (fun i j h => by simp only [Bool.and_eq_true, decide_eq_true_eq] at h; exact ⟨h.1.1, h.1.2, h.2⟩) fun _ _ _ => .int)
theorem e_xor : PE X (.BinOp a .BitXor b pos) (TEs X.K (q1 && q2) (b2M q2 f g xorH)) := e_bin ha hb op_xor (pu_int0 fun _ _ _ => .int)
theorem e_lt : PE X (.Compare a [.Lt] [b] pos) (TEs X.K (q1 && q2) (b2M q2 f g ltH)) := e_cmp ha hb op_lt (pu_int0 fun _ _ _ => .bl) (nomark _)
theorem e_le : PE X (.Compare a [.LtE] [b] pos) (TEs X.K (q1 && q2) (b2M q2 f g leH)) := e_cmp ha hb op_le (pu_int0 fun _ _ _ => .bl) (nomark _)
theorem e_gt : PE X (.Compare a [.Gt] [b] pos) (TEs X.K (q1 && q2) (b2M q2 f g gtH)) := e_cmp ha hb op_gt (pu_int0 fun _ _ _ => .bl) (nomark _)
theorem e_ge : PE X (.Compare a [.GtE] [b] pos) (TEs X.K (q1 && q2) (b2M q2 f g geH)) := e_cmp ha hb op_ge (pu_int0 fun _ _ _ => .bl) (nomark _)
end
end
end Wv

set_option Elab.async false
set_option linter.all false
set_option maxRecDepth 100000
namespace Wv
open PySem PySem.Spec PyProof.Rows L2

/-! ## dicts by value -/
def keyOf : Im → Option Key
  | .int i => some (.inl i)
  | .str x => some (.inr x)
  | _ => none
def keysOf : List Im → Option (List Key)
  | [] => some []
  | i :: r => match keyOf i, keysOf r with
    | some k, some ks => some (k :: ks)
    | _, _ => none
def fits (t : Bool) (k : Im) : Bool := match t, k with
  | false, k => (keyOf k).isSome
  | true, .tup l => (keysOf l).isSome
  | true, _ => false
def look {α : Type} (l : List (Im × α)) (k : Im) : Option α := (l.find? fun p => decide (p.1 = k)).map (·.2)
def put {α : Type} (l : List (Im × α)) (k : Im) (v : α) : List (Im × α) :=
  if l.any (fun p => decide (p.1 = k)) then l.map fun p => if p.1 = k then (p.1, v) else p else l ++ [(k, v)]
def drop {α : Type} (l : List (Im × α)) (k : Im) : List (Im × α) := l.filter fun p => decide (p.1 ≠ k)

theorem keyOf_some : ∀ {i : Im} {k : Key}, keyOf i = some k → i = keyI k
  | .int _, _, h => by cases h; rfl
  | .str _, _, h => by cases h; rfl
  | .non, _, h => by cases h
  | .bl _, _, h => by cases h
  | .tup _, _, h => by cases h
theorem keysOf_some : ∀ {l : List Im} {ks : List Key}, keysOf l = some ks → l = ks.map keyI
  | [], _, h => by cases h; rfl
  | i :: r, ks, h => by
    simp only [keysOf] at h
    split at h <;> cases h
    rename_i k ks h1 h2
    rw [keyOf_some h1, keysOf_some h2, List.map_cons]
theorem keyI_inj {a b : Key} (h : keyI a = keyI b) : a = b := by
  cases a <;> cases b <;> simp [keyI] at h <;> rw [h]
theorem keyIs_inj : ∀ {a b : List Key}, a.map keyI = b.map keyI → a = b
  | [], [], _ => rfl
  | [], _ :: _, h => by cases h
  | _ :: _, [], h => by cases h
  | a :: r, b :: s, h => by
    rw [List.map_cons, List.map_cons] at h
    injection h with h1 h2
    rw [keyI_inj h1, keyIs_inj h2]
theorem tkI_inj {a b : List Key} (h : tkI a = tkI b) : a = b := by unfold tkI at h; injection h with h; exact keyIs_inj h
section
variable {K : PySem.W.Frag} {H : Hp}
theorem RepI.key {k : Key} {v : V} (h : RepI K H (keyI k) v) : v = kV k := by
  cases k with
  | inl i => exact h.int_inv
  | inr x => exact h.str_inv
theorem RepI.key' {k : Key} : RepI K H (keyI k) (kV k) := by
  cases k with
  | inl i => exact .int
  | inr x => exact .str
theorem RepIs.keys : ∀ {ks : List Key} {vs : List V}, RepIs K H (ks.map keyI) vs → vs = ks.map kV
  | [], _, h => by cases h; rfl
  | k :: r, _, h => by
    cases h with
    | cons a b => rw [List.map_cons, a.key, RepIs.keys b]
theorem RepI.tkey {k : List Key} {v : V} (h : RepI K H (tkI k) v) : ∃ b, v = .ref b ∧ H b = some (.tup (k.map kV)) := by
  obtain ⟨p, vs, rfl, h1, h2⟩ := h.tup_inv
  rw [h2.keys] at h1
  exact ⟨p, rfl, h1⟩
/-- what a dict of any keys holds, by value -/
theorem look_rel {κ : Type} [DecidableEq κ] {inj : κ → Im} (hi : ∀ a b, inj a = inj b → a = b) {k : κ} : ∀ {l : List (Im × Dt)} {kvs : List (κ × V)} {G : List Addr}, l.map (·.1) = kvs.map (fun p => inj p.1) → RepDs K H (l.map (·.2)) (kvs.map (·.2)) G →
    (look l (inj k) = none ∧ valV kvs k = none) ∨ ∃ d v F, look l (inj k) = some d ∧ valV kvs k = some v ∧ RepD K H d v F ∧ F.Sublist G
  | [], [], _, _, _ => .inl ⟨rfl, rfl⟩
  | [], _ :: _, _, e, _ => by cases e
  | _ :: _, [], _, e, _ => by cases e
  | p :: l, q :: kvs, G, e, h => by
    rw [List.map_cons, List.map_cons] at e
    injection e with e1 e2
    rw [List.map_cons, List.map_cons] at h
    cases h with
    | @cons d _ v _ F G' a b =>
      by_cases c : q.1 = k
      · refine .inr ⟨p.2, q.2, F, ?_, valV_pos c, a, List.sublist_append_left _ _⟩
        unfold look
        rw [List.find?_cons, show decide (p.1 = inj k) = true by rw [e1, c]; simp]
        rfl
      · have e3 : look (p :: l) (inj k) = look l (inj k) := by
          unfold look
          rw [List.find?_cons, show decide (p.1 = inj k) = false from decide_eq_false (by rw [e1]; exact fun z => c (hi _ _ z))]
        rw [e3, valV_neg c]
        rcases look_rel hi e2 b with z | ⟨d', v', F', z1, z2, z3, z4⟩
        · exact .inl z
        · exact .inr ⟨d', v', F', z1, z2, z3, z4.trans (List.sublist_append_right _ _)⟩
theorem RepD.dget {t : Bool} {l : List (Im × Dt)} {x y : V} {F : List Addr} {k : Im} (h : RepD K H (.dic t l) x F) (hf : fits t k = true) (hy : RepI K H k y) :
    ∃ a o, x = .ref a ∧ DGet H a y o ∧ ((look l k = none ∧ o = none) ∨ ∃ d v G, look l k = some d ∧ o = some v ∧ RepD K H d v G ∧ G.Sublist F) := by
  cases h with
  | @dicK _ a kvs G r e b =>
    obtain ⟨j, hj⟩ := Option.isSome_iff_exists.mp (show (keyOf k).isSome = true from hf)
    obtain rfl := keyOf_some hj
    refine ⟨a, valV kvs j, rfl, .inl ⟨kvs, j, r, hy.key, rfl⟩, ?_⟩
    rcases look_rel (fun _ _ => keyI_inj) e.1 b with z | ⟨d', v', F', z1, z2, z3, z4⟩
    · exact .inl z
    · exact .inr ⟨d', v', F', z1, z2, z3, z4.trans (List.sublist_cons_self _ _)⟩
  | @dicT _ a kvs G r e b =>
    cases k with
    | tup ks =>
      obtain ⟨j, hj⟩ := Option.isSome_iff_exists.mp (show (keysOf ks).isSome = true from hf)
      obtain rfl := keysOf_some hj
      obtain ⟨b', rfl, hb⟩ := RepI.tkey (k := j) hy
      refine ⟨a, valV kvs j, rfl, .inr ⟨kvs, j, b', r, rfl, hb, rfl⟩, ?_⟩
      rcases look_rel (inj := tkI) (k := j) (fun _ _ => tkI_inj) e.1 b with z | ⟨d', v', F', z1, z2, z3, z4⟩
      · exact .inl z
      · exact .inr ⟨d', v', F', z1, z2, z3, z4.trans (List.sublist_cons_self _ _)⟩
    | _ => cases hf
end

/-! ## parts of a value -/
def Vl.sub : Vl → Dt → Vl
  | _, .im i => .o (.im i)
  | .o _, d => .o d
  | .s _, d => .s d
  | .b _, d => .b d
section
variable {K : PySem.W.Frag} {O O' : Ow} {H H' : Hp} {r : Vl} {v w : V} {F G : List Addr} {d : Dt}
theorem VlOk.sub (h : VlOk K O H O' H' r v F) (k : RepD K H' d w G) (s : G.Sublist F) : VlOk K O H O' H' (r.sub d) w G := by
  cases d with
  | im i =>
    cases k with
    | im k => cases r <;> exact .imm k
  | _ =>
    cases r with
    | o x => exact ⟨k, h.2.1.sublist s, fun a ha => h.2.2 a (s.subset ha)⟩
    | s x => exact ⟨k, fun a ha => h.2 a (s.subset ha)⟩
    | b x => exact k
theorem RepDs.at {l : List Dt} {vs : List V} {i : Nat} (h : RepDs K H l vs F) (e : l[i]? = some d) : ∃ v G, vs[i]? = some v ∧ RepD K H d v G ∧ G.Sublist F := by
  induction l generalizing vs F i with
  | nil => simp at e
  | cons x r ih =>
    cases h with
    | cons a b =>
      cases i with
      | zero => simp at e; subst e; exact ⟨_, _, rfl, a, List.sublist_append_left _ _⟩
      | succ i =>
        obtain ⟨v, G, h1, h2, h3⟩ := ih b (by simpa using e)
        exact ⟨v, G, by simpa using h1, h2, h3.trans (List.sublist_append_right _ _)⟩
theorem RepIs.at {l : List Im} {vs : List V} {i : Nat} {d : Im} (h : RepIs K H l vs) (e : l[i]? = some d) : ∃ v, vs[i]? = some v ∧ RepI K H d v := by
  induction l generalizing vs i with
  | nil => simp at e
  | cons x r ih =>
    cases h with
    | cons a b =>
      cases i with
      | zero => simp at e; subst e; exact ⟨_, rfl, a⟩
      | succ i =>
        obtain ⟨v, h1, h2⟩ := ih b (by simpa using e)
        exact ⟨v, by simpa using h1, h2⟩
theorem atI_rel {α β : Type} {l : List α} {vs : List β} (hl : l.length = vs.length) {P : α → β → Prop} (h : ∀ (i : Nat) (x : α), l[i]? = some x → ∃ v, vs[i]? = some v ∧ P x v) {i : Int} {x : α} (e : atI l i = some x) : ∃ v, atI vs i = some v ∧ P x v := by
  unfold atI at *
  obtain ⟨j, h1, h2⟩ := Option.bind_eq_some_iff.mp e
  obtain ⟨v, h3, h4⟩ := h j x h2
  exact ⟨v, by rw [← hl, h1]; exact h3, h4⟩
end

/-! ## a[i], k in d -/
def ixL : List Vl → R Vl
  | [a, .o (.im (.int i))] => match a.d with
    | .lst l => match atI l i with
      | some d => .ok (a.sub d)
      | none => .no
    | _ => .no
  | _ => .no
def ixT : List Vl → R Vl
  | [.o (.im (.tup l)), .o (.im (.int i))] => match atI l i with
      | some d => .ok (.o (.im d))
      | none => .no
  | _ => .no
def ixS : List Vl → R Vl
  | [.o (.im (.str z)), .o (.im (.int i))] => if z.length ≤ SZ then match atI z.cps.toList i with
      | some c => .ok (.o (.im (.str ⟨#[c]⟩)))
      | none => .no
      else .no
  | _ => .no
def ixD : List Vl → R Vl
  | [a, .o (.im k)] => match a.d with
    | .dic t l => if fits t k = true then match look l k with
      | some d => .ok (a.sub d)
      | none => .no
      else .no
    | _ => .no
  | _ => .no
def ixH : List Vl → R Vl := altH (altH ixT (altH ixL ixS)) ixD
def inD (neg : Bool) : List Vl → R Vl
  | [.o (.im k), a] => match a.d with
    | .dic t l => if fits t k = true then .ok (vB (if neg then !(look l k).isSome else (look l k).isSome)) else .no
    | _ => .no
  | _ => .no
def inH (neg : Bool) : List Vl → R Vl := altH (altH (inSeq neg) (inStr neg)) (inD neg)
section
variable {X : Cx} {K : PySem.W.Frag} {q q1 q2 : Bool} {f g : Fe}
theorem pu_ixL : PuN K (Lr2 (rIxL K)) ixL := by
  intro O H O' H' rs vs G r Q e lv gr w p x y hv
  unfold ixL at e
  split at e <;> first | cases e | skip
  rename_i a i
  split at e <;> first | cases e | skip
  rename_i l ha
  split at e <;> cases e
  rename_i d hd
  obtain ⟨v, v2, F, F2, rfl, k1, k2⟩ := two_ok w
  cases hv
  have hr := k1.rep
  rw [ha] at hr
  obtain ⟨pa, xs, G, rfl, rfl, h1, h2⟩ := hr.lst_inv
  obtain ⟨v', hv', G', hk, hs⟩ := atI_rel (P := fun d v => ∃ G', RepD K H' d v G' ∧ G'.Sublist G) h2.len (fun i x e => by
    obtain ⟨v, G', a, b, c⟩ := h2.at e
    exact ⟨v, a, G', b, c⟩) hd
  exact ⟨pa, xs, i, v', rfl, k2.1.int_inv, .of h1, hv', p v' H' _ (Ext.refl _) (k1.sub hk (hs.trans (List.sublist_cons_self _ _)))⟩
theorem pu_ixT : PuN K (Lr2 (rIxT K)) ixT := by
  intro O H O' H' rs vs G r Q e lv gr w p x y hv
  unfold ixT at e
  split at e <;> first | cases e | skip
  rename_i l i
  split at e <;> cases e
  rename_i d hd
  obtain ⟨a, b⟩ := two_imm w hv
  obtain ⟨pa, xs, rfl, h1, h2⟩ := a.tup_inv
  obtain ⟨v', hv', hk⟩ := atI_rel (P := fun d v => RepI K H' d v) h2.len (fun i x e => h2.at e) hd
  exact ⟨pa, xs, i, v', rfl, b.int_inv, .of h1, hv', p v' H' [] (Ext.refl _) (.imm hk)⟩
theorem pu_ixS : PuN K (Lr2 rIxS) ixS := by
  intro O H O' H' rs vs G r Q e lv gr w p x y hv
  unfold ixS at e
  split at e <;> first | cases e | skip
  rename_i l i
  split at e <;> first | cases e | skip
  rename_i hz
  split at e <;> cases e
  rename_i d hd
  obtain ⟨a, b⟩ := two_imm w hv
  exact ⟨l, i, d, a.str_inv, b.int_inv, hz, hd, p _ H' [] (Ext.refl _) (.imm .str)⟩
theorem pu_ixD : PuN K (Lr2 fun x y H Q => ∃ a v, x = .ref a ∧ DGet H a y (some v) ∧ Q v H) ixD := by
  intro O H O' H' rs vs G r Q e lv gr w p x y hv
  unfold ixD at e
  split at e <;> first | cases e | skip
  rename_i a k
  split at e <;> first | cases e | skip
  rename_i t l ha
  split at e <;> first | cases e | skip
  rename_i hf
  split at e <;> cases e
  rename_i d hd
  obtain ⟨v, v2, F, F2, rfl, k1, k2⟩ := two_ok w
  cases hv
  have hr := k1.rep
  rw [ha] at hr
  obtain ⟨pa, o, rfl, h1, h2⟩ := hr.dget hf k2.1.im_inv
  rcases h2 with ⟨z, _⟩ | ⟨d', v', G', z1, rfl, z3, z4⟩
  · rw [hd] at z; cases z
  · rw [hd] at z1; cases z1
    exact ⟨pa, v', rfl, h1, p v' H' _ (Ext.refl _) (k1.sub z3 z4)⟩
theorem pu_inD (neg : Bool) : PuN K (Lr2 fun y x H Q => ∃ a o, x = .ref a ∧ DGet H a y o ∧ Q (.bl (if neg then !o.isSome else o.isSome)) H) (inD neg) := by
  intro O H O' H' rs vs G r Q e lv gr w p x y hv
  unfold inD at e
  split at e <;> first | cases e | skip
  rename_i k a
  split at e <;> first | cases e | skip
  rename_i t l ha
  split at e <;> cases e
  rename_i hf
  obtain ⟨v, v2, F, F2, rfl, k1, k2⟩ := two_ok w
  cases hv
  have hr := k2.rep
  rw [ha] at hr
  obtain ⟨pa, o, rfl, h1, h2⟩ := hr.dget hf k1.1.im_inv
  have eo : o.isSome = (look l k).isSome := by
    rcases h2 with ⟨z, z'⟩ | ⟨d', v', G', z1, rfl, z3, z4⟩
    · rw [z, z']; rfl
    · rw [z1]; rfl
  refine ⟨pa, o, rfl, h1, ?_⟩
  rw [eo]
  exact p _ H' [] (Ext.refl _) (.imm .bl)
def notSlice : Expr → Bool
  | .Slice _ _ _ _ => false
  | _ => true
theorem plain_of {b : Expr} (h : notSlice b = true) : PlainIx b := fun o i => by
  cases b <;> first | rfl | cases h
section
variable {a b : Expr} {pos : Pos} (ha : PE X a (TEs X.K q1 f)) (hb : PE X b (TEs X.K q2 g))
include ha hb
theorem e_ix (hu : X.A.units + 65 < cLine) (hs : notSlice b = true) : PE X (.Subscript a b pos) (TEs X.K (q1 && q2) (b2M q2 f g ixH)) :=
  ((pe_ix (ix_tup.or (ix_list.or ix_str)) ha hb (plain_of hs)).alt (pe_dget (by omega) ha hb (plain_of hs))).imp fun σ H Q w => by
    rcases TEs.alt (h := altH ixT (altH ixL ixS)) (k := ixD) w with w | w
    · exact .inl (w.two (pu_ixT.alt (pu_ixL.alt pu_ixS)))
    · exact .inr (w.two pu_ixD)
theorem e_eq (hu : X.A.units + 65 < cLine) : PE X (.Compare a [.Eq] [b] pos) (TEs X.K (q1 && q2) (b2M q2 f g eqH)) :=
  e_cmp ha hb (((opB0 fun _ _ _ _ _ _ _ h => eq_int (by rw [Bool.beq_eq_decide_eq]; exact h)) : OpR X _ (rI0 fun i j => .bl (decide (i = j)))).or (op_eqD (by omega))) ((pu_int0 fun _ _ _ => .bl).alt (pu_eqD false)) (nomark _)
theorem e_ne (hu : X.A.units + 65 < cLine) : PE X (.Compare a [.NotEq] [b] pos) (TEs X.K (q1 && q2) (b2M q2 f g neH)) :=
  e_cmp ha hb (((opB0 fun _ _ _ _ _ _ _ h => ne_int (by rw [bne, Bool.beq_eq_decide_eq]; exact h)) : OpR X _ (rI0 fun i j => .bl (!decide (i = j)))).or (op_neD (by omega))) ((pu_int0 fun _ _ _ => .bl).alt (pu_eqD true)) (nomark _)
theorem e_in (hu : X.A.units + 65 < cLine) (hm : behindInMarks .In b = false) : PE X (.Compare a [.In] [b] pos) (TEs X.K (q1 && q2) (b2M q2 f g (inH false))) :=
  ((pe_cmpR ((op_inSeq hu).or op_in_str) ha hb hm).alt (pe_cmp (pc_din (by omega) ha hb) hm)).imp fun σ H Q w => by
    rcases TEs.alt (h := altH (inSeq false) (inStr false)) (k := inD false) w with w | w
    · exact .inl (w.two ((pu_inSeq false).alt (pu_inStr false)))
    · exact .inr (w.two (pu_inD false))
theorem e_notin (hu : X.A.units + 65 < cLine) (hm : behindInMarks .NotIn b = false) : PE X (.Compare a [.NotIn] [b] pos) (TEs X.K (q1 && q2) (b2M q2 f g (inH true))) :=
  ((pe_cmpR ((op_notInSeq hu).or op_notIn_str) ha hb hm).alt (pe_cmp (pc_dnotin (by omega) ha hb) hm)).imp fun σ H Q w => by
    rcases TEs.alt (h := altH (inSeq true) (inStr true)) (k := inD true) w with w | w
    · exact .inl (w.two ((pu_inSeq true).alt (pu_inStr true)))
    · exact .inr (w.two (pu_inD true))
theorem e_is : PE X (.Compare a [.Is] [b] pos) (TEs X.K (q1 && q2) (b2M q2 f g (isH false))) := e_cmp ha hb (op_isN.or op_isBl) (pu_isN false) (nomark _)
theorem e_isnot : PE X (.Compare a [.IsNot] [b] pos) (TEs X.K (q1 && q2) (b2M q2 f g (isH true))) := e_cmp ha hb (op_notN.or op_notBl) (pu_isN true) (nomark _)
end
theorem pu_neg : PuN K (fun vs H Q => ∀ x, vs = [x] → rU (fun i => .int (-i)) x H Q) negH := by
  intro O H O' H' rs vs G r Q e lv gr w p x hv
  unfold negH at e
  split at e <;> first | cases e | skip
  obtain ⟨v, F, rfl, k⟩ := one_ok w
  cases hv
  exact ⟨_, k.1.im_inv.int_inv, p _ H' [] (Ext.refl _) (.imm .int)⟩
theorem e_neg {a : Expr} {pos : Pos} (ha : PE X a (TEs X.K q f)) : PE X (.UnaryOp .USub a pos) (TEs X.K q (u1M f negH)) := (pe_un un_neg ha).imp fun _ _ _ w => w.one pu_neg
end

/-! ## displays -/
def tupH : List Vl → R Vl := fun rs => match imsOf rs with
  | some l => if l.length ≤ SZ then .ok (.o (.im (.tup l))) else .no
  | none => match ownsOf rs with
    | some l => if l.length ≤ SZ then .ok (.o (.tpl l)) else .no
    | none => .no
def lstH : List Vl → R Vl := fun rs => match ownsOf rs with
  | some l => if l.length ≤ SZ then .ok (.o (.lst l)) else .no
  | none => .no
section
variable {X : Cx} {K : PySem.W.Frag} {q : Bool} {g : Fa} {es : List Expr} {pos : Pos}
theorem pu_tup : PuN K (fun xs H1 Q => xs.length ≤ sizeLine ∧ ∀ p, H1 p = none → Q (.ref p) (upd H1 p (.tup xs))) tupH := by
  intro O H O' H' rs vs G r Q e lv gr w p
  unfold tupH at e
  split at e
  · rename_i l hl
    split at e <;> cases e
    rename_i hz
    have k := w.ims hl
    exact ⟨by rw [← k.len]; exact hz, fun q hq => p _ _ [] (Ext.upd hq) (newT_im k hq)⟩
  · split at e <;> first | cases e | skip
    rename_i l hl
    split at e <;> cases e
    rename_i hz
    exact ⟨by rw [← (w.owns hl).len]; exact hz, fun q hq => p _ _ _ (Ext.upd hq) (w.newTp hl hq)⟩
theorem pu_lst : PuN K (fun xs H1 Q => xs.length ≤ sizeLine ∧ ∀ p, H1 p = none → Q (.ref p) (upd H1 p (.lst xs))) lstH := by
  intro O H O' H' rs vs G r Q e lv gr w p
  unfold lstH at e
  split at e <;> first | cases e | skip
  rename_i l hl
  split at e <;> cases e
  rename_i hz
  exact ⟨by rw [← (w.owns hl).len]; exact hz, fun q hq => p _ _ _ (Ext.upd hq) (w.newL hl lv gr hq)⟩
theorem e_tup {x1} (h : PA X es (TAs X.K q g)) : PE X (.Tuple es x1 pos) (TEs X.K q (naM g tupH)) := (pe_tup h).imp fun _ _ _ w => TAs.fin pu_tup w
theorem e_lst (h : PA X es (TAs X.K q g)) : PE X (.List es pos) (TEs X.K q (naM g lstH)) := (pe_lst h).imp fun _ _ _ w => TAs.fin pu_lst w
/-- {} -/
def dic0M (t : Bool) : Fe := naM anM fun _ => .ok (.o (.dic t []))
theorem e_dic0 {t : Bool} : PE X (.Dict [] [] pos) (TEs X.K true (dic0M t)) := by
  have key : ∀ (u : HO) (hu : u = if t then .dT [] else .dK []) σ H Q, TEs X.K true (dic0M t) σ H Q → ∀ p, H p = none → Q (.ref p) (upd H p u) := by
    intro u hu σ H Q w
    have w : TAs X.K true anM σ H fun vs H1 => ∀ p, H1 p = none → Q (.ref p) (upd H1 p u) := TAs.fin (rel := fun _ H1 Q => ∀ p, H1 p = none → Q (.ref p) (upd H1 p u)) (by
      intro O H O' H' rs vs G r Q e lv gr w p q hq
      cases e
      refine p _ _ [q] (Ext.upd hq) ⟨?_, by simp, fun a ha => ?_⟩
      · subst hu
        cases t with
        | true => exact .dicT (kvs := []) (.inl upd_same) ⟨rfl, .nil⟩ .nil
        | false => exact .dicK (kvs := []) (.inl upd_same) ⟨rfl, .nil⟩ .nil
      · have : a = q := by simpa using ha
        subst this
        refine ⟨?_, by rw [upd_same]; subst hu; cases t <;> trivial, .inl ?_⟩
        · cases z : O' a with
          | no => rfl
          | _ => exact absurd hq (lv a (by rw [z]; simp))
        · cases z : H a with
          | none => rfl
          | some o => exact absurd hq (gr a (by rw [z]; simp))) w
    exact w.nil
  cases t with
  | true => exact pe_dnewT.imp fun σ H Q w => key _ rfl σ H Q w
  | false => exact pe_dnewK.imp fun σ H Q w => key _ rfl σ H Q w
end
end Wv

set_option Elab.async false
set_option linter.all false
set_option maxRecDepth 100000
namespace Wv
open PySem PySem.Spec PyProof.Rows L2

/-! ## statements -/
inductive Ou where
  | nx (ρ : Ev) | rt (r : Vl) (ρ : Ev) | bk (ρ : Ev) | ct (ρ : Ev)
abbrev Fs := Ev → R Ou
section
variable (K : PySem.W.Frag) (vp : List Nat)
/-- the slots of the parameters that stand for a caller's own are not stored to -/
def KeepS (σ σ' : St) : Prop := σ'.length = σ.length ∧ ∀ i ∈ vp, σ'[i]? = σ[i]?
def SPost (O : Ow) (H : Hp) (σ : St) (D : Ends) : Ou → Prop
  | .nx ρ' => ∀ σ' H' O', SR K O' H' σ' ρ' → Fr O H O' H' → KeepS vp σ σ' → D.nx σ' H'
  | .bk ρ' => ∀ σ' H' O', SR K O' H' σ' ρ' → Fr O H O' H' → KeepS vp σ σ' → D.bk σ' H'
  | .ct ρ' => ∀ σ' H' O', SR K O' H' σ' ρ' → Fr O H O' H' → KeepS vp σ σ' → D.ct σ' H'
  | .rt r ρ' => ∀ v σ' H' O' F, SR K O' H' σ' ρ' → Fr O H O' H' → KeepS vp σ σ' → VlOk K O H O' H' r v F → D.rt v H'
def TSs (f : Fs) : TS := fun D σ H => ∃ O ρ u, SR K O H σ ρ ∧ f ρ = .ok u ∧ SPost K vp O H σ D u
end
theorem KeepS.refl {vp : List Nat} {σ : St} : KeepS vp σ σ := ⟨rfl, fun _ _ => rfl⟩
theorem KeepS.trans {vp : List Nat} {a b c : St} (h : KeepS vp a b) (k : KeepS vp b c) : KeepS vp a c := ⟨k.1.trans h.1, fun i hi => (k.2 i hi).trans (h.2 i hi)⟩
section
variable {X : Cx} {K : PySem.W.Frag} {vp : List Nat} {O O' O2 : Ow} {H H' H2 : Hp} {σ σ' : St} {ρ ρ' : Ev} {D : Ends} {u : Ou}
/-- what follows behind more of the way -/
theorem SPost.from (h : SPost K vp O H σ D u) (f : Fr O H O' H') (k : KeepS vp σ σ') (l : ∀ a i, O' a = .sl i → H' a ≠ none) : SPost K vp O' H' σ' D u := by
  cases u with
  | nx ρ' => exact fun σ2 H2 O2 s f2 k2 => h σ2 H2 O2 s (f.trans f2 l) (k.trans k2)
  | bk ρ' => exact fun σ2 H2 O2 s f2 k2 => h σ2 H2 O2 s (f.trans f2 l) (k.trans k2)
  | ct ρ' => exact fun σ2 H2 O2 s f2 k2 => h σ2 H2 O2 s (f.trans f2 l) (k.trans k2)
  | rt r ρ' => exact fun v σ2 H2 O2 F s f2 k2 w => h v σ2 H2 O2 F s (f.trans f2 l) (k.trans k2) (w.from f)
def nxM : Fs := fun ρ => .ok (.nx ρ)
def bkM : Fs := fun ρ => .ok (.bk ρ)
def ctM : Fs := fun ρ => .ok (.ct ρ)
def seqM (f g : Fs) : Fs := fun ρ => (f ρ).bind fun u => match u with
  | .nx ρ' => g ρ'
  | u => .ok u
theorem s_nil : PSs X [] (TSs X.K vp nxM) := pss_nil.imp fun D σ H ⟨O, ρ, u, s, e, p⟩ => by
  cases e
  exact p σ H O s Fr.refl KeepS.refl
theorem s_cons {st : Stmt} {rest : List Stmt} {f g : Fs} (h : PS X st (TSs X.K vp f)) (k : PSs X rest (TSs X.K vp g)) : PSs X (st :: rest) (TSs X.K vp (seqM f g)) :=
  (pss_cons h k).imp fun D σ H ⟨O, ρ, u, s, e, p⟩ => by
    unfold seqM at e
    obtain ⟨w, e1, e⟩ := R.bind_eq e
    refine ⟨O, ρ, w, s, e1, ?_⟩
    cases w with
    | nx ρ' => exact fun σ' H' O' s' f' k' => ⟨O', ρ', u, s', e, p.from f' k' s'.sl_live⟩
    | bk ρ' => cases e; exact p
    | ct ρ' => cases e; exact p
    | rt r ρ' => cases e; exact p
theorem s_pass {pos} : PS X (.Pass pos) (TSs X.K vp nxM) := ps_pass.imp fun D σ H ⟨O, ρ, u, s, e, p⟩ => by
  cases e
  exact p σ H O s Fr.refl KeepS.refl
theorem s_break {pos} : PS X (.Break pos) (TSs X.K vp bkM) := ps_break.imp fun D σ H ⟨O, ρ, u, s, e, p⟩ => by
  cases e
  exact p σ H O s Fr.refl KeepS.refl
theorem s_continue {pos} : PS X (.Continue pos) (TSs X.K vp ctM) := ps_continue.imp fun D σ H ⟨O, ρ, u, s, e, p⟩ => by
  cases e
  exact p σ H O s Fr.refl KeepS.refl
/-- what is never come to -/
def noS : Fs := fun _ => .no
theorem s_never {st : Stmt} : PS X st (TSs X.K vp noS) := ps_never.imp fun D σ H ⟨O, ρ, u, s, e, p⟩ => by cases e

/-! ### an expression's statement, return -/
def expM (f : Fe) : Fs := fun ρ => (f ρ).bind fun p => .ok (.nx p.2)
def retM (f : Fe) : Fs := fun ρ => (f ρ).bind fun p => .ok (.rt p.1 p.2)
def retNM : Fs := fun ρ => .ok (.rt (.o (.im .non)) ρ)
variable {q : Bool} {f : Fe} {e : Expr} {pos : Pos}
theorem s_expr (he : PE X e (TEs X.K q f)) (hs : swapsWith e none pos.line X.env = pure false) : PS X (.Expr e pos) (TSs X.K vp (expM f)) :=
  (ps_expr he hs).imp fun D σ H ⟨O, ρ, u, s, e, p⟩ => by
    unfold expM at e
    obtain ⟨⟨r, ρ'⟩, e1, e⟩ := R.bind_eq e
    cases e
    exact ⟨O, ρ, r, ρ', s, e1, fun v H' O' F s' f' _ _ => p σ H' O' s' f' KeepS.refl⟩
theorem s_ret (he : PE X e (TEs X.K q f)) : PS X (.Return (some e) pos) (TSs X.K vp (retM f)) :=
  (ps_ret he).imp fun D σ H ⟨O, ρ, u, s, e, p⟩ => by
    unfold retM at e
    obtain ⟨⟨r, ρ'⟩, e1, e⟩ := R.bind_eq e
    cases e
    exact ⟨O, ρ, r, ρ', s, e1, fun v H' O' F s' f' _ w => p v σ H' O' F s' f' KeepS.refl w⟩
theorem s_retN : PS X (.Return none pos) (TSs X.K vp retNM) := ps_retN.imp fun D σ H ⟨O, ρ, u, s, e, p⟩ => by
  cases e
  exact p _ σ H O [] s Fr.refl KeepS.refl (.imm .non)

/-! ### a value stored to a name -/
/-- slot i gets the value r -/
def Vl.slot : Vl → Option Sl
  | .o d => some (.o d)
  | .s (.im i) => some (.o (.im i))
  | .s d => some (.s d)
  | .b (.im i) => some (.o (.im i))
  | .b _ => none
def stM (i : Nat) (r : Vl) (ρ : Ev) : R Ev := match r.slot with
  | some x => if i < ρ.length then .ok (ρ.set i x) else .no
  | none => .no
/-- the owner map when slot i gets what F has -/
def give (O : Ow) (i : Nat) (F : List Addr) : Ow := fun a => if a ∈ F then .sl i else if O a = .sl i then .no else O a
theorem give_ne {O : Ow} {i : Nat} {G : List Addr} {a : Addr} (h1 : a ∉ G) (h2 : O a ≠ .sl i) : give O i G a = O a := by unfold give; rw [if_neg h1, if_neg h2]
theorem SR.put {G : List Addr} {i : Nat} {v : V} {x : Sl} (s : SR K O' H' σ ρ) (f : Fr O H O' H') (hi : i < ρ.length) (hG : ∀ a ∈ G, O' a = .no ∧ Mut (H' a) ∧ H' a ≠ none ∧ (H a = none ∨ ∃ i, O a = .sl i))
    (hx : SlOk K (give O' i G) H' (some (some v)) i x) : SR K (give O' i G) H' (σ.set i (some v)) (ρ.set i x) ∧ Fr O H (give O' i G) H' := by
  have hiσ : i < σ.length := by rw [← s.len]; exact hi
  have ne : ∀ a, O' a ≠ .no → a ∉ G := fun a h1 h2 => h1 (hG a h2).1
  refine ⟨⟨fun j y e => ?_, fun a j e => ?_, fun a e => ?_, by rw [List.length_set, List.length_set]; exact s.len⟩, ⟨f.keep, fun a n e => ?_, fun a e => ?_, fun a e => ?_, fun a e => ?_, f.live⟩⟩
  · by_cases hj : j = i
    · subst hj
      rw [List.getElem?_set_self hi] at e; cases e
      rw [List.getElem?_set_self hiσ]; exact hx
    · rw [List.getElem?_set_ne (Ne.symm hj)] at e
      rw [List.getElem?_set_ne (Ne.symm hj)]
      have h := s.slot j y e
      cases y with
      | e => trivial
      | o d =>
        obtain ⟨v, F, h1, h2, h3, h4⟩ := h
        exact ⟨v, F, h1, h2, h3, fun a ha => by rw [give_ne (ne a (by rw [h4 a ha]; simp)) (by rw [h4 a ha]; intro z; exact hj (Tg.sl.inj z)), h4 a ha]⟩
      | s d =>
        obtain ⟨v, F, h1, h2, h4⟩ := h
        exact ⟨v, F, h1, h2, fun a ha => by rw [give_ne (ne a (by rw [h4 a ha]; simp)) (by rw [h4 a ha]; simp), h4 a ha]⟩
      | l d =>
        obtain ⟨v, F, h1, h2, h4⟩ := h
        exact ⟨v, F, h1, h2, fun a ha => by rw [give_ne (ne a (h4 a ha).ne_no) (h4 a ha).ne_sl]; exact h4 a ha⟩
  · by_cases ha : a ∈ G
    · exact (hG a ha).2.1
    · unfold give at e
      rw [if_neg ha] at e
      split at e
      · cases e
      · exact s.own a j e
  · by_cases ha : a ∈ G
    · exact (hG a ha).2.2.1
    · unfold give at e
      rw [if_neg ha] at e
      split at e
      · exact absurd rfl e
      · exact s.live a e
  · have q := f.no a n e
    have ha : a ∉ G := fun ha => by
      rcases (hG a ha).2.2.2 with z | ⟨j, z⟩
      · exact n z
      · rw [e] at z; cases z
    rw [give_ne ha (by rw [q]; simp), q]
  · have q := f.fz a e
    rw [give_ne (ne a (by rw [q]; simp)) (by rw [q]; simp), q]
  · have q := f.lk a e
    rw [give_ne (ne a (by rw [q]; simp)) (by rw [q]; simp), q]
  · unfold give at e
    split at e
    · cases e
    · split at e
      · cases e
      · exact f.lk' a e
theorem SR.store {r : Vl} {v : V} {F : List Addr} {i : Nat} (s : SR K O' H' σ ρ) (f : Fr O H O' H') (w : VlOk K O H O' H' r v F) (e : stM i r ρ = .ok ρ') :
    ∃ O2, SR K O2 H' (σ.set i (some v)) ρ' ∧ Fr O H O2 H' := by
  unfold stM at e
  split at e <;> first | cases e | skip
  rename_i x hx
  split at e <;> cases e
  rename_i hi
  cases r with
  | o d =>
    cases hx
    obtain ⟨w1, w2, w3⟩ := w
    exact ⟨_, s.put (G := F) f hi (fun a ha => ⟨(w3 a ha).1, (w3 a ha).2.1, w1.live a ha, (w3 a ha).2.2⟩) ⟨v, F, rfl, w1, w2, fun a ha => by unfold give; rw [if_pos ha]⟩⟩
  | s d =>
    cases d with
    | im j =>
      cases hx
      have w1 := w.1
      cases w1 with
      | im w1 => exact ⟨_, s.put (G := []) f hi (fun _ z => nomatch z) ⟨v, [], rfl, .im w1, .nil, fun _ z => nomatch z⟩⟩
    | _ =>
      cases hx
      exact ⟨_, s.put (G := []) f hi (fun _ z => nomatch z) ⟨v, F, rfl, w.1, fun a ha => by rw [give_ne (by simp) (by rw [w.2 a ha]; simp), w.2 a ha]⟩⟩
  | b d =>
    cases d with
    | im j =>
      cases hx
      have w : RepD K H' _ v F := w
      cases w with
      | im w1 => exact ⟨_, s.put (G := []) f hi (fun _ z => nomatch z) ⟨v, [], rfl, .im w1, .nil, fun _ z => nomatch z⟩⟩
    | _ => cases hx
theorem stM_len {r : Vl} {i : Nat} (e : stM i r ρ = .ok ρ') : i < ρ.length := by
  unfold stM at e
  split at e <;> first | cases e | skip
  split at e <;> first | assumption | cases e
theorem KeepS.set {vp : List Nat} {i : Nat} {v : V} (h : vp.contains i = false) : KeepS vp σ (σ.set i (some v)) := ⟨List.length_set, fun j hj => by
  rw [List.getElem?_set_ne]
  rintro rfl
  rw [List.contains_iff_mem.mpr hj] at h; cases h⟩
/-- x = e -/
def setM (i : Nat) (f : Fe) : Fs := fun ρ => (f ρ).bind fun p => (stM i p.1 p.2).bind fun ρ' => .ok (.nx ρ')
theorem s_set {i : Nat} {x : Str} {pos' : Pos} (hN : X.N.Nodup) (hi : X.N[i]? = some x) (hx : Loc X.env.scope x) (he : PE X e (TEs X.K q f)) (hs : swapsWith e (some (.Name x pos')) pos.line X.env = pure false)
    (hf : X.fn x = true ∨ X.env.scope.names.lookup x = some .local) (hv : vp.contains i = false) : PS X (.Assign [.Name x pos'] e pos) (TSs X.K vp (setM i f)) :=
  (ps_set hN hi hx he hs hf).imp fun D σ H ⟨O, ρ, u, s, e, p⟩ => by
    unfold setM at e
    obtain ⟨⟨r, ρ1⟩, e1, e⟩ := R.bind_eq e
    obtain ⟨ρ2, e2, e⟩ := R.bind_eq e
    cases e
    refine ⟨O, ρ, r, ρ1, s, e1, fun v H' O' F s' f' _ w => ?_⟩
    obtain ⟨O2, s2, f2⟩ := s'.store f' w e2
    exact p _ H' O2 s2 f2 (KeepS.set hv)
/-! ### if -/
end
end Wv

set_option Elab.async false
set_option linter.all false
set_option maxRecDepth 100000
namespace Wv
open PySem PySem.Spec PyProof.Rows L2

/-! ## tests -/
abbrev Ft := Ev → R (Bool × Ev)
def TTs (K : PySem.W.Frag) (q : Bool) (f : Ft) : TT := fun σ H Q => ∃ O ρ b ρ', SR K O H σ ρ ∧ f ρ = .ok (b, ρ') ∧
  ∀ H' O', SR K O' H' σ ρ' → Fr O H O' H' → (q = true → ρ' = ρ ∧ Qu O H O' H') → Q b H'
theorem _root_.L2.PT.alt {X : Cx} {e : Expr} {t t' : TT} (h : PT X e t) (h' : PT X e t') : PT X e (fun σ H Q => t σ H Q ∨ t' σ H Q) :=
  ⟨fun pins s σ H Q I q => q.elim (h.run pins s σ H Q I) (h'.run pins s σ H Q I)⟩
/-- a value that is True or False -/
def tbM (f : Fe) : Ft := fun ρ => (f ρ).bind fun p => match p.1 with
  | .o (.im (.bl b)) => .ok (b, p.2)
  | _ => .no
def truth : Dt → Option Bool
  | .im .non => some false
  | .im (.bl b) => some b
  | .im (.int i) => some (i != 0)
  | .im (.str x) => if x.length ≤ SZ then some ((x.length : Int) != 0) else none
  | .im (.tup l) => some (!l.isEmpty)
  | .lst l => some (!l.isEmpty)
  | _ => none
def trM (f : Fe) : Ft := fun ρ => (f ρ).bind fun p => match truth p.1.d with
  | some b => .ok (b, p.2)
  | none => .no
section
variable {X : Cx} {K : PySem.W.Frag} {vp : List Nat} {q q1 q2 q3 : Bool} {f g h : Fe} {F G T : Ft} {a b c : Expr} {pos : Pos} {σ : St} {H : Hp}
theorem TTs.toE {Q : Bool → Hp → Prop} (w : TTs K q (tbM f) σ H Q) : TEs K q f σ H fun x H' => ∃ k, x = .bl k ∧ Q k H' := by
  obtain ⟨O, ρ, b, ρ', s, e, p⟩ := w
  unfold tbM at e
  obtain ⟨⟨r, ρ1⟩, e1, e⟩ := R.bind_eq e
  simp only at e
  split at e <;> cases e
  exact ⟨O, ρ, _, _, s, e1, fun v H' O' F s' f' u' w => ⟨_, w.1.im_inv.bl_inv, p H' O' s' f' u'⟩⟩
theorem RepD.truth {d : Dt} {v : V} {F : List Addr} {k : Bool} (h : RepD K H d v F) (e : truth d = some k) : TruV K v H k := by
  cases h with
  | im h =>
    cases h with
    | non => cases e; rfl
    | bl => cases e; rfl
    | int => cases e; rfl
    | str =>
      simp only [Wv.truth] at e
      split at e <;> cases e
      exact ⟨by assumption, rfl⟩
    | tup h1 h2 =>
      cases e
      exact .inr (.inl ⟨_, .of h1, by cases h2 <;> rfl⟩)
  | lst h1 h2 =>
    cases e
    exact .inl ⟨_, .of h1, by cases h2 <;> rfl⟩
  | scr _ => cases e
  | tpl _ _ => cases e
  | dicK _ _ _ => cases e
  | dicT _ _ _ => cases e
theorem TTs.toTru {Q : Bool → Hp → Prop} (w : TTs K q (trM f) σ H Q) : TEs K q f σ H fun x H' => ∃ k, TruV K x H' k ∧ Q k H' := by
  obtain ⟨O, ρ, b, ρ', s, e, p⟩ := w
  unfold trM at e
  obtain ⟨⟨r, ρ1⟩, e1, e⟩ := R.bind_eq e
  simp only at e
  split at e <;> cases e
  rename_i b hb
  exact ⟨O, ρ, _, _, s, e1, fun v H' O' F s' f' u' w => ⟨_, w.rep.truth hb, p H' O' s' f' u'⟩⟩
/-- plain in a test: its value's truth is asked -/
def plainT : Expr → Bool
  | .UnaryOp .Not _ _ => false
  | .BoolOp _ _ _ => false
  | .IfExp _ _ _ _ => false
  | .Compare _ _ _ _ => false
  | _ => true
theorem plainT_ok {e : Expr} {env : Env} (h : plainT e = true) : ∀ whole, isTrue e env whole = (do let v ← whole; standAt e.pos; holding [v] (truthy v)) := fun whole => by
  cases e with
  | UnaryOp op x p => cases op <;> first | rfl | cases h
  | BoolOp _ _ _ => cases h
  | IfExp _ _ _ _ => cases h
  | Compare _ _ _ _ => cases h
  | _ => rfl
theorem t_tru (ha : PE X a (TEs X.K q f)) (he : plainT a = true) : PT X a (TTs X.K q (trM f)) := (pt_truth ha (plainT_ok he)).imp fun _ _ _ w => w.toTru

/-! ### comparisons as tests -/
section
variable (ha : PE X a (TEs X.K q1 f)) (hb : PE X b (TEs X.K q2 g))
include ha hb
theorem t_cmp {op : CmpOp} {rel : R2} {h : List Vl → R Vl} (ho : OpR X (compareOp op) rel) (pu : PuN X.K (Lr2 rel) h) (hm : behindInMarks op b = false) : PT X (.Compare a [op] [b] pos) (TTs X.K (q1 && q2) (tbM (b2M q2 f g h))) :=
  (pt_cmpR ho ha hb hm).imp fun _ _ _ w => w.toE.two pu
theorem t_lt : PT X (.Compare a [.Lt] [b] pos) (TTs X.K (q1 && q2) (tbM (b2M q2 f g ltH))) := t_cmp ha hb op_lt (pu_int0 fun _ _ _ => .bl) (nomark _)
theorem t_le : PT X (.Compare a [.LtE] [b] pos) (TTs X.K (q1 && q2) (tbM (b2M q2 f g leH))) := t_cmp ha hb op_le (pu_int0 fun _ _ _ => .bl) (nomark _)
theorem t_gt : PT X (.Compare a [.Gt] [b] pos) (TTs X.K (q1 && q2) (tbM (b2M q2 f g gtH))) := t_cmp ha hb op_gt (pu_int0 fun _ _ _ => .bl) (nomark _)
theorem t_ge : PT X (.Compare a [.GtE] [b] pos) (TTs X.K (q1 && q2) (tbM (b2M q2 f g geH))) := t_cmp ha hb op_ge (pu_int0 fun _ _ _ => .bl) (nomark _)
theorem t_is : PT X (.Compare a [.Is] [b] pos) (TTs X.K (q1 && q2) (tbM (b2M q2 f g (isH false)))) := t_cmp ha hb (op_isN.or op_isBl) (pu_isN false) (nomark _)
theorem t_isnot : PT X (.Compare a [.IsNot] [b] pos) (TTs X.K (q1 && q2) (tbM (b2M q2 f g (isH true)))) := t_cmp ha hb (op_notN.or op_notBl) (pu_isN true) (nomark _)
theorem t_eq (hu : X.A.units + 65 < cLine) : PT X (.Compare a [.Eq] [b] pos) (TTs X.K (q1 && q2) (tbM (b2M q2 f g eqH))) :=
  t_cmp ha hb (((opB0 fun _ _ _ _ _ _ _ h => eq_int (by rw [Bool.beq_eq_decide_eq]; exact h)) : OpR X _ (rI0 fun i j => .bl (decide (i = j)))).or (op_eqD (by omega))) ((pu_int0 fun _ _ _ => .bl).alt (pu_eqD false)) (nomark _)
theorem t_ne (hu : X.A.units + 65 < cLine) : PT X (.Compare a [.NotEq] [b] pos) (TTs X.K (q1 && q2) (tbM (b2M q2 f g neH))) :=
  t_cmp ha hb (((opB0 fun _ _ _ _ _ _ _ h => ne_int (by rw [bne, Bool.beq_eq_decide_eq]; exact h)) : OpR X _ (rI0 fun i j => .bl (!decide (i = j)))).or (op_neD (by omega))) ((pu_int0 fun _ _ _ => .bl).alt (pu_eqD true)) (nomark _)
theorem t_in (hu : X.A.units + 65 < cLine) (hm : behindInMarks .In b = false) : PT X (.Compare a [.In] [b] pos) (TTs X.K (q1 && q2) (tbM (b2M q2 f g (inH false)))) :=
  ((pt_cmpR ((op_inSeq hu).or op_in_str) ha hb hm).alt (pt_cmp (pc_din (by omega) ha hb) hm)).imp fun σ H Q w => by
    rcases TEs.alt (h := altH (inSeq false) (inStr false)) (k := inD false) w.toE with w | w
    · exact .inl (w.two ((pu_inSeq false).alt (pu_inStr false)))
    · exact .inr (w.two (pu_inD false))
theorem t_notin (hu : X.A.units + 65 < cLine) (hm : behindInMarks .NotIn b = false) : PT X (.Compare a [.NotIn] [b] pos) (TTs X.K (q1 && q2) (tbM (b2M q2 f g (inH true)))) :=
  ((pt_cmpR ((op_notInSeq hu).or op_notIn_str) ha hb hm).alt (pt_cmp (pc_dnotin (by omega) ha hb) hm)).imp fun σ H Q w => by
    rcases TEs.alt (h := altH (inSeq true) (inStr true)) (k := inD true) w.toE with w | w
    · exact .inl (w.two ((pu_inSeq true).alt (pu_inStr true)))
    · exact .inr (w.two (pu_inD true))
end
/-! ### a < b < c, ints -/
def relI : CmpOp → Option (Int → Int → Bool)
  | .Lt => some fun i j => decide (i < j)
  | .LtE => some fun i j => decide (i ≤ j)
  | .Gt => some fun i j => decide (j < i)
  | .GtE => some fun i j => decide (j ≤ i)
  | .Eq => some fun i j => decide (i = j)
  | _ => none
theorem relI_ok {op : CmpOp} {p : Int → Int → Bool} (h : relI op = some p) : OpR X (compareOp op) (rI0 fun i j => .bl (p i j)) := by
  cases op <;> cases h
  · exact opB0 fun _ _ _ _ _ _ _ h => eq_int (by rw [Bool.beq_eq_decide_eq]; exact h)
  · exact op_lt
  · exact op_le
  · exact op_gt
  · exact op_ge
def chM (p p' : Int → Int → Bool) (f g h : Fe) : Fe := fun ρ => (f ρ).bind fun x => (g x.2).bind fun y => match x.1, y.1 with
  | .o (.im (.int i)), .o (.im (.int j)) => if p i j = true then (h y.2).bind fun z => match z.1 with
      | .o (.im (.int k)) => .ok (.o (.im (.bl (p' j k))), z.2)
      | _ => .no
    else .ok (.o (.im (.bl false)), y.2)
  | _, _ => .no
theorem chain_rel {p p' : Int → Int → Bool} {Q : VK} (w : TEs K (q1 && (q2 && q3)) (chM p p' f g h) σ H Q) :
    tChain (rI0 fun i j => .bl (p i j)) (rI0 fun i j => .bl (p' i j)) (TEs K q1 f) (TEs K q2 g) (TEs K q3 h) σ H Q := by
  obtain ⟨O, ρ, r, ρ', s, e, pp⟩ := w
  unfold chM at e
  obtain ⟨⟨r1, ρ1⟩, e1, e⟩ := R.bind_eq e
  obtain ⟨⟨r2, ρ2⟩, e2, e⟩ := R.bind_eq e
  simp only at e
  split at e <;> first | cases e | skip
  rename_i i j _
  refine ⟨O, ρ, _, ρ1, s, e1, fun x H1 O1 F1 s1 f1 u1 k1 => ⟨O1, ρ1, _, ρ2, s1, e2, fun y H2 O2 F2 s2 f2 u2 k2 => ?_⟩⟩
  obtain rfl := k1.1.im_inv.int_inv
  obtain rfl := k2.1.im_inv.int_inv
  refine ⟨i, j, rfl, rfl, p i j, rfl, ?_⟩
  split at e
  · rename_i c
    obtain ⟨⟨r3, ρ3⟩, e3, e⟩ := R.bind_eq e
    simp only at e
    split at e <;> cases e
    rename_i k _ _
    rw [c, if_pos rfl]
    refine ⟨O2, ρ2, _, _, s2, e3, fun z H3 O3 F3 s3 f3 u3 k3 => ?_⟩
    obtain rfl := k3.1.im_inv.int_inv
    refine ⟨j, k, rfl, rfl, pp _ H3 O3 [] s3 ((f1.trans f2 s1.sl_live).trans f3 s2.sl_live) (fun z => ?_) (.imm .bl)⟩
    simp only [Bool.and_eq_true] at z
    exact ⟨(u3 z.2.2).1.trans ((u2 z.2.1).1.trans (u1 z.1).1), ((u1 z.1).2.trans (u2 z.2.1).2).trans (u3 z.2.2).2⟩
  · rename_i c
    cases e
    rw [if_neg (by simpa using c)]
    refine pp _ H2 O2 [] s2 (f1.trans f2 s1.sl_live) (fun z => ?_) ?_
    · simp only [Bool.and_eq_true] at z
      exact ⟨(u2 z.2.1).1.trans (u1 z.1).1, (u1 z.1).2.trans (u2 z.2.1).2⟩
    · exact .imm .bl
/-! ### and, or, not -/
def andT (F G : Ft) : Ft := fun ρ => (F ρ).bind fun p => if p.1 = true then G p.2 else .ok (false, p.2)
def orT (F G : Ft) : Ft := fun ρ => (F ρ).bind fun p => if p.1 = true then .ok (true, p.2) else G p.2
def notT (F : Ft) : Ft := fun ρ => (F ρ).bind fun p => .ok (!p.1, p.2)
theorem TTs.and {Q : Bool → Hp → Prop} (w : TTs K (q1 && q2) (andT F G) σ H Q) : tAnd (TTs K q1 F) (TTs K q2 G) σ H Q := by
  obtain ⟨O, ρ, b, ρ', s, e, p⟩ := w
  unfold andT at e
  obtain ⟨⟨r, ρ1⟩, e1, e⟩ := R.bind_eq e
  refine ⟨O, ρ, r, ρ1, s, e1, fun H' O' s' f' u' => ?_⟩
  cases r with
  | true =>
    rw [if_pos rfl]
    exact ⟨O', ρ1, b, ρ', s', e, fun H2 O2 s2 f2 u2 => p H2 O2 s2 (f'.trans f2 s'.sl_live) fun z => by
      rw [Bool.and_eq_true] at z
      exact ⟨(u2 z.2).1.trans (u' z.1).1, (u' z.1).2.trans (u2 z.2).2⟩⟩
  | false =>
    cases e
    rw [if_neg (by simp)]
    exact p H' O' s' f' fun z => by rw [Bool.and_eq_true] at z; exact u' z.1
theorem TTs.or {Q : Bool → Hp → Prop} (w : TTs K (q1 && q2) (orT F G) σ H Q) : tOr (TTs K q1 F) (TTs K q2 G) σ H Q := by
  obtain ⟨O, ρ, b, ρ', s, e, p⟩ := w
  unfold orT at e
  obtain ⟨⟨r, ρ1⟩, e1, e⟩ := R.bind_eq e
  refine ⟨O, ρ, r, ρ1, s, e1, fun H' O' s' f' u' => ?_⟩
  cases r with
  | false =>
    rw [if_neg (by simp)]
    exact ⟨O', ρ1, b, ρ', s', e, fun H2 O2 s2 f2 u2 => p H2 O2 s2 (f'.trans f2 s'.sl_live) fun z => by
      rw [Bool.and_eq_true] at z
      exact ⟨(u2 z.2).1.trans (u' z.1).1, (u' z.1).2.trans (u2 z.2).2⟩⟩
  | true =>
    cases e
    rw [if_pos rfl]
    exact p H' O' s' f' fun z => by rw [Bool.and_eq_true] at z; exact u' z.1
theorem t_not (ha : PT X a (TTs X.K q F)) : PT X (.UnaryOp .Not a pos) (TTs X.K q (notT F)) := (pt_not ha).imp fun σ H Q ⟨O, ρ, b, ρ', s, e, p⟩ => by
  unfold notT at e
  obtain ⟨⟨r, ρ1⟩, e1, e⟩ := R.bind_eq e
  cases e
  exact ⟨O, ρ, r, _, s, e1, p⟩
theorem tw_and1 (ha : PT X a (TTs X.K q F)) : PW X (.BoolOp .And [a] pos) (TTs X.K q F) := pw_and1 ha
theorem tw_or1 (ha : PT X a (TTs X.K q F)) : PW X (.BoolOp .Or [a] pos) (TTs X.K q F) := pw_or1 ha
theorem tw_and {rest : List Expr} (ha : PT X a (TTs X.K q1 F)) (hb : PW X (.BoolOp .And (b :: rest) pos) (TTs X.K q2 G)) : PW X (.BoolOp .And (a :: b :: rest) pos) (TTs X.K (q1 && q2) (andT F G)) := (pw_and ha hb).imp fun _ _ _ w => w.and
theorem tw_or {rest : List Expr} (ha : PT X a (TTs X.K q1 F)) (hb : PW X (.BoolOp .Or (b :: rest) pos) (TTs X.K q2 G)) : PW X (.BoolOp .Or (a :: b :: rest) pos) (TTs X.K (q1 && q2) (orT F G)) := (pw_or ha hb).imp fun _ _ _ w => w.or
/-! ### .. as values (True, False) -/
def andM (f g : Fe) : Fe := fun ρ => (f ρ).bind fun p => match p.1 with
  | .o (.im (.bl b)) => if b = true then g p.2 else .ok (.o (.im (.bl false)), p.2)
  | _ => .no
def orM (f g : Fe) : Fe := fun ρ => (f ρ).bind fun p => match p.1 with
  | .o (.im (.bl b)) => if b = true then .ok (.o (.im (.bl true)), p.2) else g p.2
  | _ => .no
def notM (f : Fe) : Fe := u1M f fun rs => match rs with
  | [.o (.im (.bl b))] => .ok (vB (!b))
  | _ => .no
theorem VlOk.from' {O O' O2 : Ow} {H' H2 : Hp} {r : Vl} {v : V} {F : List Addr} (w : VlOk K O' H' O2 H2 r v F) (f : Fr O H O' H') : VlOk K O H O2 H2 r v F := w.from f
theorem e_and {rest : List Expr} (ha : PE X a (TEs X.K q1 f)) (hb : PE X (.BoolOp .And (b :: rest) pos) (TEs X.K q2 g)) : PE X (.BoolOp .And (a :: b :: rest) pos) (TEs X.K (q1 && q2) (andM f g)) :=
  (pe_and ha hb).imp fun σ H Q ⟨O, ρ, r, ρ', s, e, p⟩ => by
    unfold andM at e
    obtain ⟨⟨r1, ρ1⟩, e1, e⟩ := R.bind_eq e
    simp only at e
    split at e <;> first | cases e | skip
    rename_i b
    refine ⟨O, ρ, _, ρ1, s, e1, fun v H' O' F s' f' u' w => ⟨b, w.1.im_inv.bl_inv, ?_⟩⟩
    cases b with
    | true =>
      rw [if_pos rfl]
      exact ⟨O', ρ1, r, ρ', s', e, fun v2 H2 O2 F2 s2 f2 u2 w2 => p v2 H2 O2 F2 s2 (f'.trans f2 s'.sl_live) (fun z => by
        rw [Bool.and_eq_true] at z
        exact ⟨(u2 z.2).1.trans (u' z.1).1, (u' z.1).2.trans (u2 z.2).2⟩) (w2.from f')⟩
    | false =>
      cases e
      rw [if_neg (by simp)]
      exact p _ H' O' [] s' f' (fun z => by rw [Bool.and_eq_true] at z; exact u' z.1) (.imm .bl)
theorem e_or {rest : List Expr} (ha : PE X a (TEs X.K q1 f)) (hb : PE X (.BoolOp .Or (b :: rest) pos) (TEs X.K q2 g)) : PE X (.BoolOp .Or (a :: b :: rest) pos) (TEs X.K (q1 && q2) (orM f g)) :=
  (pe_or ha hb).imp fun σ H Q ⟨O, ρ, r, ρ', s, e, p⟩ => by
    unfold orM at e
    obtain ⟨⟨r1, ρ1⟩, e1, e⟩ := R.bind_eq e
    simp only at e
    split at e <;> first | cases e | skip
    rename_i b
    refine ⟨O, ρ, _, ρ1, s, e1, fun v H' O' F s' f' u' w => ⟨b, w.1.im_inv.bl_inv, ?_⟩⟩
    cases b with
    | false =>
      rw [if_neg (by simp)]
      exact ⟨O', ρ1, r, ρ', s', e, fun v2 H2 O2 F2 s2 f2 u2 w2 => p v2 H2 O2 F2 s2 (f'.trans f2 s'.sl_live) (fun z => by
        rw [Bool.and_eq_true] at z
        exact ⟨(u2 z.2).1.trans (u' z.1).1, (u' z.1).2.trans (u2 z.2).2⟩) (w2.from f')⟩
    | true =>
      cases e
      rw [if_pos rfl]
      exact p _ H' O' [] s' f' (fun z => by rw [Bool.and_eq_true] at z; exact u' z.1) (.imm .bl)
theorem e_one {op : BoolOp} (ha : PE X a (TEs X.K q f)) : PE X (.BoolOp op [a] pos) (TEs X.K q f) := pe_one ha
theorem e_not (ha : PE X a (TEs X.K q f)) : PE X (.UnaryOp .Not a pos) (TEs X.K q (notM f)) := (pe_not ha).imp fun _ _ _ w => w.one (rel := fun x H Q => ∃ c, x = .bl c ∧ Q (.bl (!c)) H) (by
  intro O H O' H' rs vs G r Q e lv gr w p x hv
  simp only at e
  split at e <;> first | cases e | skip
  obtain ⟨v, F, rfl, k⟩ := one_ok w
  cases hv
  exact ⟨_, k.1.im_inv.bl_inv, p _ H' [] (Ext.refl _) (.imm .bl)⟩)
def ifM (T : Ft) (f g : Fe) : Fe := fun ρ => (T ρ).bind fun p => if p.1 = true then f p.2 else g p.2
theorem e_if (hc : PT X c (TTs X.K q1 T)) (ha : PE X a (TEs X.K q2 f)) (hb : PE X b (TEs X.K q3 g)) : PE X (.IfExp c a b pos) (TEs X.K (q1 && (q2 && q3)) (ifM T f g)) :=
  (pe_ifExp hc ha hb).imp fun σ H Q ⟨O, ρ, r, ρ', s, e, p⟩ => by
    unfold ifM at e
    obtain ⟨⟨b, ρ1⟩, e1, e⟩ := R.bind_eq e
    refine ⟨O, ρ, b, ρ1, s, e1, fun H' O' s' f' u' => ?_⟩
    cases b with
    | true =>
      rw [if_pos rfl]
      exact ⟨O', ρ1, r, ρ', s', e, fun v2 H2 O2 F2 s2 f2 u2 w2 => p v2 H2 O2 F2 s2 (f'.trans f2 s'.sl_live) (fun z => by
        simp only [Bool.and_eq_true] at z
        exact ⟨(u2 z.2.1).1.trans (u' z.1).1, (u' z.1).2.trans (u2 z.2.1).2⟩) (w2.from f')⟩
    | false =>
      rw [if_neg (by simp)]
      exact ⟨O', ρ1, r, ρ', s', e, fun v2 H2 O2 F2 s2 f2 u2 w2 => p v2 H2 O2 F2 s2 (f'.trans f2 s'.sl_live) (fun z => by
        simp only [Bool.and_eq_true] at z
        exact ⟨(u2 z.2.2).1.trans (u' z.1).1, (u' z.1).2.trans (u2 z.2.2).2⟩) (w2.from f')⟩
/-! ## if, while -/
def ifS (T : Ft) (f g : Fs) : Fs := fun ρ => (T ρ).bind fun p => if p.1 = true then f p.2 else g p.2
theorem s_if {A B : List Stmt} {f g : Fs} (hc : PT X c (TTs X.K q T)) (ha : PSs X A (TSs X.K vp f)) (hb : PSs X B (TSs X.K vp g)) : PS X (.If c A B pos) (TSs X.K vp (ifS T f g)) :=
  (ps_if hc ha hb).imp fun D σ H ⟨O, ρ, u, s, e, p⟩ => by
    unfold ifS at e
    obtain ⟨⟨b, ρ1⟩, e1, e⟩ := R.bind_eq e
    refine ⟨O, ρ, b, ρ1, s, e1, fun H' O' s' f' u' => ?_⟩
    cases b with
    | true => rw [if_pos rfl]; exact ⟨O', ρ1, u, s', e, p.from f' KeepS.refl s'.sl_live⟩
    | false => rw [if_neg (by simp)]; exact ⟨O', ρ1, u, s', e, p.from f' KeepS.refl s'.sl_live⟩
/-- n turns at most -/
def whM (T : Ft) (f : Fs) : Nat → Fs
  | 0, _ => .no
  | n + 1, ρ => (T ρ).bind fun p => if p.1 = true then (f p.2).bind fun u => match u with
      | .nx ρ' => whM T f n ρ'
      | .ct ρ' => whM T f n ρ'
      | .bk ρ' => .ok (.nx ρ')
      | .rt r ρ' => .ok (.rt r ρ')
    else .ok (.nx p.2)
theorem s_while {B : List Stmt} {f : Fs} {n : Nat} (hp : PassesOwn (model X.prog X.w) X.A X.env X.xe) (hc : PT X c (TTs X.K q T)) (hb : PSs X B (TSs X.K vp f)) : PS X (.While c B [] pos) (TSs X.K vp (whM T f n)) :=
  (ps_while hp hc hb).imp fun D σ H ⟨O, ρ, u, s, e, p⟩ => by
    refine ⟨fun m σ' H' => ∃ O' ρ', SR X.K O' H' σ' ρ' ∧ Fr O H O' H' ∧ KeepS vp σ σ' ∧ whM T f m ρ' = .ok u, ⟨n, O, ρ, s, Fr.refl, KeepS.refl, e⟩, ?_⟩
    rintro m σ' H' ⟨O', ρ', s', f', k', e'⟩
    cases m with
    | zero => cases e'
    | succ m =>
      unfold whM at e'
      obtain ⟨⟨b, ρ1⟩, e1, e2⟩ := R.bind_eq e'
      refine ⟨O', ρ', b, ρ1, s', e1, fun H2 O2 s2 f2 _ => ?_⟩
      have f02 := f'.trans f2 s'.sl_live
      cases b with
      | false =>
        rw [if_neg (by simp)] at e2
        cases e2
        refine (if_neg (by simp)).mpr ?_
        exact p σ' H2 O2 s2 f02 k'
      | true =>
        rw [if_pos rfl] at e2
        refine (if_pos rfl).mpr ?_
        obtain ⟨u1, e3, e4⟩ := R.bind_eq e2
        refine ⟨fun σ3 H3 => ∃ O3 ρ3, SR X.K O3 H3 σ3 ρ3 ∧ Fr O H O3 H3 ∧ KeepS vp σ σ3 ∧ whM T f m ρ3 = .ok u, fun σ3 H3 w => ⟨m, Nat.lt_succ_self m, w⟩, O2, ρ1, u1, s2, e3, ?_⟩
        cases u1 with
        | nx ρ2 => exact fun σ3 H3 O3 s3 f3 k3 => ⟨O3, ρ2, s3, f02.trans f3 s2.sl_live, k'.trans k3, e4⟩
        | ct ρ2 => exact fun σ3 H3 O3 s3 f3 k3 => ⟨O3, ρ2, s3, f02.trans f3 s2.sl_live, k'.trans k3, e4⟩
        | bk ρ2 =>
          cases e4
          exact fun σ3 H3 O3 s3 f3 k3 => p σ3 H3 O3 s3 (f02.trans f3 s2.sl_live) (k'.trans k3)
        | rt r ρ2 =>
          cases e4
          exact fun v σ3 H3 O3 F s3 f3 k3 w => p v σ3 H3 O3 F s3 (f02.trans f3 s2.sl_live) (k'.trans k3) (w.from f02)
end
end Wv

set_option Elab.async false
set_option linter.all false
set_option maxRecDepth 100000
namespace Wv
open PySem PySem.Spec PyProof.Rows L2

/-! ## calls of defs of the text -/
/-- a def's reckoning: the arguments; its answer, and what has become of the arguments that are its own -/
abbrev Fn := List Vl → R (Vl × List Dt)
def Vl.arg : Vl → Sl
  | .o d => .o d
  | .s d => .s d
  | .b _ => .e
section
variable (K : PySem.W.Frag)
/-- what has become of them -/
def OutOk (vs : List V) (O' : Ow) (H' : Hp) : List Nat → List Dt → Prop
  | [], [] => True
  | p :: ps, d :: ds => (∃ v F, vs[p]? = some v ∧ RepD K H' d v F ∧ F.Nodup ∧ ∀ a ∈ F, O' a = .sl p) ∧ OutOk vs O' H' ps ds
  | _, _ => False
def spF (vp : List Nat) (n : Nat) (φ : Fn) : Sp := fun vs H Q _ => vs.length = n ∧ ∃ O as r outs, SR K O H (vs.map some) (as.map Vl.arg) ∧ φ as = .ok (r, outs) ∧
  ∀ v H' O' F, Fr O H O' H' → (∀ a i, O' a = .sl i → Mut (H' a)) → OutOk K vs O' H' vp outs → VlOk K O H O' H' r v F → Q v H'
end
def outsOf (ρ : Ev) : List Nat → Option (List Dt)
  | [] => some []
  | p :: ps => match ρ[p]?, outsOf ρ ps with
    | some (.o d), some ds => some (d :: ds)
    | _, _ => none
/-- a def by its body: m names besides the parameters -/
def defM (vp : List Nat) (m : Nat) (fs : Fs) : Fn := fun as => (fs (as.map Vl.arg ++ List.replicate m .e)).bind fun u => match u with
  | .rt r ρ => if r.isB = true then .no else match outsOf ρ vp with
    | some ds => .ok (r, ds)
    | none => .no
  | .nx ρ => match outsOf ρ vp with
    | some ds => .ok (.o (.im .non), ds)
    | none => .no
  | _ => .no
section
variable {K : PySem.W.Frag}
theorem outs_ok {vs : List V} {O' : Ow} {H' : Hp} {σ' : St} {ρ : Ev} (s : SR K O' H' σ' ρ) : ∀ {vp : List Nat} {ds : List Dt}, (∀ p ∈ vp, ∃ v, vs[p]? = some v ∧ σ'[p]? = some (some v)) → outsOf ρ vp = some ds → OutOk K vs O' H' vp ds
  | [], _, _, e => by cases e; trivial
  | p :: ps, _, hk, e => by
    simp only [outsOf] at e
    split at e <;> cases e
    rename_i d ds h1 h2
    obtain ⟨v, F, w1, w2, w3, w4⟩ := s.slot p _ h1
    obtain ⟨v', q1, q2⟩ := hk p List.mem_cons_self
    rw [w1] at q2
    have q2 : v = v' := Option.some.inj (Option.some.inj q2)
    subst q2
    exact ⟨⟨v, F, q1, w2, w3, w4⟩, outs_ok s (fun p hp => hk p (List.mem_cons_of_mem _ hp)) h2⟩
/-- a def keeps its promise -/
theorem fn_body {CX : CXT} {P : Program} {w : World} {mg : Str → Option Value} {base : Heap} {k : Nat} {f : Addr} {name qual : Str} {params : Arguments} {body : List Stmt} {scope : Scope} {dV kV doc pm cdv ct oc : Value} {an od : Option Addr}
    {osl : Array (Option Value)} {N ps : List Str} {vp : List Nat} {fs : Fs} (lk : K.lookup f = some ⟨oc, od, .func (PySem.W.fnOf name qual params body scope dV kV doc pm an cdv ct), osl⟩) (hcd : PySem.W.codeIn K cdv qual = true) (S : FnScope N ps scope)
    (hvp : ∀ p ∈ vp, p < ps.length)
    (hbody : ∀ (A : Around) (outer : List Env) (s : Shared) (H : Hp) (E : XK), Room k (A.deeper (envOfC qual scope s.heap.objs.size f cdv)) → PSs (cxOf CX P w K mg base N qual scope f cdv A outer s H E) body (TSs K vp fs)) :
    FnOk P w K mg base CX (k + 1) f (PySem.W.fnOf name qual params body scope dV kV doc pm an cdv ct) ps (spF K vp ps.length (defM vp (N.length - ps.length) fs)) := by
  refine fn_of lk hcd S (fun vs H Q E h => h.1) fun A outer s H vs Q E hr ⟨hl, O, as, r, outs, sr, e, p⟩ => ⟨_, hbody A outer s H E hr, ?_⟩
  unfold defM at e
  obtain ⟨u, e1, e⟩ := R.bind_eq e
  have hal : as.length = vs.length := by have := sr.len; simpa using this
  have sr' : SR K O H (L2.start N vs) (as.map Vl.arg ++ List.replicate (N.length - ps.length) .e) := by
    refine ⟨fun i x hx => ?_, sr.own, sr.live, ?_⟩
    · by_cases hi : i < as.length
      · rw [List.getElem?_append_left (by simpa using hi)] at hx
        have h := sr.slot i x hx
        have e0 : (L2.start N vs)[i]? = (vs.map some)[i]? := by unfold L2.start; rw [List.getElem?_append_left (by simp; omega)]
        rw [e0]; exact h
      · rw [List.getElem?_append_right (by simpa using hi), List.getElem?_replicate] at hx
        split at hx <;> cases hx
        trivial
    · unfold L2.start
      simp only [List.length_append, List.length_map, List.length_replicate]
      omega
  refine ⟨O, _, u, sr', e1, ?_⟩
  have fin : ∀ {r2 : Vl} {ρ : Ev} {ds : List Dt} {v : V} {σ' : St} {H' : Hp} {O' : Ow} {F : List Addr}, outsOf ρ vp = some ds → r2 = r ∧ ds = outs → SR K O' H' σ' ρ → Fr O H O' H' → KeepS vp (L2.start N vs) σ' → VlOk K O H O' H' r2 v F → Q v H' := by
    intro r2 ρ ds v σ' H' O' F ho he s' f' k' w'
    obtain ⟨rfl, rfl⟩ := he
    refine p v H' O' F f' s'.own (outs_ok s' (fun q hq => ?_) ho) w'
    have hq' : q < vs.length := by rw [hl]; exact hvp q hq
    refine ⟨vs[q], List.getElem?_eq_getElem hq', ?_⟩
    rw [k'.2 q hq]
    unfold L2.start
    rw [List.getElem?_append_left (by simpa using hq'), List.getElem?_map, List.getElem?_eq_getElem hq']
    rfl
  cases u with
  | rt r2 ρ =>
    simp only at e
    split at e <;> first | cases e | skip
    split at e <;> cases e
    rename_i ds ho
    exact fun v σ' H' O' F s' f' k' w' => fin ho ⟨rfl, rfl⟩ s' f' k' w'
  | nx ρ =>
    simp only at e
    split at e <;> cases e
    rename_i ds ho
    exact fun σ' H' O' s' f' k' => fin (r2 := .o (.im .non)) (F := []) ho ⟨rfl, rfl⟩ s' f' k' (.imm .non)
  | bk ρ => cases e
  | ct ρ => cases e
end

/-! ### the arguments: values, and names as they stand -/
inductive Ac where
  | v (r : Vl) | n (y : Nat)
abbrev Fc := Ev → R (List Ac × Ev)
def cnM : Fc := fun ρ => .ok ([], ρ)
def cvM (qs : Bool) (f : Fe) (g : Fc) : Fc := fun ρ => (f ρ).bind fun p => if (qs || !p.1.isB) = true then (g p.2).bind fun q => .ok (.v p.1 :: q.1, q.2) else .no
def Sl.set : Option Sl → Bool
  | some (.o _) => true
  | some (.s _) => true
  | some (.l _) => true
  | _ => false
def cyM (y : Nat) (g : Fc) : Fc := fun ρ => if Sl.set ρ[y]? = true then (g ρ).bind fun q => .ok (.n y :: q.1, q.2) else .no
section
variable (K : PySem.W.Frag) (σ : St) (O : Ow) (H : Hp) (O' : Ow) (H' : Hp)
inductive ArOk : List Ac → List V → List Addr → Prop
  | nil : ArOk [] [] []
  | own {d v F rs vs G} : VlOk K O H O' H' (.o d) v F → ArOk rs vs G → (∀ a ∈ F, a ∉ G) → ArOk (.v (.o d) :: rs) (v :: vs) (F ++ G)
  | shr {d v F rs vs G} : VlOk K O H O' H' (.s d) v F → ArOk rs vs G → ArOk (.v (.s d) :: rs) (v :: vs) G
  | bor {d v F rs vs G} : VlOk K O H O' H' (.b d) v F → ArOk rs vs G → ArOk (.v (.b d) :: rs) (v :: vs) G
  | nam {y v rs vs G} : σ[y]? = some (some v) → ArOk rs vs G → ArOk (.n y :: rs) (v :: vs) G
def TCs (q : Bool) (f : Fc) : TA := fun σ H Q => ∃ O ρ rs ρ', SR K O H σ ρ ∧ f ρ = .ok (rs, ρ') ∧
  ∀ vs H' O' G, SR K O' H' σ ρ' → Fr O H O' H' → (q = true → ρ' = ρ ∧ Qu O H O' H') → ArOk K σ O H O' H' rs vs G → Q vs H'
end
section
variable {K : PySem.W.Frag} {O O' O1 O2 : Ow} {H H' H1 H2 : Hp} {σ : St} {ρ ρ' : Ev} {r : Vl} {v : V} {F G : List Addr} {rs : List Ac} {vs : List V}
theorem ArOk.from (h : ArOk K σ O1 H1 O2 H2 rs vs G) (f : Fr O H O1 H1) : ArOk K σ O H O2 H2 rs vs G := by
  induction h with
  | nil => exact .nil
  | own a _ d ih => exact .own (a.from f) ih d
  | shr a _ ih => exact .shr a ih
  | bor a _ ih => exact .bor a ih
  | nam a _ ih => exact .nam a ih
theorem ArOk.own_all (h : ArOk K σ O H O' H' rs vs G) : G.Nodup ∧ ∀ a ∈ G, O' a = .no ∧ Mut (H' a) ∧ (H a = none ∨ ∃ i, O a = .sl i) := by
  induction h with
  | nil => exact ⟨.nil, fun _ z => nomatch z⟩
  | own a _ d ih =>
    obtain ⟨a1, a2, a3⟩ := a
    refine ⟨List.nodup_append.mpr ⟨a2, ih.1, fun x hx y hy e => d x hx (e ▸ hy)⟩, fun x hx => ?_⟩
    rcases List.mem_append.mp hx with hx | hx
    · exact a3 x hx
    · exact ih.2 x hx
  | shr _ _ ih => exact ih
  | bor _ _ ih => exact ih
  | nam _ _ ih => exact ih
theorem ArOk.len (h : ArOk K σ O H O' H' rs vs G) : rs.length = vs.length := by
  induction h with
  | nil => rfl
  | own _ _ _ ih => simp [ih]
  | shr _ _ ih => simp [ih]
  | bor _ _ ih => simp [ih]
  | nam _ _ ih => simp [ih]
theorem ArOk.cons (h : VlOk K O H O1 H1 r v F) (s : SR K O1 H1 σ ρ) (f1 : Fr O H O1 H1) (f : Fr O1 H1 O2 H2) (q : r.isB = true → Qu O1 H1 O2 H2) (k : ArOk K σ O1 H1 O2 H2 rs vs G) :
    ∃ G', ArOk K σ O H O2 H2 (.v r :: rs) (v :: vs) G' := by
  have h2 := h.pend s f q
  cases r with
  | o d =>
    refine ⟨_, .own h2 (k.from f1) fun a ha hg => ?_⟩
    obtain ⟨_, _, c⟩ := k.own_all.2 a hg
    obtain ⟨a1, _, a3⟩ := h
    rcases c with c | ⟨i, c⟩
    · exact a1.live a ha c
    · rw [(a3 a ha).1] at c; cases c
  | s d => exact ⟨_, .shr h2 (k.from f1)⟩
  | b d => exact ⟨_, .bor h2 (k.from f1)⟩
end
section
variable {X : Cx} {K : PySem.W.Frag} {q q1 q2 : Bool} {f : Fe} {g : Fc} {e : Expr} {es : List Expr}
theorem c_nil : PA X [] (TCs X.K true cnM) := pa_nil.imp fun σ H Q h => by
  obtain ⟨O, ρ, rs, ρ', s, e, p⟩ := h
  cases e
  exact p [] H O [] s Fr.refl (fun _ => ⟨rfl, Qu.refl⟩) .nil
theorem c_val (ha : PE X e (TEs X.K q1 f)) (hr : PA X es (TCs X.K q2 g)) (hs : starEach (e :: es) X.env = (false, eval e X.env) :: starEach es X.env) : PA X (e :: es) (TCs X.K (q1 && q2) (cvM q2 f g)) :=
  (pa_cons ha hr hs).imp fun σ H Q h => by
    obtain ⟨O, ρ, rs, ρ', s, e, p⟩ := h
    unfold cvM at e
    obtain ⟨⟨r1, ρ1⟩, e1, e⟩ := R.bind_eq e
    simp only at e
    by_cases c : (q2 || !r1.isB) = true
    · rw [if_pos c] at e
      obtain ⟨⟨r2, ρ2⟩, e2, e⟩ := R.bind_eq e
      cases e
      refine ⟨O, ρ, r1, ρ1, s, e1, fun v H1 O1 F s1 f1 u1 k1 => ⟨O1, ρ1, r2, _, s1, e2, fun vs H2 O2 G s2 f2 u2 k2 => ?_⟩⟩
      obtain ⟨G', w⟩ := ArOk.cons k1 s1 f1 f2 (fun z => (u2 (by rw [z] at c; simpa using c)).2) k2
      refine p _ _ _ _ s2 (f1.trans f2 s1.sl_live) (fun z => ?_) w
      rw [Bool.and_eq_true] at z
      exact ⟨(u2 z.2).1.trans (u1 z.1).1, (u1 z.1).2.trans (u2 z.2).2⟩
    · rw [if_neg c] at e; cases e
theorem SR.at {O : Ow} {H : Hp} {σ : St} {ρ : Ev} {y : Nat} (s : SR K O H σ ρ) (h : Sl.set ρ[y]? = true) : ∃ v, σ[y]? = some (some v) := by
  cases e : ρ[y]? with
  | none => rw [e] at h; cases h
  | some x =>
    rw [e] at h
    have w := s.slot y x e
    cases x with
    | e => cases h
    | o d => obtain ⟨v, F, h1, _⟩ := w; exact ⟨v, h1⟩
    | s d => obtain ⟨v, F, h1, _⟩ := w; exact ⟨v, h1⟩
    | l d => obtain ⟨v, F, h1, _⟩ := w; exact ⟨v, h1⟩
theorem c_nam {i : Nat} {x : Str} {pos : Pos} (hN : X.N[i]? = some x) (hv : Vis X.env.scope x) (hd : (x == ("__debug__" : Str)) = false) (hcd : (x == ("__classdict__" : Str)) = false)
    (hr : PA X es (TCs X.K q g)) (hs : starEach (.Name x pos :: es) X.env = (false, eval (.Name x pos) X.env) :: starEach es X.env) : PA X (.Name x pos :: es) (TCs X.K q (cyM i g)) :=
  (pa_cons (pe_var hN hv hd hcd) hr hs).imp fun σ H Q ⟨O, ρ, rs, ρ', s, e, p⟩ => by
    unfold cyM at e
    split at e <;> first | cases e | skip
    rename_i hy
    obtain ⟨⟨r1, ρ1⟩, e1, e⟩ := R.bind_eq e
    cases e
    obtain ⟨v, hv⟩ := s.at hy
    exact ⟨v, hv, O, ρ, r1, _, s, e1, fun vs H' O' G s' f' u' w => p _ H' O' G s' f' u' (.nam hv w)⟩

/-! ### the arguments as the def gets them -/
/-- argument i (of the rest) -/
def passed (vp : List Nat) (ρ : Ev) : Nat → List Ac → Option (List Vl)
  | _, [] => some []
  | i, .n y :: rs => match ρ[y]?, passed vp ρ (i + 1) rs with
    | some (.o (.im j)), some as => if vp.contains i = true then none else some (.o (.im j) :: as)
    | some (.o d), some as => if vp.contains i = true then some (.o d :: as) else some (.s d :: as)
    | some (.s d), some as => if vp.contains i = true then none else some (.s d :: as)
    | some (.l d), some as => if vp.contains i = true then none else some (.s d :: as)
    | _, _ => none
  | i, .v r :: rs => match passed vp ρ (i + 1) rs with
    | some as => if vp.contains i = true then none else match r with
      | .o (.im j) => some (.o (.im j) :: as)
      | .o d => some (.s d :: as)
      | .s d => some (.s d :: as)
      | .b (.im j) => some (.o (.im j) :: as)
      | .b d => if vp.isEmpty = true then some (.s d :: as) else none
    | none => none
/-- the slots that are handed on as the def's own, by their places -/
def lent (vp : List Nat) : Nat → List Ac → List (Nat × Nat)
  | _, [] => []
  | i, .n y :: rs => if vp.contains i = true then (y, i) :: lent vp (i + 1) rs else lent vp (i + 1) rs
  | i, .v _ :: rs => lent vp (i + 1) rs
/-- the names that are only read -/
def readN (vp : List Nat) : Nat → List Ac → List Nat
  | _, [] => []
  | i, .n y :: rs => if vp.contains i = true then readN vp (i + 1) rs else y :: readN vp (i + 1) rs
  | i, .v _ :: rs => readN vp (i + 1) rs
/-- something of the caller's own is read by the def -/
def borN (vp : List Nat) (ρ : Ev) (i y : Nat) : Bool := if vp.contains i = true then false else match ρ[y]? with
    | some (.o (.im _)) => false
    | some (.s _) => false
    | _ => true
def borV : Vl → Bool
  | .b (.im _) => false
  | .b _ => true
  | _ => false
def borrows (vp : List Nat) (ρ : Ev) : Nat → List Ac → Bool
  | _, [] => false
  | i, .n y :: rs => borN vp ρ i y || borrows vp ρ (i + 1) rs
  | i, .v r :: rs => borV r || borrows vp ρ (i + 1) rs
def distinct : List Nat → Bool
  | [] => true
  | x :: r => !r.contains x && distinct r
/-- the slots behind the call -/
def after (ρ : Ev) : List (Nat × Nat) → List Dt → Ev
  | (y, _) :: ys, d :: ds => (after ρ ys ds).set y (.o d)
  | _, _ => ρ
def callM (n : Nat) (vp : List Nat) (φ : Fn) (g : Fc) : Fe := fun ρ => (g ρ).bind fun q =>
  let ls := lent vp 0 q.1
  if (distinct (ls.map (·.1)) && (readN vp 0 q.1).all (fun y => !(ls.map (·.1)).contains y) && decide (ls.map (·.2) = vp) && distinct vp && decide (q.1.length = n)) = true then
    match passed vp q.2 0 q.1 with
    | some as => (φ as).bind fun p => match p.1 with
      | .o (.im j) => .ok (.o (.im j), after q.2 ls p.2)
      | .o d => .ok (.o d, after q.2 ls p.2)
      | .s (.im j) => .ok (.o (.im j), after q.2 ls p.2)
      | .s d => if borrows vp q.2 0 q.1 = true then .no else .ok (.s d, after q.2 ls p.2)
      | .b _ => .no
    | none => .no
  else .no
theorem look_mem {α β : Type} [BEq α] [LawfulBEq α] : ∀ {l : List (α × β)} {k : α} {v : β}, l.lookup k = some v → (k, v) ∈ l
  | [], _, _, h => by cases h
  | (a, b) :: r, k, v, h => by
    rw [List.lookup_cons] at h
    by_cases e : k == a
    · rw [e] at h
      have h : some b = some v := h
      cases h
      rw [eq_of_beq e]
      exact List.mem_cons_self
    · rw [Bool.not_eq_true] at e
      rw [e] at h
      exact List.mem_cons_of_mem _ (look_mem h)
theorem distinct_cons {x : Nat} {r : List Nat} (h : distinct (x :: r) = true) : x ∉ r ∧ distinct r = true := by
  simp only [distinct, Bool.and_eq_true, Bool.not_eq_true'] at h
  exact ⟨fun z => by rw [List.contains_iff_mem.mpr z] at h; exact absurd h.1 (by simp), h.2⟩
theorem mem_look {β : Type} : ∀ {l : List (Nat × β)} {k : Nat} {v : β}, distinct (l.map (·.1)) = true → (k, v) ∈ l → l.lookup k = some v
  | (a, b) :: r, k, v, d, h => by
    rw [List.map_cons] at d
    obtain ⟨d1, d2⟩ := distinct_cons d
    rw [List.lookup_cons]
    rcases List.mem_cons.mp h with e | h'
    · injection e with e1 e2
      subst e1
      subst e2
      simp
    · have hn : (k == a) = false := by
        rw [beq_eq_false_iff_ne]
        intro z
        exact d1 (List.mem_map.mpr ⟨_, h', z⟩)
      rw [hn]
      exact mem_look d2 h'
theorem look_none {β : Type} {l : List (Nat × β)} {k : Nat} (h : k ∉ l.map (·.1)) : l.lookup k = none := by
  cases e : l.lookup k with
  | none => rfl
  | some v => exact absurd (List.mem_map.mpr ⟨_, look_mem e, rfl⟩) h

section
variable {K : PySem.W.Frag} {O O1 O' : Ow} {H H1 H' : Hp} {σ : St} {ρ : Ev}
/-- the names handed on stand at their places -/
theorem lent_at {vp : List Nat} : ∀ {rs : List Ac} {vs : List V} {G : List Addr} {i y p : Nat}, ArOk K σ O H O1 H1 rs vs G → (y, p) ∈ lent vp i rs → ∃ v, i ≤ p ∧ vs[p - i]? = some v ∧ σ[y]? = some (some v)
  | [], _, _, _, _, _, _, h => by cases h
  | .v r :: rs, _, _, i, y, p, w, h => by
    have key : ∀ {vs : List V} {G : List Addr} {v : V}, ArOk K σ O H O1 H1 rs vs G → ∃ v', i ≤ p ∧ (v :: vs)[p - i]? = some v' ∧ σ[y]? = some (some v') := by
      intro vs G v w
      obtain ⟨v', h1, h2, h3⟩ := lent_at w h
      refine ⟨v', by omega, ?_, h3⟩
      rw [show p - i = (p - (i + 1)) + 1 by omega, List.getElem?_cons_succ]
      exact h2
    cases w with
    | own _ w _ => exact key w
    | shr _ w => exact key w
    | bor _ w => exact key w
  | .n z :: rs, _, _, i, y, p, w, h => by
    cases w with
    | nam hz w =>
      unfold lent at h
      have later : ∀ {vs : List V} {G : List Addr} {v : V}, ArOk K σ O H O1 H1 rs vs G → (y, p) ∈ lent vp (i + 1) rs → ∃ v', i ≤ p ∧ (v :: vs)[p - i]? = some v' ∧ σ[y]? = some (some v') := by
        intro vs G v w h
        obtain ⟨v', h1, h2, h3⟩ := lent_at w h
        refine ⟨v', by omega, ?_, h3⟩
        rw [show p - i = (p - (i + 1)) + 1 by omega, List.getElem?_cons_succ]
        exact h2
      split at h
      · rcases List.mem_cons.mp h with e | h
        · cases e
          exact ⟨_, Nat.le_refl _, by rw [Nat.sub_self]; rfl, hz⟩
        · exact later w h
      · exact later w h
theorem passed_ok {vp : List Nat} (s1 : SR K O1 H1 σ ρ) : ∀ {rs : List Ac} {vs : List V} {G : List Addr} {i : Nat} {as : List Vl}, ArOk K σ O H O1 H1 rs vs G → passed vp ρ i rs = some as →
    as.length = vs.length ∧ ∃ S : List Addr, (∀ a ∈ S, H1 a ≠ none) ∧ (∀ a ∈ S, (∃ y ∈ readN vp i rs, O1 a = .sl y) ∨ (∀ y, O1 a ≠ .sl y) ∨ vp = []) ∧ (borrows vp ρ i rs = false → ∀ a ∈ S, O1 a = .fz ∨ (O1 a = .no ∧ (H a = none ∨ ∃ i, O a = .sl i))) ∧
      ∀ O0 : Ow, (∀ a ∈ S, O0 a = .fz) → (∀ y j, (y, j) ∈ lent vp i rs → ∀ a, O1 a = .sl y → O0 a = .sl j) → ∀ k x, (as.map Vl.arg)[k]? = some x → SlOk K O0 H1 ((vs.map some)[k]?) (i + k) x
  | [], _, _, i, as, w, e => by
    cases w
    cases e
    refine ⟨rfl, [], (fun a z => by cases z), (fun a z => by cases z), (fun _ a z => by cases z), fun O0 _ _ k x hx => ?_⟩
    rw [List.map_nil, List.getElem?_nil] at hx
    cases hx
  | c :: rs, _, _, i, as, w, e => by
    -- one argument and the rest
    have step : ∀ {v : V} {vs : List V} {as' : List Vl} {a : Vl} {S1 : List Addr}, (as'.length = vs.length ∧ ∃ S : List Addr, (∀ a ∈ S, H1 a ≠ none) ∧ (∀ a ∈ S, (∃ y ∈ readN vp (i + 1) rs, O1 a = .sl y) ∨ (∀ y, O1 a ≠ .sl y) ∨ vp = []) ∧ (borrows vp ρ (i + 1) rs = false → ∀ a ∈ S, O1 a = .fz ∨ (O1 a = .no ∧ (H a = none ∨ ∃ i, O a = .sl i))) ∧
        ∀ O0 : Ow, (∀ a ∈ S, O0 a = .fz) → (∀ y j, (y, j) ∈ lent vp (i + 1) rs → ∀ a, O1 a = .sl y → O0 a = .sl j) → ∀ k x, (as'.map Vl.arg)[k]? = some x → SlOk K O0 H1 ((vs.map some)[k]?) (i + 1 + k) x) →
        (∀ a ∈ S1, H1 a ≠ none) → (∀ a ∈ S1, (∃ y ∈ readN vp i (c :: rs), O1 a = .sl y) ∨ (∀ y, O1 a ≠ .sl y) ∨ vp = []) → (borrows vp ρ i (c :: rs) = false → borrows vp ρ (i + 1) rs = false ∧ ∀ a ∈ S1, O1 a = .fz ∨ (O1 a = .no ∧ (H a = none ∨ ∃ i, O a = .sl i))) →
        (∀ y ∈ readN vp (i + 1) rs, y ∈ readN vp i (c :: rs)) → (∀ y j, (y, j) ∈ lent vp (i + 1) rs → (y, j) ∈ lent vp i (c :: rs)) →
        (∀ O0 : Ow, (∀ a ∈ S1, O0 a = .fz) → (∀ y j, (y, j) ∈ lent vp i (c :: rs) → ∀ a, O1 a = .sl y → O0 a = .sl j) → SlOk K O0 H1 (some (some v)) i a.arg) →
        (a :: as').length = (v :: vs).length ∧ ∃ S : List Addr, (∀ a ∈ S, H1 a ≠ none) ∧ (∀ a ∈ S, (∃ y ∈ readN vp i (c :: rs), O1 a = .sl y) ∨ (∀ y, O1 a ≠ .sl y) ∨ vp = []) ∧ (borrows vp ρ i (c :: rs) = false → ∀ a ∈ S, O1 a = .fz ∨ (O1 a = .no ∧ (H a = none ∨ ∃ i, O a = .sl i))) ∧
        ∀ O0 : Ow, (∀ a ∈ S, O0 a = .fz) → (∀ y j, (y, j) ∈ lent vp i (c :: rs) → ∀ a, O1 a = .sl y → O0 a = .sl j) → ∀ k x, ((a :: as').map Vl.arg)[k]? = some x → SlOk K O0 H1 (((v :: vs).map some)[k]?) (i + k) x := by
      intro v vs as' a S1 ⟨hl, S, p1, p2, p3, p4⟩ q1 q2 q3 q4 q5 q6
      refine ⟨by simp [hl], S1 ++ S, fun a ha => ?_, fun a ha => ?_, fun hb a ha => ?_, fun O0 z1 z2 k x hx => ?_⟩
      · rcases List.mem_append.mp ha with ha | ha
        · exact q1 a ha
        · exact p1 a ha
      · rcases List.mem_append.mp ha with ha | ha
        · exact q2 a ha
        · rcases p2 a ha with ⟨y, hy, e⟩ | e | e
          · exact .inl ⟨y, q4 y hy, e⟩
          · exact .inr (.inl e)
          · exact .inr (.inr e)
      · obtain ⟨b1, b2⟩ := q3 hb
        rcases List.mem_append.mp ha with ha | ha
        · exact b2 a ha
        · exact p3 b1 a ha
      · cases k with
        | zero =>
          simp only [List.map_cons, List.getElem?_cons_zero, Option.some.injEq] at hx
          subst hx
          exact q6 O0 (fun a ha => z1 a (List.mem_append_left _ ha)) z2
        | succ k =>
          rw [List.map_cons, List.getElem?_cons_succ] at hx ⊢
          have := p4 O0 (fun a ha => z1 a (List.mem_append_right _ ha)) (fun y j h => z2 y j (q5 y j h)) k x hx
          rw [show i + 1 + k = i + (k + 1) by omega] at this
          exact this
    cases c with
    | n y =>
      cases w with
      | @nam _ v _ vs _ hy w =>
        unfold passed at e
        split at e <;> first | cases e | skip
        · rename_i j as' h1 h2
          split at e <;> cases e
          rename_i hc
          obtain ⟨v', F, g1, g2, g3, g4⟩ := s1.slot y _ h1
          rw [hy] at g1
          have g1 : v = v' := Option.some.inj (Option.some.inj g1)
          subst g1
          cases g2 with
          | im g2 =>
            exact step (S1 := []) (passed_ok s1 w h2) (fun _ z => nomatch z) (fun _ z => nomatch z) (fun hb => ⟨(Bool.or_eq_false_iff.mp hb).2, fun _ z => nomatch z⟩) (fun z hz => by unfold readN; rw [if_neg hc]; exact List.mem_cons_of_mem _ hz)
              (fun a b hz => by unfold lent; rw [if_neg hc]; exact hz) fun O0 _ _ => ⟨v, [], rfl, .im g2, .nil, fun _ z => nomatch z⟩
        · rename_i d as' hd h1 h2
          obtain ⟨v', F, g1, g2, g3, g4⟩ := s1.slot y _ h1
          rw [hy] at g1
          have g1 : v = v' := Option.some.inj (Option.some.inj g1)
          subst g1
          split at e <;> cases e
          · rename_i hc
            exact step (S1 := []) (passed_ok s1 w h2) (fun _ z => nomatch z) (fun _ z => nomatch z) (fun hb => ⟨(Bool.or_eq_false_iff.mp hb).2, fun _ z => nomatch z⟩) (fun z hz => by unfold readN; rw [if_pos hc]; exact hz)
              (fun a b hz => by unfold lent; rw [if_pos hc]; exact List.mem_cons_of_mem _ hz) fun O0 _ z2 => ⟨v, F, rfl, g2, g3, fun a ha => z2 y i (by unfold lent; rw [if_pos hc]; exact List.mem_cons_self) a (g4 a ha)⟩
          · rename_i hc
            exact step (S1 := F) (passed_ok s1 w h2) (fun a ha => g2.live a ha) (fun a ha => .inl ⟨y, by unfold readN; rw [if_neg hc]; exact List.mem_cons_self, g4 a ha⟩) (fun hb => by
              have hb := (Bool.or_eq_false_iff.mp hb).1
              unfold borN at hb
              rw [if_neg hc, h1] at hb
              cases d with
              | im j => exact absurd rfl (hd j)
              | _ => cases hb) (fun z hz => by unfold readN; rw [if_neg hc]; exact List.mem_cons_of_mem _ hz)
              (fun a b hz => by unfold lent; rw [if_neg hc]; exact hz) fun O0 z1 _ => ⟨v, F, rfl, g2, z1⟩
        · rename_i d as' h1 h2
          split at e <;> cases e
          rename_i hc
          obtain ⟨v', F, g1, g2, g4⟩ := s1.slot y _ h1
          rw [hy] at g1
          have g1 : v = v' := Option.some.inj (Option.some.inj g1)
          subst g1
          exact step (S1 := F) (passed_ok s1 w h2) (fun a ha => g2.live a ha) (fun a ha => .inr (.inl fun z => by rw [g4 a ha]; simp)) (fun hb => ⟨(Bool.or_eq_false_iff.mp hb).2, fun a ha => .inl (g4 a ha)⟩) (fun z hz => by unfold readN; rw [if_neg hc]; exact List.mem_cons_of_mem _ hz)
            (fun a b hz => by unfold lent; rw [if_neg hc]; exact hz) fun O0 z1 _ => ⟨v, F, rfl, g2, z1⟩
        · rename_i d as' h1 h2
          split at e <;> cases e
          rename_i hc
          obtain ⟨v', F, g1, g2, g4⟩ := s1.slot y _ h1
          rw [hy] at g1
          have g1 : v = v' := Option.some.inj (Option.some.inj g1)
          subst g1
          exact step (S1 := F) (passed_ok s1 w h2) (fun a ha => g2.live a ha) (fun a ha => .inr (.inl fun z => (g4 a ha).ne_sl)) (fun hb => by
            have hb := (Bool.or_eq_false_iff.mp hb).1
            unfold borN at hb
            rw [if_neg hc, h1] at hb
            cases hb) (fun z hz => by unfold readN; rw [if_neg hc]; exact List.mem_cons_of_mem _ hz)
            (fun a b hz => by unfold lent; rw [if_neg hc]; exact hz) fun O0 z1 _ => ⟨v, F, rfl, g2, z1⟩
    | v r =>
      unfold passed at e
      split at e <;> first | cases e | skip
      rename_i as' h2
      split at e <;> first | cases e | skip
      rename_i hc
      have e1 : ∀ y ∈ readN vp (i + 1) rs, y ∈ readN vp i (.v r :: rs) := fun y hy => by unfold readN; exact hy
      have e2 : ∀ y j, (y, j) ∈ lent vp (i + 1) rs → (y, j) ∈ lent vp i (.v r :: rs) := fun y j hy => by unfold lent; exact hy
      cases w with
      | @own d v F _ vs _ a w _ =>
        cases d with
        | im j =>
          cases e
          exact step (S1 := []) (passed_ok s1 w h2) (fun _ z => nomatch z) (fun _ z => nomatch z) (fun hb => ⟨(Bool.or_eq_false_iff.mp hb).2, fun _ z => nomatch z⟩) e1 e2 fun O0 _ _ => by
            cases a.1 with | im g => exact ⟨v, [], rfl, .im g, .nil, fun _ z => nomatch z⟩
        | _ =>
          cases e
          exact step (S1 := F) (passed_ok s1 w h2) (fun x hx => a.1.live x hx) (fun x hx => .inr (.inl fun y => by rw [(a.2.2 x hx).1]; simp)) (fun hb => ⟨(Bool.or_eq_false_iff.mp hb).2, fun x hx => .inr ⟨(a.2.2 x hx).1, (a.2.2 x hx).2.2⟩⟩) e1 e2 fun O0 z1 _ => ⟨v, F, rfl, a.1, z1⟩
      | @shr d v F _ vs _ a w =>
        cases e
        exact step (S1 := F) (passed_ok s1 w h2) (fun x hx => a.1.live x hx) (fun x hx => .inr (.inl fun y => by rw [a.2 x hx]; simp)) (fun hb => ⟨(Bool.or_eq_false_iff.mp hb).2, fun x hx => .inl (a.2 x hx)⟩) e1 e2 fun O0 z1 _ => ⟨v, F, rfl, a.1, z1⟩
      | @bor d v F _ vs _ a w =>
        have a : RepD K H1 d v F := a
        cases d with
        | im j =>
          cases e
          exact step (S1 := []) (passed_ok s1 w h2) (fun _ z => nomatch z) (fun _ z => nomatch z) (fun hb => ⟨(Bool.or_eq_false_iff.mp hb).2, fun _ z => nomatch z⟩) e1 e2 fun O0 _ _ => by
            cases a with | im g => exact ⟨v, [], rfl, .im g, .nil, fun _ z => nomatch z⟩
        | _ =>
          simp only at e
          split at e <;> cases e
          rename_i hv
          exact step (S1 := F) (passed_ok s1 w h2) (fun x hx => a.live x hx) (fun x hx => .inr (.inr (List.isEmpty_iff.mp hv))) (fun hb => by cases (Bool.or_eq_false_iff.mp hb).1) e1 e2 fun O0 z1 _ => ⟨v, F, rfl, a, z1⟩
/-- the slots behind a call -/
theorem after_slot {vs : List V} : ∀ {ls : List (Nat × Nat)} {ds : List Dt}, OutOk K vs O' H' (ls.map (·.2)) ds → ∀ k x, (after ρ ls ds)[k]? = some x →
    (k ∉ ls.map (·.1) ∧ ρ[k]? = some x) ∨ ∃ p d, (k, p) ∈ ls ∧ x = .o d ∧ ∃ v F, vs[p]? = some v ∧ RepD K H' d v F ∧ F.Nodup ∧ ∀ a ∈ F, O' a = .sl p
  | [], [], _, k, x, h => .inl ⟨by simp, h⟩
  | [], _ :: _, o, _, _, _ => o.elim
  | _ :: _, [], o, _, _, _ => o.elim
  | (y, p) :: ls, d :: ds, o, k, x, h => by
    unfold after at h
    by_cases e : k = y
    · subst e
      by_cases hl : k < (after ρ ls ds).length
      · rw [List.getElem?_set_self hl] at h
        cases h
        exact .inr ⟨p, d, List.mem_cons_self, rfl, o.1⟩
      · rw [List.getElem?_eq_none (by simpa using hl)] at h; cases h
    · rw [List.getElem?_set_ne (Ne.symm e)] at h
      rcases after_slot o.2 k x h with ⟨h1, h2⟩ | ⟨p', d', h1, h2⟩
      · exact .inl ⟨by rw [List.map_cons, List.mem_cons, not_or]; exact ⟨e, h1⟩, h2⟩
      · exact .inr ⟨p', d', List.mem_cons_of_mem _ h1, h2⟩
theorem after_len : ∀ {ls : List (Nat × Nat)} {ds : List Dt}, (after ρ ls ds).length = ρ.length
  | [], [] => rfl
  | [], _ :: _ => rfl
  | _ :: _, [] => rfl
  | (y, p) :: ls, d :: ds => by unfold after; rw [List.length_set, after_len]
end
end
end Wv

set_option Elab.async false
set_option linter.all false
set_option maxRecDepth 100000
namespace Wv
open PySem PySem.Spec PyProof.Rows L2
section
variable {K : PySem.W.Frag}
theorem swap_look {ls : List (Nat × Nat)} {y p : Nat} (d : distinct (ls.map (·.2)) = true) (h : (y, p) ∈ ls) : (ls.map fun z => (z.2, z.1)).lookup p = some y :=
  mem_look (by rw [List.map_map]; exact d) (List.mem_map.mpr ⟨_, h, rfl⟩)
theorem swap_mem {ls : List (Nat × Nat)} {y p : Nat} (h : (ls.map fun z => (z.2, z.1)).lookup p = some y) : (y, p) ∈ ls := by
  obtain ⟨z, hz, e⟩ := List.mem_map.mp (look_mem h)
  cases e
  exact hz
/-- a call's reading -/
theorem TCs.call {vp : List Nat} {n : Nat} {φ : Fn} {g : Fc} {q : Bool} {σ : St} {H : Hp} {Q : VK} {E : XK} (w : TEs K (q && vp.isEmpty) (callM n vp φ g) σ H Q) : TCs K q g σ H fun vs H1 => spF K vp n φ vs H1 Q E := by
  obtain ⟨O, ρ, r, ρ', s, e, p⟩ := w
  unfold callM at e
  obtain ⟨⟨rs, ρ1⟩, e1, e⟩ := R.bind_eq e
  simp only at e
  split at e <;> first | cases e | skip
  rename_i hc
  simp only [Bool.and_eq_true, decide_eq_true_eq] at hc
  obtain ⟨⟨⟨⟨hd, hr⟩, hv⟩, hdv⟩, hn⟩ := hc
  split at e <;> first | cases e | skip
  rename_i as hp
  obtain ⟨⟨r0, outs⟩, e2, e⟩ := R.bind_eq e
  -- what is answered
  have hres : ∃ rS : Bool, (rS = true → borrows vp ρ1 0 rs = false) ∧ ρ' = after ρ1 (lent vp 0 rs) outs ∧
      ∀ O1 H1 O2 H' v F, VlOk K O1 H1 O2 H' r0 v F → (rS = true → (∀ a ∈ F, O2 a = .fz) ∧ ∃ d, r = .s d ∧ RepD K H' d v F) ∧ (rS = false → ∃ d, r = .o d ∧ VlOk K O1 H1 O2 H' (.o d) v F) := by
    simp only at e
    cases r0 with
    | o d =>
      refine ⟨false, (fun z => nomatch z), ?_, fun O1 H1 O2 H' v F w => ⟨(fun z => nomatch z), fun _ => ⟨d, ?_, w⟩⟩⟩
      all_goals (cases d <;> cases e <;> rfl)
    | s d =>
      cases d with
      | im j =>
        cases e
        exact ⟨false, (fun z => nomatch z), rfl, fun O1 H1 O2 H' v F w => ⟨(fun z => nomatch z), fun _ => ⟨_, rfl, by cases w.1 with | im g => exact .imm g⟩⟩⟩
      | _ =>
        simp only at e
        by_cases hb : borrows vp ρ1 0 rs = true
        · rw [if_pos hb] at e; cases e
        · rw [if_neg hb] at e
          cases e
          exact ⟨true, (fun _ => Bool.eq_false_iff.mpr hb), rfl, fun O1 H1 O2 H' v F w => ⟨fun _ => ⟨w.2, _, rfl, w.1⟩, fun z => nomatch z⟩⟩
    | b d => cases e
  obtain ⟨rS, hrS, rfl, hres⟩ := hres
  generalize hls : lent vp 0 rs = ls at *
  refine ⟨O, ρ, rs, ρ1, s, e1, fun vs H1 O1 G s1 f1 u1 w => ?_⟩
  obtain ⟨hal, S, S1, S2, S3, S4⟩ := passed_ok s1 w hp
  have hrn : ∀ y ∈ readN vp 0 rs, ls.lookup y = none := fun y hy => look_none fun z => by
    have := List.all_eq_true.mp hr y hy
    rw [List.contains_iff_mem.mpr z] at this
    exact absurd this (by simp)
  -- the owners for the def
  let O0 : Ow := fun a => match O1 a with
    | .sl y => match ls.lookup y with
      | some j => .sl j
      | none => if a ∈ S then .fz else .no
    | _ => if a ∈ S then .fz else .no
  have o0sl : ∀ {a y j}, O1 a = .sl y → ls.lookup y = some j → O0 a = .sl j := fun {a y j} h1 h2 => by simp only [O0, h1, h2]
  have o0not : ∀ {a}, (∀ y j, O1 a = .sl y → ls.lookup y ≠ some j) → O0 a = if a ∈ S then .fz else .no := fun {a} h => by
    simp only [O0]
    cases z : O1 a with
    | sl y =>
      simp only
      cases z2 : ls.lookup y with
      | none => rfl
      | some j => exact absurd z2 (h y j z)
    | _ => rfl
  have o0inv : ∀ {a j}, O0 a = .sl j → ∃ y, O1 a = .sl y ∧ ls.lookup y = some j := fun {a j} h => by
    by_cases z : ∀ y j, O1 a = .sl y → ls.lookup y ≠ some j
    · rw [o0not z] at h; split at h <;> cases h
    · simp only [Classical.not_forall, Classical.not_not] at z
      obtain ⟨y, j', h1, h2⟩ := z
      rw [o0sl h1 h2] at h; cases h
      exact ⟨y, h1, h2⟩
  have o0S : ∀ a ∈ S, O0 a = .fz := fun a ha => by
    rw [o0not fun y j h1 h2 => ?_, if_pos ha]
    rcases S2 a ha with ⟨y', hy', e'⟩ | e' | e'
    · rw [e'] at h1; cases h1
      rw [hrn y hy'] at h2; cases h2
    · exact e' y h1
    · rw [← hls, e'] at h2
      have : ∀ (i : Nat) (rs : List Ac), lent [] i rs = [] := by
        intro i rs
        induction rs generalizing i with
        | nil => rfl
        | cons c r ih => cases c <;> (unfold lent; first | exact ih _ | (rw [if_neg (by simp)]; exact ih _))
      rw [this] at h2; cases h2
  have sr0 : SR K O0 H1 (vs.map some) (as.map Vl.arg) := by
    refine ⟨fun k x hx => ?_, fun a j h => ?_, fun a h => ?_, by simp [hal]⟩
    · have := S4 O0 o0S (fun y j h a ha => o0sl ha (mem_look hd (hls ▸ h))) k x hx
      rw [Nat.zero_add] at this
      exact this
    · obtain ⟨y, h1, _⟩ := o0inv h
      exact s1.own a y h1
    · cases z : O0 a with
      | no => exact absurd z h
      | sl j => obtain ⟨y, h1, _⟩ := o0inv z; exact s1.sl_live a y h1
      | fz =>
        by_cases ha : a ∈ S
        · exact S1 a ha
        · by_cases z2 : ∀ y j, O1 a = .sl y → ls.lookup y ≠ some j
          · rw [o0not z2, if_neg ha] at z; cases z
          · simp only [Classical.not_forall, Classical.not_not] at z2
            obtain ⟨y, j', h1, h2⟩ := z2
            rw [o0sl h1 h2] at z; cases z
      | lk =>
        by_cases z2 : ∀ y j, O1 a = .sl y → ls.lookup y ≠ some j
        · rw [o0not z2] at z; split at z <;> cases z
        · simp only [Classical.not_forall, Classical.not_not] at z2
          obtain ⟨y, j', h1, h2⟩ := z2
          rw [o0sl h1 h2] at z; cases z
  refine ⟨by rw [← w.len]; exact hn, O0, as, r0, outs, sr0, e2, fun v H' O' F fr own' outok w' => ?_⟩
  -- the owners behind the call
  let sw := ls.map fun z => (z.2, z.1)
  let O2 : Ow := fun a => match (match O' a with | .sl j => sw.lookup j | _ => none) with
    | some y => .sl y
    | none => if rS = true ∧ a ∈ F then .fz else match O1 a with
      | .sl y => if (ls.lookup y).isSome = true then .no else .sl y
      | t => t
  have o2sl : ∀ {a y j}, O' a = .sl j → (y, j) ∈ ls → O2 a = .sl y := fun {a y j} h1 h2 => by
    have := swap_look (ls := ls) (by rw [hv]; exact hdv) h2
    simp only [O2, h1, sw, this]
  have o2not : ∀ {a}, (∀ y j, O' a = .sl j → (y, j) ∉ ls) → O2 a = if rS = true ∧ a ∈ F then .fz else match O1 a with
      | .sl y => if (ls.lookup y).isSome = true then .no else .sl y
      | t => t := fun {a} h => by
    have : (match O' a with | .sl j => sw.lookup j | _ => none) = none := by
      cases z : O' a with
      | sl j =>
        simp only
        cases z2 : sw.lookup j with
        | none => rfl
        | some y => exact absurd (swap_mem z2) (h y j z)
      | _ => rfl
    simp only [O2, this]
  -- what was not handed on stands
  have stay : ∀ {a}, H1 a ≠ none → (∀ y j, O1 a = .sl y → ls.lookup y ≠ some j) → H' a = H1 a ∧ (∀ j, O' a ≠ .sl j) ∧ (O' a = .fz → a ∈ S) := fun {a} h1 h2 => by
    have h3 := o0not h2
    obtain ⟨o, ho⟩ := Option.ne_none_iff_exists'.mp h1
    have hk := fr.keep a o ho fun j z => by rw [h3] at z; split at z <;> cases z
    refine ⟨by rw [hk, ho], fun j z => ?_, fun z => ?_⟩
    · split at h3
      · rw [fr.fz a h3] at z; cases z
      · rw [fr.no a h1 h3] at z; cases z
    · split at h3
      · assumption
      · rw [fr.no a h1 h3] at z; cases z
  have res_F : rS = true → ∀ a ∈ F, O' a = .fz := fun z => ((hres O0 H1 O' H' v F w').1 z).1
  -- .. and has its owner
  have stayO : ∀ {a}, H1 a ≠ none → (∀ y j, O1 a = .sl y → ls.lookup y ≠ some j) → (O1 a = .no → ¬ (H a = none ∨ ∃ i, O a = .sl i)) → O2 a = O1 a := fun {a} h1 h2 h4 => by
    obtain ⟨_, h5, h6⟩ := stay h1 h2
    rw [o2not fun y j z _ => h5 j z]
    have key : (match O1 a with | .sl y => if (ls.lookup y).isSome = true then Tg.no else .sl y | t => t) = O1 a := by
      cases z : O1 a with
      | sl y =>
        simp only
        cases z2 : ls.lookup y with
        | none => rfl
        | some j => exact absurd z2 (h2 y j z)
      | _ => rfl
    split
    · rename_i c
      have hs := h6 (res_F c.1 a c.2)
      rcases S3 (hrS c.1) a hs with z | ⟨z, z2⟩
      · rw [z]
      · exact absurd z2 (h4 z)
    · exact key
  have kt := sr0.ktup fr
  have f12 : Fr O H O2 H' := by
    refine ⟨fun a o ho hn => ?_, fun a hn ho => ?_, fun a ho => ?_, fun a ho => ?_, fun a ho => ?_, fun a hn => fr.live a (f1.live a hn)⟩
    · have hh := f1.keep a o ho hn
      have nsl : ∀ y, O1 a ≠ .sl y := fun y z => by
        cases q : O a with
        | no => rw [f1.no a (by rw [ho]; simp) q] at z; cases z
        | sl j => exact hn j q
        | fz => rw [f1.fz a q] at z; cases z
        | lk => rw [f1.lk a q] at z; cases z
      rw [(stay (by rw [hh]; simp) fun y j z _ => nsl y z).1, hh]
    · have h1 := f1.no a hn ho
      rw [stayO (f1.live a hn) (fun y j z _ => by rw [h1] at z; cases z) (fun _ z => by
        rcases z with z | ⟨i, z⟩
        · exact hn z
        · rw [ho] at z; cases z), h1]
    · have h1 := f1.fz a ho
      rw [stayO (s1.live a (by rw [h1]; simp)) (fun y j z _ => by rw [h1] at z; cases z) (fun z => by rw [h1] at z; cases z), h1]
    · have h1 := f1.lk a ho
      rw [stayO (s1.live a (by rw [h1]; simp)) (fun y j z _ => by rw [h1] at z; cases z) (fun z => by rw [h1] at z; cases z), h1]
    · by_cases z : ∀ y j, O' a = .sl j → (y, j) ∉ ls
      · rw [o2not z] at ho
        split at ho
        · cases ho
        · refine f1.lk' a ?_
          cases z : O1 a with
          | sl y => rw [z] at ho; simp only at ho; split at ho <;> cases ho
          | no => rw [z] at ho; cases ho
          | fz => rw [z] at ho; cases ho
          | lk => rfl
      · simp only [Classical.not_forall, Classical.not_not] at z
        obtain ⟨y, j', h1, h2⟩ := z
        rw [o2sl h1 h2] at ho; cases ho
  have sr2 : SR K O2 H' σ (after ρ1 ls outs) := by
    refine ⟨fun k x hx => ?_, fun a i h => ?_, fun a h => ?_, by rw [after_len]; exact s1.len⟩
    · rcases after_slot (by rw [hv]; exact outok) k x hx with ⟨h1, h2⟩ | ⟨j, d, h1, rfl, v', F', h2, h3, h4, h5⟩
      · have hk : ls.lookup k = none := look_none h1
        have h := s1.slot k x h2
        cases x with
        | e => trivial
        | o d =>
          obtain ⟨v', F', g1, g2, g3, g4⟩ := h
          have nn : ∀ a ∈ F', ∀ y j, O1 a = .sl y → ls.lookup y ≠ some j := fun a ha y j z => by rw [g4 a ha] at z; cases z; rw [hk]; simp
          exact ⟨v', F', g1, g2.keep kt fun a ha => (stay (g2.live a ha) (nn a ha)).1, g3, fun a ha => by rw [stayO (g2.live a ha) (nn a ha) (fun z => by rw [g4 a ha] at z; cases z), g4 a ha]⟩
        | s d =>
          obtain ⟨v', F', g1, g2, g4⟩ := h
          have nn : ∀ a ∈ F', ∀ y j, O1 a = .sl y → ls.lookup y ≠ some j := fun a ha y j z => by rw [g4 a ha] at z; cases z
          exact ⟨v', F', g1, g2.keep kt fun a ha => (stay (g2.live a ha) (nn a ha)).1, fun a ha => by rw [stayO (g2.live a ha) (nn a ha) (fun z => by rw [g4 a ha] at z; cases z), g4 a ha]⟩
        | l d =>
          obtain ⟨v', F', g1, g2, g4⟩ := h
          have nn : ∀ a ∈ F', ∀ y j, O1 a = .sl y → ls.lookup y ≠ some j := fun a ha y j z => absurd z (g4 a ha).ne_sl
          exact ⟨v', F', g1, g2.keep kt fun a ha => (stay (g2.live a ha) (nn a ha)).1, fun a ha => by rw [stayO (g2.live a ha) (nn a ha) (fun z => absurd z (g4 a ha).ne_no)]; exact g4 a ha⟩
      · obtain ⟨v2, _, q1, q2⟩ := lent_at w (vp := vp) (i := 0) (by rw [hls]; exact h1)
        rw [Nat.sub_zero, h2] at q1; cases q1
        exact ⟨v', F', q2, h3, h4, fun a ha => o2sl (h5 a ha) h1⟩
    · by_cases z : ∀ y j, O' a = .sl j → (y, j) ∉ ls
      · rw [o2not z] at h
        split at h
        · cases h
        · cases z : O1 a with
          | sl y =>
            rw [z] at h
            simp only at h
            split at h <;> cases h
            rename_i hh
            rw [(stay (s1.sl_live a i z) fun y j z2 z3 => by rw [z] at z2; cases z2; rw [z3] at hh; simp at hh).1]
            exact s1.own a i z
          | no => rw [z] at h; cases h
          | fz => rw [z] at h; cases h
          | lk => rw [z] at h; cases h
      · simp only [Classical.not_forall, Classical.not_not] at z
        obtain ⟨y, j', h1, h2⟩ := z
        exact own' a j' h1
    · by_cases z : ∀ y j, O' a = .sl j → (y, j) ∉ ls
      · rw [o2not z] at h
        split at h
        · rename_i c
          exact w'.rep.live a c.2
        · refine fr.live a (s1.live a fun z2 => ?_)
          rw [z2] at h
          exact h rfl
      · simp only [Classical.not_forall, Classical.not_not] at z
        obtain ⟨y, j', h1, h2⟩ := z
        intro z2
        have := own' a j' h1
        rw [z2] at this
        exact this
  have wv : VlOk K O H O2 H' r v F := by
    cases rS with
    | true =>
      obtain ⟨h1, d, rfl, h2⟩ := (hres O0 H1 O' H' v F w').1 rfl
      exact ⟨h2, fun a ha => by rw [o2not (fun y j z _ => by rw [h1 a ha] at z; cases z), if_pos ⟨rfl, ha⟩]⟩
    | false =>
      obtain ⟨d, rfl, h1, h2, h3⟩ := (hres O0 H1 O' H' v F w').2 rfl
      refine ⟨h1, h2, fun a ha => ?_⟩
      obtain ⟨c1, c2, c3⟩ := h3 a ha
      have e0 : O2 a = match O1 a with | .sl y => if (ls.lookup y).isSome = true then Tg.no else .sl y | t => t := by
        rw [o2not (fun y j z _ => by rw [c1] at z; cases z), if_neg (by simp)]
      rcases c3 with c3 | ⟨j, c3⟩
      · have h4 : O1 a = .no := by
          cases z : O1 a with
          | no => rfl
          | _ => exact absurd c3 (s1.live a (by rw [z]; simp))
        refine ⟨by rw [e0, h4], c2, .inl ?_⟩
        cases z : H a with
        | none => rfl
        | some o => exact absurd c3 (f1.live a (by rw [z]; simp))
      · obtain ⟨y, h4, h5⟩ := o0inv c3
        refine ⟨by rw [e0, h4]; simp only [h5, Option.isSome_some, if_true], c2, ?_⟩
        by_cases n : H a = none
        · exact .inl n
        · refine .inr ?_
          cases q : O a with
          | no => rw [f1.no a n q] at h4; cases h4
          | sl j => exact ⟨j, rfl⟩
          | fz => rw [f1.fz a q] at h4; cases h4
          | lk => rw [f1.lk a q] at h4; cases h4
  refine p v H' O2 F sr2 f12 (fun z => ?_) wv
  rw [Bool.and_eq_true] at z
  obtain ⟨rfl, uq⟩ := u1 z.1
  have hlsn : ls = [] := by
    have := congrArg List.length hv
    rw [List.isEmpty_iff.mp z.2, List.length_map] at this
    exact List.eq_nil_of_length_eq_zero this
  refine ⟨by rw [hlsn]; cases outs <;> rfl, fun a o ho => ?_, fun a hn => ?_⟩
  · have hh := uq.ext a o ho
    rw [(stay (by rw [hh]; simp) fun y j _ z => by rw [hlsn] at z; cases z).1, hh]
  · rw [← uq.own a hn]
    refine stayO (f1.live a hn) (fun y j _ z => by rw [hlsn] at z; cases z) fun z2 z3 => ?_
    rcases z3 with z3 | ⟨i, z3⟩
    · exact hn z3
    · rw [uq.own a hn, z3] at z2; cases z2
end
/-! ### f(..) -/
section
variable {X : Cx} {CX : CXT} {k : Nat} {f : Addr} {fd : FuncData} {ps : List Str} {x : Str} {p pos : Pos} {e : Expr} {es : List Expr} {vp : List Nat} {φ : Fn} {g : Fc} {q : Bool}
theorem e_call (F : FnOk X.prog X.w X.K X.mg X.base CX k f fd ps (spF X.K vp ps.length φ)) (hr : Room k X.A) (hg : Gl X x) (hm : X.mg x = some (.ref f)) (hk : PySem.W.keepIn X.K (.ref f) = true) (hb : Binds X.K fd ps []) {E : XK} (hx : Passes CX X E)
    (ha : PA X (e :: es) (TCs X.K q g)) (hdb : (x == ("__debug__" : Str)) = false) (he : starEach (e :: es) X.env = (false, eval e X.env) :: starEach es X.env) (hpl : (backTo pos (starEach es X.env)).any (·.1) = false) :
    PE X (.Call (.Name x p) (e :: es) [] pos) (TEs X.K (q && vp.isEmpty) (callM ps.length vp φ g)) :=
  (pe_call F hr hg hm hk hb .nil hx ha hdb he hpl).imp fun σ H Q w => by
    obtain ⟨O, ρ, rs, ρ', s, e, p⟩ := TCs.call (E := E) w
    exact ⟨O, ρ, rs, ρ', s, e, fun vs H' O' G a b c d => by
      show spF X.K vp ps.length φ (vs ++ []) H' Q E
      rw [List.append_nil]
      exact p vs H' O' G a b c d⟩
end
end Wv

set_option Elab.async false
set_option linter.all false
set_option maxRecDepth 100000
namespace Wv
open PySem PySem.Spec PyProof.Rows L2

/-! ## what is walked -/
/-- an item: a datum, or a new pair of two -/
inductive Itm where
  | one (d : Dt) | two (d e : Dt)
/-- what stood at B stands, and what can't be changed -/
structure Kp (B : List Addr) (H H' : Hp) : Prop where
  tup : KTup H H'
  at_ : ∀ a ∈ B, H' a = H a
section
variable (K : PySem.W.Frag)
/-- x is the item -/
def ItV (B : List Addr) (H : Hp) : Itm → V → Prop
  | .one d, x => ∃ F, RepD K H d x F ∧ ∀ a ∈ F, a ∈ B
  | .two d e, x => ∃ p v w F G, x = .ref p ∧ H p = some (.tup [v, w]) ∧ RepD K H d v F ∧ RepD K H e w G ∧ (∀ a ∈ F, a ∈ B) ∧ ∀ a ∈ G, a ∈ B
structure Src (J : It) (H0 : Hp) (B : List Addr) (items : List Itm) : Prop where
  go : ∀ i H, i < items.length → Kp B H0 H → J.go i H
  stop : ∀ H, Kp B H0 H → J.stop items.length H
  yld : ∀ i H x H' itm, Kp B H0 H → J.yld i H x H' → items[i]? = some itm → Ext H H' ∧ ItV K B H' itm x
  len : items.length ≤ sizeLine
def SzOk (H : Hp) : Prop := ∀ a xs, (H a = some (.lst xs) ∨ H a = some (.tup xs)) → xs.length ≤ sizeLine
abbrev Fi := Ev → R (List Itm × List Nat × Ev)
/-- a walk's start: items, the slots that are lent meanwhile -/
def TIs (q : Bool) (f : Fi) : TI := fun σ H R => ∃ O ρ items xs ρ', SR K O H σ ρ ∧ f ρ = .ok (items, xs, ρ') ∧
  ∀ J H' O' B, SR K O' H' σ ρ' → Fr O H O' H' → (q = true → ρ' = ρ ∧ Qu O H O' H') → (∀ a ∈ B, O' a = .fz ∨ ∃ x ∈ xs, O' a = .sl x) → Src K J H' B items → R J H'
end
theorem _root_.L2.PI.imp {X : Cx} {tg e : Expr} {t t' : TI} (h : PI X tg e t) (k : ∀ σ H R, t' σ H R → t σ H R) : PI X tg e t' :=
  ⟨fun pins s σ H Q I q => h.run pins s σ H Q I (k σ H Q q)⟩
theorem sz_of {X : Cx} {pins : List (Addr × Obj)} {σ : St} {H : Hp} {s : Shared} (I : Inv X pins σ H s) : SzOk H := fun a xs h => by
  rcases h with h | h
  · exact (I.hok a _ h).1
  · exact (I.hok a _ h).1
/-- .. with the sizes of lists and tuples told -/
theorem _root_.L2.PE.sz {X : Cx} {e : Expr} {t : TE} (h : PE X e t) : PE X e fun σ H Q => t σ H fun v H' => SzOk H' → Q v H' :=
  ⟨fun pins s σ H Q I q => thn (h.run pins s σ H _ I q) fun u s' ⟨v, H', I', r, w⟩ => ⟨v, H', I', r, w (sz_of I')⟩⟩
section
variable {K : PySem.W.Frag} {H H' H2 : Hp} {B : List Addr}
theorem Kp.refl : Kp B H H := ⟨fun _ _ h _ => h, fun _ _ => rfl⟩
theorem src_list {a : Addr} {l : List Dt} {vs : List V} {G : List Addr} (h : H a = some (.lst vs)) (r : RepDs K H l vs G) (z : vs.length ≤ sizeLine) : Src K (Itl K a) H (a :: G) (l.map .one) where
  go := fun i H1 hi k => by
    rw [List.length_map, r.len] at hi
    exact ⟨vs, vs[i], .of (by rw [k.at_ a List.mem_cons_self, h]), List.getElem?_eq_getElem hi⟩
  stop := fun H1 k => ⟨vs, .of (by rw [k.at_ a List.mem_cons_self, h]), by rw [List.length_map, r.len]; exact Nat.le_refl _⟩
  yld := fun i H1 x H' itm k y e => by
    obtain ⟨rfl, y⟩ := y
    refine ⟨Ext.refl _, ?_⟩
    rw [List.getElem?_map] at e
    obtain ⟨d, hd, rfl⟩ := Option.map_eq_some_iff.mp e
    obtain ⟨v, F, h1, h2, h3⟩ := r.at hd
    have := y vs (.of (by rw [k.at_ a List.mem_cons_self, h]))
    rw [h1] at this; cases this
    exact ⟨F, h2.keep k.tup fun b hb => k.at_ b (List.mem_cons_of_mem _ (h3.subset hb)), fun b hb => List.mem_cons_of_mem _ (h3.subset hb)⟩
  len := by rw [List.length_map, r.len]; exact z
theorem src_tup {a : Addr} {l : List Im} {vs : List V} (h : H a = some (.tup vs)) (r : RepIs K H l vs) (z : vs.length ≤ sizeLine) : Src K (Itt K a) H [] (l.map fun i => .one (.im i)) where
  go := fun i H1 hi k => by
    rw [List.length_map, r.len] at hi
    exact ⟨vs, vs[i], .of (k.tup a _ h Mut.tup), List.getElem?_eq_getElem hi⟩
  stop := fun H1 k => ⟨vs, .of (k.tup a _ h Mut.tup), by rw [List.length_map, r.len]; exact Nat.le_refl _⟩
  yld := fun i H1 x H' itm k y e => by
    obtain ⟨rfl, y⟩ := y
    refine ⟨Ext.refl _, ?_⟩
    rw [List.getElem?_map] at e
    obtain ⟨d, hd, rfl⟩ := Option.map_eq_some_iff.mp e
    obtain ⟨v, h1, h2⟩ := r.at hd
    have := y vs (.of (k.tup a _ h Mut.tup))
    rw [h1] at this; cases this
    exact ⟨[], .im (h2.keep k.tup), fun _ z => nomatch z⟩
  len := by rw [List.length_map, r.len]; exact z
/-- lo, lo + 1, .. -/
def rgItems (lo : Int) (n : Nat) : List Itm := (List.range n).map fun (k : Nat) => .one (.im (.int (lo + (k : Int))))
theorem rgItems_len {lo : Int} {n : Nat} : (rgItems lo n).length = n := by unfold rgItems; simp
theorem src_range {lo : Int} {n : Nat} (z : n ≤ sizeLine) : Src K (Itr lo n) H [] (rgItems lo n) where
  go := fun i H1 hi k => by rw [rgItems_len] at hi; exact hi
  stop := fun H1 k => by rw [rgItems_len]; exact Nat.le_refl _
  yld := fun i H1 x H' itm k y e => by
    obtain ⟨rfl, rfl⟩ := y
    refine ⟨Ext.refl _, ?_⟩
    unfold rgItems at e
    rw [List.getElem?_map] at e
    obtain ⟨d, hd, rfl⟩ := Option.map_eq_some_iff.mp e
    obtain ⟨_, rfl⟩ := List.getElem?_eq_some_iff.mp hd
    rw [List.getElem_range]
    exact ⟨[], .im .int, fun _ z => nomatch z⟩
  len := by rw [rgItems_len]; exact z
end

/-! ### the sources -/
/-- the items of a list or tuple -/
def seqItems : Dt → Option (List Itm)
  | .lst l => some (l.map .one)
  | .im (.tup l) => some (l.map fun i => .one (.im i))
  | _ => none
/-- an expression's list or tuple: its own, or one that stands still -/
def seM (f : Fe) : Fi := fun ρ => (f ρ).bind fun p => if p.1.isB = true then .no else match seqItems p.1.d with
  | some l => .ok (l, [], p.2)
  | none => .no
/-- the list at a name, lent meanwhile -/
def slM (x : Nat) : Fi := fun ρ => match ρ[x]? with
  | some (.o (.lst l)) => .ok (l.map .one, [x], ρ)
  | some (.s (.lst l)) => .ok (l.map .one, [], ρ)
  | some (.o (.im (.tup l))) => .ok (l.map fun i => .one (.im i), [], ρ)
  | _ => .no
def rgOk (i : Int) : Bool := decide (-(2 ^ 62) ≤ i) && decide (i < 2 ^ 62)
def range1M (g : Fa) : Fi := fun ρ => (g ρ).bind fun p => match p.1 with
  | [.o (.im (.int j))] => if (rgOk j && decide (j ≤ SZ)) = true then .ok (rgItems 0 j.toNat, [], p.2) else .no
  | _ => .no
def range2M (g : Fa) : Fi := fun ρ => (g ρ).bind fun p => match p.1 with
  | [.o (.im (.int i)), .o (.im (.int j))] => if (rgOk i && rgOk j && decide (j - i ≤ SZ)) = true then .ok (rgItems i (j - i).toNat, [], p.2) else .no
  | _ => .no
/-- a temporary is laid still -/
def still (O : Ow) (F : List Addr) : Ow := fun a => if a ∈ F then .fz else O a
section
variable {X : Cx} {K : PySem.W.Frag} {q : Bool} {f : Fe} {O O' : Ow} {H H' : Hp} {σ : St} {ρ ρ' : Ev}
theorem VlOk.laid {r : Vl} {v : V} {F : List Addr} (w : VlOk K O H O' H' r v F) (s : SR K O' H' σ ρ') (f : Fr O H O' H') (hb : r.isB = false) :
    ∃ O2, SR K O2 H' σ ρ' ∧ Fr O H O2 H' ∧ RepD K H' r.d v F ∧ (∀ a ∈ F, O2 a = .fz) ∧ (Qu O H O' H' → Qu O H O2 H') := by
  cases r with
  | o d =>
    obtain ⟨w1, w2, w3⟩ := w
    have ne : ∀ a, O' a ≠ .no → a ∉ F := fun a h z => h (w3 a z).1
    have nt : ∀ {a}, a ∉ F → still O' F a = O' a := fun h => by unfold still; rw [if_neg h]
    refine ⟨still O' F, ⟨fun i x e => ?_, fun a i e => ?_, fun a e => ?_, s.len⟩, ⟨f.keep, fun a n e => ?_, fun a e => ?_, fun a e => ?_, fun a e => ?_, f.live⟩, w1, fun a ha => by unfold still; rw [if_pos ha], fun u => ⟨u.ext, fun a n => ?_⟩⟩
    · have h := s.slot i x e
      cases x with
      | e => trivial
      | o d => obtain ⟨v, F', h1, h2, h3, h4⟩ := h; exact ⟨v, F', h1, h2, h3, fun a ha => by rw [nt (ne a (by rw [h4 a ha]; simp)), h4 a ha]⟩
      | s d => obtain ⟨v, F', h1, h2, h4⟩ := h; exact ⟨v, F', h1, h2, fun a ha => by rw [nt (ne a (by rw [h4 a ha]; simp)), h4 a ha]⟩
      | l d => obtain ⟨v, F', h1, h2, h4⟩ := h; exact ⟨v, F', h1, h2, fun a ha => by rw [nt (ne a (h4 a ha).ne_no)]; exact h4 a ha⟩
    · unfold still at e; split at e
      · cases e
      · exact s.own a i e
    · unfold still at e; split at e
      · rename_i ha; exact w1.live a ha
      · exact s.live a e
    · have q := f.no a n e
      rw [nt fun ha => ?_, q]
      rcases (w3 a ha).2.2 with z | ⟨j, z⟩
      · exact n z
      · rw [e] at z; cases z
    · have q := f.fz a e
      unfold still; split
      · rfl
      · exact q
    · have q := f.lk a e
      rw [nt (ne a (by rw [q]; simp)), q]
    · unfold still at e; split at e
      · cases e
      · exact f.lk' a e
    · rw [nt fun ha => ?_, u.own a n]
      obtain ⟨z1, _, z2⟩ := w3 a ha
      rcases z2 with z | ⟨j, z⟩
      · exact n z
      · rw [u.own a n, z] at z1; cases z1
  | s d => exact ⟨O', s, f, w.1, w.2, fun u => u⟩
  | b d => cases hb
/-- over an expression's list or tuple -/
theorem i_seq {tg e : Expr} (he : PE X e (TEs X.K q f)) : PI X tg e (TIs X.K q (seM f)) := by
  have hl : PI X tg e _ := pi_list he.sz
  have ht : PI X tg e _ := pi_tup he.sz
  refine ⟨fun pins s σ H Rr I ⟨O, ρ, items, xs, ρ', sr, e, p⟩ => ?_⟩
  unfold seM at e
  obtain ⟨⟨r, ρ1⟩, e1, e⟩ := R.bind_eq e
  simp only at e
  by_cases hb : r.isB = true
  · rw [if_pos hb] at e; cases e
  rw [if_neg hb] at e
  have hb : r.isB = false := by simpa using hb
  split at e <;> cases e
  rename_i l hl2
  -- which
  have which : (∃ m, r.d = .lst m ∧ items = m.map .one) ∨ ∃ m, r.d = .im (.tup m) ∧ items = m.map fun i => .one (.im i) := by
    generalize r.d = d at hl2
    cases d with
    | lst m => simp only [seqItems, Option.some.injEq] at hl2; exact .inl ⟨m, rfl, hl2.symm⟩
    | im i => cases i with
      | tup m => simp only [seqItems, Option.some.injEq] at hl2; exact .inr ⟨m, rfl, hl2.symm⟩
      | _ => cases hl2
    | _ => cases hl2
  rcases which with ⟨m, hm, rfl⟩ | ⟨m, hm, rfl⟩
  · refine hl.run pins s σ H Rr I ⟨O, ρ, r, _, sr, e1, fun v H' O' F s' f' u' w sz => ?_⟩
    obtain ⟨O2, s2, f2, w2, w3, w4⟩ := w.laid s' f' hb
    rw [hm] at w2
    obtain ⟨a, vs, G, rfl, rfl, h1, h2⟩ := w2.lst_inv
    exact ⟨a, rfl, ⟨vs, .of h1⟩, p _ H' O2 (a :: G) s2 f2 (fun z => ⟨(u' z).1, w4 (u' z).2⟩) (fun b hb => .inl (w3 b hb)) (src_list h1 h2 (sz a vs (.inl h1)))⟩
  · refine ht.run pins s σ H Rr I ⟨O, ρ, r, _, sr, e1, fun v H' O' F s' f' u' w sz => ?_⟩
    obtain ⟨O2, s2, f2, w2, w3, w4⟩ := w.laid s' f' hb
    rw [hm] at w2
    obtain ⟨a, vs, rfl, h1, h2⟩ := w2.im_inv.tup_inv
    exact ⟨a, rfl, ⟨vs, .of h1⟩, p _ H' O2 [] s2 f2 (fun z => ⟨(u' z).1, w4 (u' z).2⟩) (fun b hb => nomatch hb) (src_tup h1 h2 (sz a vs (.inr h1)))⟩
/-- over the list at a name, lent -/
theorem i_lent {tg : Expr} {i : Nat} {x : Str} {pos : Pos} (hN : X.N[i]? = some x) (hv : Vis X.env.scope x) (hd : (x == ("__debug__" : Str)) = false) (hcd : (x == ("__classdict__" : Str)) = false) : PI X tg (.Name x pos) (TIs X.K true (slM i)) := by
  have he := pe_var (pos := pos) hN hv hd hcd
  have hl : PI X tg (.Name x pos) _ := pi_list he.sz
  have ht : PI X tg (.Name x pos) _ := pi_tup he.sz
  refine ⟨fun pins s σ H Rr I ⟨O, ρ, items, xs, ρ', sr, e, p⟩ => ?_⟩
  unfold slM at e
  split at e <;> cases e
  · rename_i l h1
    obtain ⟨v, F, g1, g2, g3, g4⟩ := sr.slot i _ h1
    obtain ⟨a, vs, G, rfl, rfl, h2, h3⟩ := g2.lst_inv
    exact hl.run pins s σ H Rr I ⟨_, g1, fun sz => ⟨a, rfl, ⟨vs, .of h2⟩, p _ H O (a :: G) sr Fr.refl (fun _ => ⟨rfl, Qu.refl⟩) (fun b hb => .inr ⟨i, by simp, g4 b hb⟩) (src_list h2 h3 (sz a vs (.inl h2)))⟩⟩
  · rename_i l h1
    obtain ⟨v, F, g1, g2, g4⟩ := sr.slot i _ h1
    obtain ⟨a, vs, G, rfl, rfl, h2, h3⟩ := g2.lst_inv
    exact hl.run pins s σ H Rr I ⟨_, g1, fun sz => ⟨a, rfl, ⟨vs, .of h2⟩, p _ H O (a :: G) sr Fr.refl (fun _ => ⟨rfl, Qu.refl⟩) (fun b hb => .inl (g4 b hb)) (src_list h2 h3 (sz a vs (.inl h2)))⟩⟩
  · rename_i l h1
    obtain ⟨v, F, g1, g2, g3, g4⟩ := sr.slot i _ h1
    obtain ⟨a, vs, rfl, h2, h3⟩ := g2.im_inv.tup_inv
    exact ht.run pins s σ H Rr I ⟨_, g1, fun sz => ⟨a, rfl, ⟨vs, .of h2⟩, p _ H O [] sr Fr.refl (fun _ => ⟨rfl, Qu.refl⟩) (fun b hb => nomatch hb) (src_tup h2 h3 (sz a vs (.inr h2)))⟩⟩
/-- over range(b), range(a, b) -/
theorem i_range1 {tg a : Expr} {g : Fa} {p pos : Pos} (hg : Gl X "range") (hm : X.mg "range" = none) (ha : PA X [a] (TAs X.K q g)) (hs : starEach [a] X.env = [(false, eval a X.env)]) : PI X tg (.Call (.Name "range" p) [a] [] pos) (TIs X.K q (range1M g)) := by
  refine ⟨fun pins s σ H Rr I ⟨O, ρ, items, xs, ρ', sr, e, pp⟩ => (pi_range1 hg hm ha hs).run pins s σ H Rr I ?_⟩
  unfold range1M at e
  obtain ⟨⟨rs, ρ1⟩, e1, e⟩ := R.bind_eq e
  refine ⟨O, ρ, rs, ρ1, sr, e1, fun vs H' O' G s' f' u' w => ?_⟩
  split at e <;> first | cases e | skip
  rename_i j he
  have he : rs = [.o (.im (.int j))] := he
  subst he
  split at e <;> cases e
  rename_i hc
  simp only [Bool.and_eq_true, rgOk, decide_eq_true_eq] at hc
  obtain ⟨v, F, rfl, k⟩ := one_ok w
  obtain rfl := k.1.im_inv.int_inv
  exact ⟨j, rfl, hc.1.1, hc.1.2, pp _ H' O' [] s' f' u' (fun b hb => nomatch hb) (src_range (by have h := hc.2; unfold SZ at h; omega))⟩
theorem i_range2 {tg a b : Expr} {g : Fa} {p pos : Pos} (hg : Gl X "range") (hm : X.mg "range" = none) (ha : PA X [a, b] (TAs X.K q g)) (hs : starEach [a, b] X.env = [(false, eval a X.env), (false, eval b X.env)]) (hs2 : starEach [b] X.env = [(false, eval b X.env)]) :
    PI X tg (.Call (.Name "range" p) [a, b] [] pos) (TIs X.K q (range2M g)) := by
  refine ⟨fun pins s σ H Rr I ⟨O, ρ, items, xs, ρ', sr, e, pp⟩ => (pi_range2 hg hm ha hs hs2).run pins s σ H Rr I ?_⟩
  unfold range2M at e
  obtain ⟨⟨rs, ρ1⟩, e1, e⟩ := R.bind_eq e
  refine ⟨O, ρ, rs, ρ1, sr, e1, fun vs H' O' G s' f' u' w => ?_⟩
  split at e <;> first | cases e | skip
  rename_i i j he
  have he : rs = [.o (.im (.int i)), .o (.im (.int j))] := he
  subst he
  split at e <;> cases e
  rename_i hc
  simp only [Bool.and_eq_true, rgOk, decide_eq_true_eq] at hc
  obtain ⟨v, v2, F, F2, rfl, k, k2⟩ := two_ok w
  obtain rfl := k.1.im_inv.int_inv
  obtain rfl := k2.1.im_inv.int_inv
  exact ⟨i, j, rfl, ⟨hc.1.1.1, hc.1.1.2, hc.1.2.1, hc.1.2.2⟩, pp _ H' O' [] s' f' u' (fun b hb => nomatch hb) (src_range (by have h := hc.2; unfold SZ at h; omega))⟩

/-! ### targets -/
inductive Tgt where
  | nm (i : Nat) | tp (l : List Nat)
/-- a datum of a walk, to slot i: an unchangeable one, or one that is lent (l) or stands still -/
def putI (l : Bool) (i : Nat) (d : Dt) (ρ : Ev) : R Ev := if i < ρ.length then .ok (ρ.set i (match d with
  | .im j => .o (.im j)
  | d => if l = true then .l d else .s d)) else .no
def putsI (l : Bool) : List Nat → List Dt → Ev → R Ev
  | [], [], ρ => .ok ρ
  | i :: is, d :: ds, ρ => (putI l i d ρ).bind (putsI l is ds)
  | _, _, _ => .no
def tgM (l : Bool) : Tgt → Itm → Ev → R Ev
  | .nm i, .one d, ρ => putI l i d ρ
  | .nm i, .two (.im a) (.im b), ρ => putI l i (.im (.tup [a, b])) ρ
  | .tp is, .one (.im (.tup l')), ρ => putsI l is (l'.map .im) ρ
  | .tp is, .two d e, ρ => putsI l is [d, e] ρ
  | _, _, _ => .no
end
end Wv

set_option Elab.async false
set_option linter.all false
set_option maxRecDepth 100000
namespace Wv
open PySem PySem.Spec PyProof.Rows L2

/-! ## targets -/
def gNms : List Nat → TGs
  | [] => gNil
  | i :: is => gCons (gName i) (gNms is)
def gT (K : PySem.W.Frag) : Tgt → TG
  | .nm i => gName i
  | .tp is => gTup K is.length (gNms is)
def Tgt.slots : Tgt → List Nat
  | .nm i => [i]
  | .tp is => is
/-- stored to at the slots is alone -/
def Sto (is : List Nat) (σ σ' : St) : Prop := σ'.length = σ.length ∧ ∀ j, j ∉ is → σ'[j]? = σ[j]?
theorem Sto.refl {is : List Nat} {σ : St} : Sto is σ σ := ⟨rfl, fun _ _ => rfl⟩
theorem Sto.trans {is : List Nat} {a b c : St} (h : Sto is a b) (k : Sto is b c) : Sto is a c := ⟨k.1.trans h.1, fun j hj => (k.2 j hj).trans (h.2 j hj)⟩
theorem Sto.set {is : List Nat} {σ : St} {i : Nat} {v : Option V} (h : i ∈ is) : Sto is σ (σ.set i v) := ⟨List.length_set, fun j hj => List.getElem?_set_ne (by rintro rfl; exact hj h)⟩
theorem Sto.mono {is js : List Nat} {σ σ' : St} (h : Sto is σ σ') (k : ∀ i ∈ is, i ∈ js) : Sto js σ σ' := ⟨h.1, fun j hj => h.2 j fun z => hj (k j z)⟩
theorem wipe_in {σ : St} {i : Nat} : ∀ {vs : List Nat}, i ∈ vs → i < σ.length → (wipe σ vs)[i]? = some none
  | v :: vs, h, hl => by
    unfold wipe
    by_cases e : v = i
    · subst e
      rw [List.getElem?_set_self (by rw [wipe_length]; exact hl)]
    · rw [List.getElem?_set_ne e]
      exact wipe_in ((List.mem_cons.mp h).resolve_left fun z => e z.symm) hl
theorem Sto.wipe {vs : List Nat} {σ σ' : St} (h : Sto vs σ σ') : wipe σ' vs = wipe σ vs := by
  refine List.ext_getElem? fun j => ?_
  by_cases hj : j ∈ vs
  · by_cases hl : j < σ.length
    · rw [wipe_in hj hl, wipe_in hj (by rw [h.1]; exact hl)]
    · rw [List.getElem?_eq_none (by rw [wipe_length, h.1]; omega), List.getElem?_eq_none (by rw [wipe_length]; omega)]
  · rw [wipe_out hj, wipe_out hj, h.2 j hj]
theorem wipe_sto {vs : List Nat} {σ : St} : Sto vs σ (wipe σ vs) := ⟨wipe_length σ vs, fun j hj => wipe_out hj⟩

section
variable {K : PySem.W.Frag} {O O' : Ow} {H H' : Hp} {σ : St} {ρ ρ' : Ev} {B : List Addr} {l : Bool}
/-- the tags of what is walked -/
def BOk (l : Bool) (O : Ow) (B : List Addr) : Prop := ∀ a ∈ B, if l = true then Stl (O a) else O a = .fz
theorem BOk.stl (h : BOk l O B) : ∀ a ∈ B, Stl (O a) := fun a ha => by
  have := h a ha
  cases l with
  | true => simpa using this
  | false => exact .inr (by simpa using this)
theorem BOk.fr (h : BOk l O B) (f : Fr O H O' H') : BOk l O' B := fun a ha => by
  have z := h a ha
  cases l with
  | true =>
    rw [if_pos rfl] at z ⊢
    rcases z with z | z
    · exact .inl (f.lk a z)
    · exact .inr (f.fz a z)
  | false =>
    rw [if_neg (by simp)] at z ⊢
    exact f.fz a z
theorem put_ok {i : Nat} {d : Dt} {v : V} {F : List Addr} (s : SR K O H σ ρ) (e : putI l i d ρ = .ok ρ') (r : RepD K H d v F) (b : BOk l O F) :
    ∃ O', SR K O' H (σ.set i (some v)) ρ' ∧ Fr O H O' H ∧ (∀ a, O a ≠ .sl i → O' a = O a) := by
  unfold putI at e
  split at e <;> cases e
  rename_i hi
  refine ⟨give O i [], ?_, ?_, fun a ha => give_ne (by simp) ha⟩
  · refine (s.put (G := []) (x := _) Fr.refl hi (fun a ha => by cases ha) ?_).1
    cases r with
    | im r => exact ⟨v, [], rfl, .im r, .nil, fun a ha => by cases ha⟩
    | _ =>
      cases l with
      | true => exact ⟨_, _, rfl, by constructor <;> assumption, fun a ha => by rw [give_ne (by simp) (b.stl a ha).ne_sl]; exact b.stl a ha⟩
      | false =>
        have bb : ∀ a ∈ _, O a = .fz := fun a ha => by simpa using b a ha
        exact ⟨_, _, rfl, by constructor <;> assumption, fun a ha => by rw [give_ne (by simp) (b.stl a ha).ne_sl]; exact bb a ha⟩
  · exact (s.put (G := []) (v := v) (x := .e) Fr.refl hi (fun a ha => by cases ha) trivial).2
theorem puts_ok : ∀ {is : List Nat} {ds : List Dt} {vs : List V} {F : List Addr} {O : Ow} {σ : St} {ρ : Ev} {Q : St → Hp → Prop}, SR K O H σ ρ → putsI l is ds ρ = .ok ρ' → RepDs K H ds vs F → BOk l O F →
    (∀ σ' O', SR K O' H σ' ρ' → Fr O H O' H → (∀ a, (∀ i ∈ is, O a ≠ .sl i) → O' a = O a) → Sto is σ σ' → Q σ' H) → gNms is vs σ H Q
  | [], [], _, _, O, σ, ρ, Q, s, e, r, b, h => by
    cases r
    cases e
    exact ⟨rfl, h σ O s Fr.refl (fun _ _ => rfl) Sto.refl⟩
  | [], _ :: _, _, _, _, _, _, _, _, e, _, _, _ => by cases e
  | _ :: _, [], _, _, _, _, _, _, _, e, _, _, _ => by cases e
  | i :: is, d :: ds, _, _, O, σ, ρ, Q, s, e, r, b, h => by
    cases r with
    | @cons _ _ v vs F G r1 r2 =>
      obtain ⟨ρ1, e1, e2⟩ := R.bind_eq (show (putI l i d ρ).bind (putsI l is ds) = .ok ρ' from e)
      obtain ⟨O1, s1, f1, k1⟩ := put_ok s e1 r1 fun a ha => b a (List.mem_append_left _ ha)
      refine ⟨v, vs, rfl, puts_ok s1 e2 r2 (BOk.fr (fun a ha => b a (List.mem_append_right _ ha)) f1) fun σ' O' s' f' k' t' => ?_⟩
      exact h σ' O' s' (f1.trans f' s1.sl_live) (fun a ha => by
        have k2 := k1 a (ha i List.mem_cons_self)
        rw [k' a (fun j hj => by rw [k2]; exact ha j (List.mem_cons_of_mem _ hj)), k2]) ((Sto.set (List.mem_cons_self)).trans (t'.mono fun j hj => List.mem_cons_of_mem _ hj))
theorem RepIs.ds {l : List Im} {vs : List V} (h : RepIs K H l vs) : RepDs K H (l.map .im) vs [] := by
  induction l generalizing vs with
  | nil => cases h; exact .nil
  | cons i r ih => cases h with | cons a b => exact (List.append_nil ([] : List Addr)) ▸ RepDs.cons (.im a) (ih b)
theorem putsI_len : ∀ {is : List Nat} {ds : List Dt} {ρ ρ' : Ev}, putsI l is ds ρ = .ok ρ' → is.length = ds.length
  | [], [], _, _, _ => rfl
  | [], _ :: _, _, _, e => by cases e
  | _ :: _, [], _, _, e => by cases e
  | i :: is, d :: ds, ρ, ρ', e => by
    obtain ⟨ρ1, e1, e2⟩ := R.bind_eq (show (putI l i d ρ).bind (putsI l is ds) = .ok ρ' from e)
    simp [putsI_len e2]
/-- an item goes to its target -/
theorem tg_ok {t : Tgt} {itm : Itm} {x : V} {Q : St → Hp → Prop} (s : SR K O H σ ρ) (e : tgM l t itm ρ = .ok ρ') (w : ItV K B H itm x) (b : BOk l O B)
    (h : ∀ σ' O', SR K O' H σ' ρ' → Fr O H O' H → (∀ a, (∀ i ∈ t.slots, O a ≠ .sl i) → O' a = O a) → Sto t.slots σ σ' → Q σ' H) : gT K t x σ H Q := by
  cases t with
  | nm i =>
    cases itm with
    | one d =>
      obtain ⟨F, w1, w2⟩ := w
      obtain ⟨O1, s1, f1, k1⟩ := put_ok s e w1 fun a ha => b a (w2 a ha)
      exact h _ O1 s1 f1 (fun a ha => k1 a (ha i List.mem_cons_self)) (Sto.set (by simp [Tgt.slots]))
    | two d d2 =>
      obtain ⟨p, v, w', F, G, rfl, w1, w2, w3, w4, w5⟩ := w
      cases d with
      | im i1 =>
        cases d2 with
        | im i2 =>
          obtain ⟨O1, s1, f1, k1⟩ := put_ok (l := l) (v := .ref p) (F := []) s (show putI l i (.im (.tup [i1, i2])) ρ = .ok ρ' from e) (.im (.tup w1 (.cons w2.im_inv (.cons w3.im_inv .nil)))) fun a ha => by cases ha
          exact h _ O1 s1 f1 (fun a ha => k1 a (ha i List.mem_cons_self)) (Sto.set (by simp [Tgt.slots]))
        | _ => cases e
      | _ => cases e
  | tp is =>
    cases itm with
    | one d =>
      cases d with
      | im j =>
        cases j with
        | tup l' =>
          obtain ⟨F, w1, w2⟩ := w
          obtain ⟨p, vs, rfl, w3, w4⟩ := w1.im_inv.tup_inv
          have el := putsI_len (show putsI l is (l'.map .im) ρ = .ok ρ' from e)
          exact ⟨p, vs, rfl, .of w3, by rw [← w4.len, el, List.length_map], puts_ok s (show putsI l is (l'.map .im) ρ = .ok ρ' from e) w4.ds (fun a ha => by cases ha) h⟩
        | _ => cases e
      | _ => cases e
    | two d d2 =>
      obtain ⟨p, v, w', F, G, rfl, w1, w2, w3, w4, w5⟩ := w
      have e' : putsI l is [d, d2] ρ = .ok ρ' := e
      have el := putsI_len e'
      refine ⟨p, [v, w'], rfl, .of w1, by rw [el]; rfl, puts_ok s e' (.cons w2 (.cons w3 .nil)) (fun a ha => ?_) h⟩
      rcases List.mem_append.mp ha with ha | ha
      · exact b a (w4 a ha)
      · exact b a (w5 a (by simpa using ha))

/-! ## a block: its own names, what is lent to it -/
def lock1 (ρ : Ev) (x : Nat) : Ev := match ρ[x]? with
  | some (.o d) => ρ.set x (.l d)
  | _ => ρ
def lockE (xs : List Nat) (ρ : Ev) : Ev := xs.foldl lock1 ρ
def wipeE (own : List Nat) (ρ : Ev) : Ev := own.foldl (fun ρ x => ρ.set x .e) ρ
def lockT (L : List Nat) (O : Ow) : Ow := fun a => match O a with
  | .sl k => if k ∈ L then .lk else .sl k
  | t => t
def freeT (L : List Nat) (O1 O2 : Ow) : Ow := fun a => match O1 a with
  | .sl k => if k ∈ L then .sl k else O2 a
  | _ => O2 a
/-- behind the block: the slots at L as they were, nothing else is lent -/
def mergeC (L : List Nat) : Nat → Ev → Ev → Ev
  | i, a :: r, b :: s => (if L.contains i = true then a else match a, b with
    | .l d, _ => .l d
    | _, .l _ => .e
    | _, b => b) :: mergeC L (i + 1) r s
  | _, r, _ => r
theorem lockT_sl {L : List Nat} {a : Addr} {k : Nat} (h : O a = .sl k) (hk : k ∈ L) : lockT L O a = .lk := by unfold lockT; rw [h]; exact if_pos hk
theorem lockT_ne {L : List Nat} {a : Addr} (h : ∀ k ∈ L, O a ≠ .sl k) : lockT L O a = O a := by
  unfold lockT
  cases e : O a with
  | sl k => exact if_neg fun z => h k z e
  | _ => rfl
theorem lockT_stl {L : List Nat} {a : Addr} (h : Stl (O a)) : lockT L O a = O a := lockT_ne fun _ _ => h.ne_sl
theorem lockT_cases (L : List Nat) (O : Ow) (a : Addr) : (lockT L O a = .lk ∧ ∃ k ∈ L, O a = .sl k) ∨ (lockT L O a = O a ∧ ∀ k ∈ L, O a ≠ .sl k) := by
  by_cases h : ∀ k ∈ L, O a ≠ .sl k
  · exact .inr ⟨lockT_ne h, h⟩
  · simp only [Classical.not_forall, Classical.not_not] at h
    obtain ⟨k, hk, e⟩ := h
    exact .inl ⟨lockT_sl e hk, k, hk, e⟩
theorem freeT_sl {L : List Nat} {O2 : Ow} {a : Addr} {k : Nat} (h : O a = .sl k) (hk : k ∈ L) : freeT L O O2 a = .sl k := by unfold freeT; rw [h]; exact if_pos hk
theorem freeT_ne {L : List Nat} {O2 : Ow} {a : Addr} (h : ∀ k ∈ L, O a ≠ .sl k) : freeT L O O2 a = O2 a := by
  unfold freeT
  cases e : O a with
  | sl k => exact if_neg fun z => h k z e
  | _ => rfl
theorem lock1_len {ρ : Ev} {x : Nat} : (lock1 ρ x).length = ρ.length := by
  unfold lock1
  split
  · rw [List.length_set]
  · rfl
theorem lockE_len : ∀ {xs : List Nat} {ρ : Ev}, (lockE xs ρ).length = ρ.length
  | [], _ => rfl
  | x :: xs, ρ => by
    show (lockE xs (lock1 ρ x)).length = _
    rw [lockE_len, lock1_len]
theorem wipeE_len : ∀ {xs : List Nat} {ρ : Ev}, (wipeE xs ρ).length = ρ.length
  | [], _ => rfl
  | x :: xs, ρ => by
    show (wipeE xs _).length = _
    rw [wipeE_len, List.length_set]
theorem lock1_at {ρ : Ev} {y i : Nat} {x : Sl} (h : (lock1 ρ y)[i]? = some x) : (ρ[i]? = some x ∧ (i = y → ∀ d, x ≠ .o d)) ∨ ∃ d, i = y ∧ ρ[i]? = some (.o d) ∧ x = .l d := by
  unfold lock1 at h
  split at h
  · rename_i d hd
    by_cases e : y = i
    · subst e
      have hl := (List.getElem?_eq_some_iff.mp hd).1
      rw [List.getElem?_set_self hl] at h
      cases h
      exact .inr ⟨d, rfl, hd, rfl⟩
    · rw [List.getElem?_set_ne e] at h
      exact .inl ⟨h, fun z => absurd z.symm e⟩
  · rename_i hn
    exact .inl ⟨h, fun z d q => hn d (by rw [← z, h, q])⟩
/-- a slot of a locked environment -/
theorem lockE_at : ∀ {xs : List Nat} {ρ : Ev} {i : Nat} {x : Sl}, (lockE xs ρ)[i]? = some x → (ρ[i]? = some x ∧ (i ∈ xs → ∀ d, x ≠ .o d)) ∨ ∃ d, i ∈ xs ∧ ρ[i]? = some (.o d) ∧ x = .l d
  | [], _, _, _, h => .inl ⟨h, fun z => by cases z⟩
  | y :: xs, ρ, i, x, h => by
    rcases lockE_at (xs := xs) (ρ := lock1 ρ y) h with ⟨h, h0⟩ | ⟨d, h1, h2, h3⟩
    · rcases lock1_at h with ⟨h, h1⟩ | ⟨d, h1, h2, h3⟩
      · exact .inl ⟨h, fun z => (List.mem_cons.mp z).elim h1 h0⟩
      · exact .inr ⟨d, by rw [h1]; exact List.mem_cons_self, h2, h3⟩
    · subst h3
      rcases lock1_at h2 with ⟨h, h0⟩ | ⟨d', h4, h5, h6⟩
      · exact .inr ⟨d, List.mem_cons_of_mem _ h1, h, rfl⟩
      · cases h6
theorem wipeE_at : ∀ {xs : List Nat} {ρ : Ev} {i : Nat} {x : Sl}, (wipeE xs ρ)[i]? = some x → (x = .e) ∨ (i ∉ xs ∧ ρ[i]? = some x)
  | [], _, _, _, h => .inr ⟨by simp, h⟩
  | y :: xs, ρ, i, x, h => by
    rcases wipeE_at (xs := xs) h with h | ⟨h1, h⟩
    · exact .inl h
    · by_cases e : y = i
      · subst e
        by_cases hl : y < ρ.length
        · rw [List.getElem?_set_self hl] at h; cases h; exact .inl rfl
        · rw [List.getElem?_eq_none (by simpa using hl)] at h; cases h
      · rw [List.getElem?_set_ne e] at h
        exact .inr ⟨by rw [List.mem_cons, not_or]; exact ⟨fun z => e z.symm, h1⟩, h⟩
/-- the block's own names forgotten -/
theorem SR.wipe (s : SR K O H σ ρ) (vs : List Nat) : SR K O H (wipe σ vs) (wipeE vs ρ) where
  slot := fun i x h => by
    rcases wipeE_at h with rfl | ⟨h1, h⟩
    · trivial
    · rw [wipe_out h1]; exact s.slot i x h
  own := s.own
  live := s.live
  len := by rw [wipeE_len, wipe_length]; exact s.len
/-- a block begins -/
theorem SR.lock (s : SR K O H σ ρ) (own xs : List Nat) : SR K (lockT (own ++ xs) O) H (L2.wipe σ own) (wipeE own (lockE xs ρ)) where
  slot := fun i x h => by
    rcases wipeE_at h with rfl | ⟨h1, h⟩
    · trivial
    · rw [wipe_out h1]
      rcases lockE_at h with ⟨h, h0⟩ | ⟨d, h2, h3, rfl⟩
      · have w := s.slot i x h
        cases x with
        | e => trivial
        | o d =>
          obtain ⟨v, F, g1, g2, g3, g4⟩ := w
          have hn : i ∉ own ++ xs := fun z => (List.mem_append.mp z).elim h1 fun z => h0 z d rfl
          exact ⟨v, F, g1, g2, g3, fun a ha => by rw [lockT_ne fun k hk z => ?_, g4 a ha]; rw [g4 a ha] at z; cases z; exact hn hk⟩
        | s d =>
          obtain ⟨v, F, g1, g2, g4⟩ := w
          exact ⟨v, F, g1, g2, fun a ha => by rw [lockT_stl (.inr (g4 a ha)), g4 a ha]⟩
        | l d =>
          obtain ⟨v, F, g1, g2, g4⟩ := w
          exact ⟨v, F, g1, g2, fun a ha => by rw [lockT_stl (g4 a ha)]; exact g4 a ha⟩
      · obtain ⟨v, F, g1, g2, g3, g4⟩ := s.slot i _ h3
        exact ⟨v, F, g1, g2, fun a ha => .inl (lockT_sl (g4 a ha) (List.mem_append_right _ h2))⟩
  own := fun a i h => by
    rcases lockT_cases (own ++ xs) O a with ⟨h1, _⟩ | ⟨h1, _⟩
    · rw [h1] at h; cases h
    · rw [h1] at h; exact s.own a i h
  live := fun a h => by
    rcases lockT_cases (own ++ xs) O a with ⟨h1, k, _, h2⟩ | ⟨h1, _⟩
    · exact s.sl_live a k h2
    · rw [h1] at h; exact s.live a h
  len := by rw [wipeE_len, lockE_len, wipe_length]; exact s.len
/-- .. and is left -/
theorem mergeC_at {L : List Nat} : ∀ {r s : Ev} {i j : Nat} {x : Sl}, (mergeC L i r s)[j]? = some x → r.length = s.length →
    (i + j ∈ L ∧ r[j]? = some x) ∨ (i + j ∉ L ∧ ((∃ d, r[j]? = some (.l d) ∧ x = .l d) ∨ (x = .e ∧ ∃ d, s[j]? = some (.l d) ∧ ∀ d', r[j]? ≠ some (.l d')) ∨ (s[j]? = some x ∧ ∀ d, x ≠ .l d)))
  | [], [], _, _, _, h, _ => by simp [mergeC] at h
  | [], _ :: _, _, _, _, _, e => by cases e
  | _ :: _, [], _, _, _, _, e => by cases e
  | a :: r, b :: s, i, j, x, h, e => by
    unfold mergeC at h
    cases j with
    | zero =>
      rw [List.getElem?_cons_zero] at h
      by_cases c : L.contains i = true
      · rw [if_pos c] at h
        exact .inl ⟨by simpa using List.contains_iff_mem.mp c, by rw [List.getElem?_cons_zero]; exact h⟩
      · rw [if_neg c] at h
        refine .inr ⟨fun z => c (List.contains_iff_mem.mpr (by simpa using z)), ?_⟩
        rw [List.getElem?_cons_zero, List.getElem?_cons_zero]
        split at h
        · rename_i d _
          cases h
          exact .inl ⟨_, rfl, rfl⟩
        · rename_i d hb
          cases h
          exact .inr (.inl ⟨rfl, d, rfl, fun d' q => hb d' (Option.some.inj q)⟩)
        · rename_i hb
          cases h
          exact .inr (.inr ⟨rfl, fun d q => hb d q⟩)
    | succ j =>
      rw [List.getElem?_cons_succ] at h
      rw [List.getElem?_cons_succ, List.getElem?_cons_succ]
      have := mergeC_at h (by simpa using e)
      rw [show i + 1 + j = i + (j + 1) by omega] at this
      exact this
theorem mergeC_len {L : List Nat} : ∀ {r s : Ev} {i : Nat}, r.length = s.length → (mergeC L i r s).length = r.length
  | [], [], _, _ => by rw [mergeC] <;> simp
  | [], _ :: _, _, e => by cases e
  | _ :: _, [], _, e => by cases e
  | a :: r, b :: s, i, e => by
    unfold mergeC
    rw [List.length_cons, List.length_cons, mergeC_len (by simpa using e)]
/-- the block's end: its owners freed -/
theorem SR.free {own L : List Nat} {ρ1 ρF : Ev} {O1 OF : Ow} {H1 HF : Hp} {σ : St} (s : SR K O1 H1 σ ρ1) (t : SR K OF HF (L2.wipe σ own) ρF) (hL : ∀ i ∈ own, i ∈ L) (f : Fr (lockT L O1) H1 OF HF) :
    SR K (freeT L O1 OF) HF σ (mergeC L 0 ρ1 ρF) ∧ ∀ a, Stl (O1 a) → freeT L O1 OF a = O1 a := by
  have hl : ρ1.length = ρF.length := by rw [s.len, t.len, wipe_length]
  have lsl : ∀ a k, k ∈ L → O1 a = .sl k → OF a = .lk := fun a k hk e => f.lk a (lockT_sl e hk)
  have lst : ∀ a, Stl (O1 a) → freeT L O1 OF a = O1 a := fun a h => by
    rw [freeT_ne fun _ _ => h.ne_sl]
    have h2 := lockT_stl (L := L) h
    rcases h with h | h
    · rw [h] at h2 ⊢; exact f.lk a h2
    · rw [h] at h2 ⊢; exact f.fz a h2
  have nsl : ∀ a, (∃ k ∈ L, O1 a = .sl k) ∨ Stl (O1 a) → ∀ i, lockT L O1 a ≠ .sl i := fun a h i => by
    rcases h with ⟨k, hk, e⟩ | h
    · rw [lockT_sl e hk]; simp
    · rw [lockT_stl h]; exact h.ne_sl
  have kt : KTup H1 HF := fun a o h n => f.keep _ _ h fun i e => by
    rcases lockT_cases L O1 a with ⟨h1, _⟩ | ⟨h1, _⟩
    · rw [h1] at e; cases e
    · rw [h1] at e
      have m := s.own a i e
      rw [h] at m; exact n m
  have same : ∀ a, H1 a ≠ none → ((∃ k ∈ L, O1 a = .sl k) ∨ Stl (O1 a)) → HF a = H1 a := fun a n h => by
    obtain ⟨o, e⟩ := Option.ne_none_iff_exists'.mp n
    rw [f.keep a o e (nsl a h), e]
  refine ⟨⟨fun i x h => ?_, fun a i h => ?_, fun a h => ?_, by rw [mergeC_len hl]; exact s.len⟩, lst⟩
  · rcases mergeC_at h hl with ⟨h1, h2⟩ | ⟨h1, h2⟩
    · rw [Nat.zero_add] at h1
      have w := s.slot i x h2
      cases x with
      | e => trivial
      | o d =>
        obtain ⟨v, F, g1, g2, g3, g4⟩ := w
        exact ⟨v, F, g1, g2.keep kt fun a ha => same a (g2.live a ha) (.inl ⟨i, h1, g4 a ha⟩), g3, fun a ha => freeT_sl (g4 a ha) h1⟩
      | s d =>
        obtain ⟨v, F, g1, g2, g4⟩ := w
        exact ⟨v, F, g1, g2.keep kt fun a ha => same a (g2.live a ha) (.inr (.inr (g4 a ha))), fun a ha => by rw [lst a (.inr (g4 a ha)), g4 a ha]⟩
      | l d =>
        obtain ⟨v, F, g1, g2, g4⟩ := w
        exact ⟨v, F, g1, g2.keep kt fun a ha => same a (g2.live a ha) (.inr (g4 a ha)), fun a ha => by rw [lst a (g4 a ha)]; exact g4 a ha⟩
    · rw [Nat.zero_add] at h1
      rcases h2 with ⟨d, h2, rfl⟩ | ⟨rfl, _⟩ | ⟨h2, h3⟩
      · obtain ⟨v, F, g1, g2, g4⟩ := s.slot i _ h2
        exact ⟨v, F, g1, g2.keep kt fun a ha => same a (g2.live a ha) (.inr (g4 a ha)), fun a ha => by rw [lst a (g4 a ha)]; exact g4 a ha⟩
      · trivial
      · have w := t.slot i x h2
        rw [wipe_out fun z => h1 (hL i z)] at w
        have nf : ∀ a, OF a ≠ .lk → freeT L O1 OF a = OF a := fun a n => freeT_ne fun k hk e => n (lsl a k hk e)
        cases x with
        | e => trivial
        | o d =>
          obtain ⟨v, F, g1, g2, g3, g4⟩ := w
          exact ⟨v, F, g1, g2, g3, fun a ha => by rw [nf a (by rw [g4 a ha]; simp), g4 a ha]⟩
        | s d =>
          obtain ⟨v, F, g1, g2, g4⟩ := w
          exact ⟨v, F, g1, g2, fun a ha => by rw [nf a (by rw [g4 a ha]; simp), g4 a ha]⟩
        | l d => exact absurd rfl (h3 d)
  · by_cases c : ∃ k ∈ L, O1 a = .sl k
    · obtain ⟨k, hk, e⟩ := c
      rw [same a (s.sl_live a k e) (.inl ⟨k, hk, e⟩)]
      exact s.own a k e
    · rw [freeT_ne fun k hk e => c ⟨k, hk, e⟩] at h
      exact t.own a i h
  · by_cases c : ∃ k ∈ L, O1 a = .sl k
    · obtain ⟨k, hk, e⟩ := c
      rw [same a (s.sl_live a k e) (.inl ⟨k, hk, e⟩)]
      exact s.sl_live a k e
    · rw [freeT_ne fun k hk e => c ⟨k, hk, e⟩] at h
      exact t.live a h
theorem Fr.free {L : List Nat} {O1 OF : Ow} {H1 HF : Hp} (s : ∀ a i, O1 a = .sl i → H1 a ≠ none) (f : Fr (lockT L O1) H1 OF HF) : Fr O1 H1 (freeT L O1 OF) HF where
  keep := fun a o e n => f.keep a o e fun i z => by
    rcases lockT_cases L O1 a with ⟨h1, _⟩ | ⟨h1, _⟩
    · rw [h1] at z; cases z
    · rw [h1] at z; exact n i z
  no := fun a n e => by rw [freeT_ne fun k _ z => by rw [e] at z; cases z]; exact f.no a n (by rw [lockT_ne fun k _ z => by rw [e] at z; cases z]; exact e)
  fz := fun a e => by rw [freeT_ne fun k _ z => by rw [e] at z; cases z]; exact f.fz a (by rw [lockT_ne fun k _ z => by rw [e] at z; cases z]; exact e)
  lk := fun a e => by rw [freeT_ne fun k _ z => by rw [e] at z; cases z]; exact f.lk a (by rw [lockT_ne fun k _ z => by rw [e] at z; cases z]; exact e)
  lk' := fun a e => by
    by_cases c : ∃ k ∈ L, O1 a = .sl k
    · obtain ⟨k, hk, e'⟩ := c
      rw [freeT_sl e' hk] at e; cases e
    · have c' : ∀ k ∈ L, O1 a ≠ .sl k := fun k hk e => c ⟨k, hk, e⟩
      rw [freeT_ne c'] at e
      have := f.lk' a e
      rw [lockT_ne c'] at this
      exact this
  live := f.live
/-! ### the environments of a quiet block -/
theorem wipeE_in : ∀ {xs : List Nat} {ρ : Ev} {i : Nat}, i ∈ xs → i < ρ.length → (wipeE xs ρ)[i]? = some .e
  | y :: xs, ρ, i, h, hl => by
    show (wipeE xs (ρ.set y .e))[i]? = _
    by_cases hx : i ∈ xs
    · exact wipeE_in hx (by rw [List.length_set]; exact hl)
    · have e : i = y := (List.mem_cons.mp h).resolve_right hx
      subst e
      have : ∀ (xs : List Nat) (ρ : Ev), i ∉ xs → (wipeE xs ρ)[i]? = ρ[i]? := by
        intro xs
        induction xs with
        | nil => intro ρ _; rfl
        | cons z r ih =>
          intro ρ hz
          rw [List.mem_cons, not_or] at hz
          show (wipeE r (ρ.set z .e))[i]? = _
          rw [ih _ hz.2, List.getElem?_set_ne (Ne.symm hz.1)]
      rw [this _ _ hx, List.getElem?_set_self hl]
theorem wipeE_out {i : Nat} : ∀ {xs : List Nat} {ρ : Ev}, i ∉ xs → (wipeE xs ρ)[i]? = ρ[i]?
  | [], _, _ => rfl
  | z :: r, ρ, hz => by
    rw [List.mem_cons, not_or] at hz
    show (wipeE r (ρ.set z .e))[i]? = _
    rw [wipeE_out hz.2, List.getElem?_set_ne (Ne.symm hz.1)]
theorem wipeE_same {own : List Nat} {ρ ρ' : Ev} (hl : ρ'.length = ρ.length) (h : ∀ j, j ∉ own → ρ'[j]? = ρ[j]?) : wipeE own ρ' = wipeE own ρ := by
  refine List.ext_getElem? fun j => ?_
  by_cases hj : j ∈ own
  · by_cases hh : j < ρ.length
    · rw [wipeE_in hj hh, wipeE_in hj (by rw [hl]; exact hh)]
    · rw [List.getElem?_eq_none (by rw [wipeE_len, hl]; omega), List.getElem?_eq_none (by rw [wipeE_len]; omega)]
  · rw [wipeE_out hj, wipeE_out hj, h j hj]
theorem putI_at {i : Nat} {d : Dt} (e : putI l i d ρ = .ok ρ') : ρ'.length = ρ.length ∧ ∀ j, j ≠ i → ρ'[j]? = ρ[j]? := by
  unfold putI at e
  split at e <;> cases e
  exact ⟨List.length_set, fun j hj => List.getElem?_set_ne (Ne.symm hj)⟩
theorem putsI_at : ∀ {is : List Nat} {ds : List Dt} {ρ : Ev}, putsI l is ds ρ = .ok ρ' → ρ'.length = ρ.length ∧ ∀ j, j ∉ is → ρ'[j]? = ρ[j]?
  | [], [], _, e => by cases e; exact ⟨rfl, fun _ _ => rfl⟩
  | [], _ :: _, _, e => by cases e
  | _ :: _, [], _, e => by cases e
  | i :: is, d :: ds, ρ, e => by
    obtain ⟨ρ1, e1, e2⟩ := R.bind_eq (show (putI l i d ρ).bind (putsI l is ds) = .ok ρ' from e)
    obtain ⟨h1, h2⟩ := putI_at e1
    obtain ⟨h3, h4⟩ := putsI_at e2
    refine ⟨h3.trans h1, fun j hj => ?_⟩
    rw [List.mem_cons, not_or] at hj
    rw [h4 j hj.2, h2 j hj.1]
theorem tgM_at {t : Tgt} {itm : Itm} (e : tgM l t itm ρ = .ok ρ') : ρ'.length = ρ.length ∧ ∀ j, j ∉ t.slots → ρ'[j]? = ρ[j]? := by
  cases t with
  | nm i =>
    have key : ∀ d, putI l i d ρ = .ok ρ' → ρ'.length = ρ.length ∧ ∀ j, j ∉ [i] → ρ'[j]? = ρ[j]? := fun d e => ⟨(putI_at e).1, fun j hj => (putI_at e).2 j (by simpa using hj)⟩
    cases itm with
    | one d => exact key d e
    | two a b => cases a with
      | im a => cases b with
        | im b => exact key (.im (.tup [a, b])) (show putI l i (.im (.tup [a, b])) ρ = .ok ρ' from e)
        | _ => cases e
      | _ => cases e
  | tp is =>
    cases itm with
    | one d => cases d with
      | im j => cases j with
        | tup l' => exact putsI_at (show putsI l is (l'.map .im) ρ = .ok ρ' from e)
        | _ => cases e
      | _ => cases e
    | two a b => exact putsI_at (show putsI l is [a, b] ρ = .ok ρ' from e)
theorem lockE_out {xs : List Nat} {ρ : Ev} {i : Nat} (h : i ∉ xs) : (lockE xs ρ)[i]? = ρ[i]? := by
  cases e : (lockE xs ρ)[i]? with
  | none =>
    have := List.getElem?_eq_none_iff.mp e
    rw [lockE_len] at this
    rw [List.getElem?_eq_none this]
  | some x =>
    rcases lockE_at e with ⟨z, _⟩ | ⟨d, z, _⟩
    · exact z.symm
    · exact absurd z h
theorem merge_quiet {own xs : List Nat} {ρ : Ev} : mergeC (own ++ xs) 0 ρ (wipeE own (lockE xs ρ)) = ρ := by
  have hl : ρ.length = (wipeE own (lockE xs ρ)).length := by rw [wipeE_len, lockE_len]
  refine List.ext_getElem? fun j => ?_
  cases e : (mergeC (own ++ xs) 0 ρ (wipeE own (lockE xs ρ)))[j]? with
  | none =>
    have := List.getElem?_eq_none_iff.mp e
    rw [mergeC_len hl] at this
    rw [List.getElem?_eq_none this]
  | some x =>
    rcases mergeC_at e hl with ⟨_, h⟩ | ⟨h1, h⟩
    · exact h.symm
    · rw [Nat.zero_add, List.mem_append, not_or] at h1
      have e2 : (wipeE own (lockE xs ρ))[j]? = ρ[j]? := by rw [wipeE_out h1.1, lockE_out h1.2]
      rcases h with ⟨d, h, rfl⟩ | ⟨rfl, d, h, h2⟩ | ⟨h, _⟩
      · exact h.symm
      · rw [e2] at h; exact absurd h (h2 d)
      · rw [e2] at h; exact h.symm
end
end Wv

set_option Elab.async false
set_option linter.all false
set_option maxRecDepth 100000
namespace Wv
open PySem PySem.Spec PyProof.Rows L2

/-! ## list comprehensions -/
/-- the items' turns: what is kept goes onto acc -/
def lcL (l : Bool) (own : List Nat) (t : Tgt) (T : Ft) (f : Fe) : List Itm → Ev → List Dt → R (List Dt × Ev)
  | [], ρ, acc => .ok (acc, ρ)
  | it :: r, ρ, acc => (tgM l t it ρ).bind fun ρa => (T ρa).bind fun b => if b.1 = true then (f b.2).bind fun p => match p.1 with
      | .o d => lcL l own t T f r (wipeE own p.2) (acc ++ [d])
      | _ => .no
    else lcL l own t T f r (wipeE own b.2) acc
def lcM (own : List Nat) (src : Fi) (t : Tgt) (T : Ft) (f : Fe) : Fe := fun ρ => (src ρ).bind fun z =>
  (lcL (!z.2.1.isEmpty) own t T f z.1 (wipeE own (lockE z.2.1 z.2.2)) []).bind fun p => .ok (.o (.lst p.1), mergeC (own ++ z.2.1) 0 z.2.2 p.2)
def yesT : Ft := fun ρ => .ok (true, ρ)
section
variable {K : PySem.W.Frag} {O O' O1 O2 : Ow} {H H' H1 H2 : Hp} {σ : St} {ρ ρ' : Ev}
theorem ownsOf_map : ∀ ds : List Dt, ownsOf (ds.map .o) = some ds
  | [] => rfl
  | d :: r => by rw [List.map_cons]; simp [ownsOf, ownsOf_map r]
theorem VlsOk.snoc {ds : List Dt} {vs : List V} {G F : List Addr} {d : Dt} {v : V} (h : VlsOk K O H O' H' (ds.map .o) vs G) (k : VlOk K O H O' H' (.o d) v F) (dj : ∀ a ∈ G, a ∉ F) :
    ∃ G', VlsOk K O H O' H' ((ds ++ [d]).map .o) (vs ++ [v]) G' ∧ ∀ a ∈ G', a ∈ G ∨ a ∈ F := by
  induction ds generalizing vs G with
  | nil => cases h; exact ⟨F ++ [], .own k .nil fun _ _ z => (by cases z), fun a ha => .inr (by simpa using ha)⟩
  | cons x r ih =>
    cases h with
    | @own _ w F1 _ ws G1 a b c =>
      obtain ⟨G', h1, h2⟩ := ih b fun a ha => dj a (List.mem_append_right _ ha)
      refine ⟨F1 ++ G', .own a h1 fun y hy hz => ?_, fun y hy => ?_⟩
      · rcases h2 y hz with z | z
        · exact c y hy z
        · exact dj y (List.mem_append_left _ hy) z
      · rcases List.mem_append.mp hy with hy | hy
        · exact .inl (List.mem_append_left _ hy)
        · exact (h2 y hy).imp (fun z => List.mem_append_right _ z) id
theorem VlsOk.pend {ds : List Dt} {vs : List V} {G : List Addr} (h : VlsOk K O H O1 H1 (ds.map .o) vs G) (s : SR K O1 H1 σ ρ) (f : Fr O1 H1 O2 H2) : VlsOk K O H O2 H2 (ds.map .o) vs G := by
  induction ds generalizing vs G with
  | nil => cases h; exact .nil
  | cons x r ih =>
    cases h with
    | own a b c => exact .own (a.pend s f fun z => by cases z) (ih b) c
/-- the list at D grows: nothing else is touched -/
theorem SR.atD {D : Addr} {o : HO} (s : SR K O H σ ρ) (hD : O D = .no) (hm : Mut (H D)) : SR K O (upd H D o) σ ρ := by
  have kt : KTup H (upd H D o) := fun a u h n => by
    rw [upd_ne]
    · exact h
    · rintro rfl; rw [h] at hm; exact n hm
  have kp : ∀ {d : Dt} {v : V} {F : List Addr}, RepD K H d v F → (∀ a ∈ F, O a ≠ .no) → RepD K (upd H D o) d v F := fun r n => r.keep kt fun a ha => upd_ne (by rintro rfl; exact n a ha hD)
  refine ⟨fun i x h => ?_, fun a i e => ?_, fun a e => ?_, s.len⟩
  · have w := s.slot i x h
    cases x with
    | e => trivial
    | o d => obtain ⟨v, F, g1, g2, g3, g4⟩ := w; exact ⟨v, F, g1, kp g2 fun a ha => by rw [g4 a ha]; simp, g3, g4⟩
    | s d => obtain ⟨v, F, g1, g2, g4⟩ := w; exact ⟨v, F, g1, kp g2 fun a ha => by rw [g4 a ha]; simp, g4⟩
    | l d => obtain ⟨v, F, g1, g2, g4⟩ := w; exact ⟨v, F, g1, kp g2 fun a ha => (g4 a ha).ne_no, g4⟩
  · rw [upd_ne (by rintro rfl; rw [hD] at e; cases e)]
    exact s.own a i e
  · by_cases z : a = D
    · subst z; exact absurd hD e
    · rw [upd_ne z]; exact s.live a e
theorem VlsOk.atD {D : Addr} {o : HO} {ds : List Dt} {vs : List V} {G : List Addr} (h : VlsOk K O H O1 H1 (ds.map .o) vs G) (hD : D ∉ G) (hm : Mut (H1 D)) : VlsOk K O H O1 (upd H1 D o) (ds.map .o) vs G := by
  have kt : KTup H1 (upd H1 D o) := fun a u h n => by
    rw [upd_ne]
    · exact h
    · rintro rfl; rw [h] at hm; exact n hm
  induction ds generalizing vs G with
  | nil => cases h; exact .nil
  | cons x r ih =>
    cases h with
    | own a b c =>
      rw [List.mem_append, not_or] at hD
      refine .own ⟨a.1.keep kt fun y hy => upd_ne (by rintro rfl; exact hD.1 hy), a.2.1, fun y hy => ?_⟩ (ih b hD.2) c
      rw [upd_ne (by rintro rfl; exact hD.1 hy)]
      exact a.2.2 y hy
theorem Fr.atD {D : Addr} {o : HO} (f : Fr O H O' H') (hD : H D = none) : Fr O H O' (upd H' D o) where
  keep := fun a u e n => by rw [upd_ne (by rintro rfl; rw [hD] at e; cases e)]; exact f.keep a u e n
  no := f.no
  fz := f.fz
  lk := f.lk
  lk' := f.lk'
  live := fun a n => by
    by_cases z : a = D
    · subst z; rw [upd_same]; simp
    · rw [upd_ne z]; exact f.live a n
theorem Qu.atD {D : Addr} {o : HO} (f : Qu O H O' H') (hD : H D = none) : Qu O H O' (upd H' D o) :=
  ⟨fun a u e => by rw [upd_ne (by rintro rfl; rw [hD] at e; cases e)]; exact f.ext a u e, f.own⟩
/-- what is walked stands through the block -/
theorem kp_of {B : List Addr} {L : List Nat} (s : SR K O H σ ρ) (f : Fr O H O' H') (b : ∀ a ∈ B, Stl (O a)) : Kp B H H' := ⟨s.ktup f, fun a ha => by
  obtain ⟨o, e⟩ := Option.ne_none_iff_exists'.mp (s.live a (b a ha).ne_no)
  rw [e, f.keep a o e fun i => (b a ha).ne_sl]⟩

theorem tLc_of {own : List Nat} {src : Fi} {t : Tgt} {T : Ft} {f : Fe} {q1 q2 q3 : Bool} {Q : VK} (ht : ∀ i ∈ t.slots, i ∈ own)
    (w : TEs K (q1 && (q2 && q3)) (lcM own src t T f) σ H Q) : tLc (TIs K q1 src) (gT K t) (TTs K q2 T) (TEs K q3 f) own σ H Q := by
  obtain ⟨O, ρ, r, ρ', sr, e, p⟩ := w
  unfold lcM at e
  obtain ⟨⟨items, xs, ρ1⟩, e1, e⟩ := R.bind_eq e
  obtain ⟨⟨dsF, ρF⟩, e2, e⟩ := R.bind_eq e
  cases e
  simp only at e2 p
  refine ⟨O, ρ, items, xs, ρ1, sr, e1, fun J H1 O1 B s1 f1 u1 tB S D hD => ?_⟩
  generalize hL : own ++ xs = L at *
  have sb : SR K (lockT L O1) H1 (L2.wipe σ own) (wipeE own (lockE xs ρ1)) := by rw [← hL]; exact s1.lock own xs
  -- what is walked is lent, or stands still
  have bok : BOk (!xs.isEmpty) (lockT L O1) B := fun a ha => by
    cases xs with
    | nil =>
      rcases tB a ha with z | ⟨x, hx, _⟩
      · rw [lockT_stl (.inr z)]; exact z
      · cases hx
    | cons x r =>
      show Stl _
      rcases tB a ha with z | ⟨y, hy, z⟩
      · rw [lockT_stl (.inr z)]; exact .inr z
      · exact .inl (lockT_sl z (by rw [← hL]; exact List.mem_append_right _ hy))
  have ob1 : lockT L O1 D = .no := by
    cases z : lockT L O1 D with
    | no => rfl
    | _ => exact absurd hD (sb.live D (by rw [z]; simp))
  refine ⟨fun i m H2 => m = items.length - i ∧ i ≤ items.length ∧ ∃ O2 ρ2 ds acc G, SR K O2 H2 (L2.wipe σ own) ρ2 ∧ Fr (lockT L O1) H1 O2 H2 ∧ H2 D = some (.lst acc) ∧ O2 D = .no ∧ VlsOk K (lockT L O1) H1 O2 H2 (ds.map .o) acc G ∧ D ∉ G ∧
      ds.length ≤ i ∧ lcL (!xs.isEmpty) own t T f (items.drop i) ρ2 ds = .ok (dsF, ρF) ∧ (q2 = true → q3 = true → ρ2 = wipeE own (lockE xs ρ1) ∧ Qu (lockT L O1) H1 O2 H2),
    ⟨items.length, by simp, Nat.zero_le _, lockT L O1, _, [], [], [], sb.ext (Ext.upd hD), Fr.ext (Ext.upd hD), upd_same, ob1, .nil, by simp, Nat.le_refl _, by simpa using e2, fun _ _ => ⟨rfl, Qu.of (Ext.upd hD)⟩⟩, ?_⟩
  rintro i m H2 ⟨rfl, hi, O2, ρ2, ds, acc, G, s2, f2, hD2, oD2, va, hDG, hdl, e3, u2⟩
  have kp2 := kp_of (L := L) sb f2 bok.stl
  by_cases hlt : i < items.length
  · -- a turn
    refine .inr ⟨S.go i H2 hlt kp2, _, fun H' z => ⟨items.length - (i + 1), by omega, z⟩, fun x H3 hy => ?_⟩
    obtain ⟨itm, hitm⟩ : ∃ itm, items[i]? = some itm := ⟨items[i], List.getElem?_eq_getElem hlt⟩
    obtain ⟨x3, w3⟩ := S.yld i H2 x H3 itm kp2 hy hitm
    have hdrop : items.drop i = itm :: items.drop (i + 1) := by
      rw [List.drop_eq_getElem_cons hlt]
      rw [List.getElem?_eq_getElem hlt] at hitm
      rw [Option.some.inj hitm]
    rw [hdrop] at e3
    obtain ⟨ρa, e4, e3⟩ := R.bind_eq (show (tgM (!xs.isEmpty) t itm ρ2).bind _ = .ok (dsF, ρF) from e3)
    have s3 := s2.ext x3
    have f3 := f2.trans (Fr.ext (O := O2) x3) s2.sl_live
    refine tg_ok s3 e4 w3 (bok.fr f3) fun σ4 O4 s4 f4 k4 st4 => ?_
    have wp : L2.wipe σ4 own = L2.wipe σ own := by
      rw [(st4.mono ht).wipe]
      exact (wipe_sto (vs := own) (σ := σ)).wipe
    refine ⟨wp, ?_⟩
    obtain ⟨⟨b, ρb⟩, e5, e3⟩ := R.bind_eq e3
    simp only at e3
    have f14 := f3.trans f4 s3.sl_live
    have hD4 : H3 D = some (.lst acc) := x3 D _ hD2
    have oD4 : O4 D = .no := by
      have : O2 D = .no := oD2
      rw [f4.no D (by rw [hD4]; simp) this]
    have va4 := (va.ext x3).pend s3 f4
    have qput : q2 = true → q3 = true → Qu (lockT L O1) H1 O4 H3 := fun z1 z2 => by
      have z := (u2 z1 z2).2
      refine ⟨z.ext.trans x3, fun a n => ?_⟩
      have z2 := z.own a n
      rw [k4 a fun i hi q => ?_, z2]
      rw [z2] at q
      rcases lockT_cases L O1 a with ⟨h1, _⟩ | ⟨h1, h2⟩
      · rw [h1] at q; cases q
      · rw [h1] at q
        exact h2 i (by rw [← hL]; exact List.mem_append_left _ (ht i hi)) q
    have qenv : ∀ ρ', q2 = true → q3 = true → ρ' = ρa → wipeE own ρ' = wipeE own (lockE xs ρ1) := fun ρ' z1 z2 z3 => by
      obtain ⟨y1, _⟩ := u2 z1 z2
      obtain ⟨h1, h2⟩ := tgM_at e4
      subst z3
      rw [wipeE_same h1 fun j hj => h2 j fun z => hj (ht j z), y1]
      exact wipeE_same wipeE_len fun j hj => wipeE_out hj
    refine ⟨O4, ρa, b, ρb, s4, e5, fun H5 O5 s5 f5 u5 => ?_⟩
    have f15 := f14.trans f5 s4.sl_live
    have hD5 : H5 D = some (.lst acc) := f5.keep D _ hD4 fun i => by rw [oD4]; simp
    have oD5 : O5 D = .no := f5.no D (by rw [hD4]; simp) oD4
    have va5 := va4.pend s4 f5
    cases b with
    | false =>
      rw [if_neg (by simp)] at e3
      refine (if_neg (by simp)).mpr ⟨rfl, hlt, O5, _, ds, acc, G, ?_, f15, hD5, oD5, va5, hDG, by omega, e3, fun z1 z2 => ?_⟩
      · have := s5.wipe own
        rw [wp] at this
        exact this
      · exact ⟨qenv ρb z1 z2 (u5 z1).1, (qput z1 z2).trans (u5 z1).2⟩
    | true =>
      rw [if_pos rfl] at e3
      obtain ⟨⟨r6, ρc⟩, e6, e3⟩ := R.bind_eq e3
      simp only at e3
      split at e3 <;> first | cases e3 | skip
      rename_i d
      refine (if_pos rfl).mpr ⟨O5, ρb, _, ρc, s5, e6, fun y H6 O6 F s6 f6 u6 w6 => ?_⟩
      have f16 := f15.trans f6 s5.sl_live
      have hD6 : H6 D = some (.lst acc) := f6.keep D _ hD5 fun i => by rw [oD5]; simp
      have oD6 : O6 D = .no := f6.no D (by rw [hD5]; simp) oD5
      have va6 := va5.pend s5 f6
      have fresh : ∀ a, H5 a ≠ none → O5 a = .no → a ∉ F := fun a n o ha => by
        rcases (w6.2.2 a ha).2.2 with z | ⟨j, z⟩
        · exact n z
        · rw [o] at z; cases z
      obtain ⟨G', vn, hG'⟩ := va6.snoc (w6.from f15) fun a ha => fresh a ((va5.owns (l := ds) (ownsOf_map ds)).live a ha) (va5.own_all.2 a ha).1
      have hDG' : D ∉ G' := fun z => (hG' D z).elim hDG (fresh D (by rw [hD5]; simp) oD5)
      have hmD : Mut (H6 D) := by rw [hD6]; trivial
      refine ⟨acc, hD6, ?_, rfl, hlt, O6, _, ds ++ [d], acc ++ [y], G', ?_, f16.atD hD, upd_same, oD6, vn.atD hDG' hmD, hDG', by simp; omega, e3, fun z1 z2 => ?_⟩
      · have := va.len
        rw [List.length_map] at this
        have := S.len
        omega
      · have := (s6.atD (o := .lst (acc ++ [y])) oD6 hmD).wipe own
        rw [wp] at this
        exact this
      · exact ⟨qenv ρc z1 z2 ((u6 z2).1.trans (u5 z1).1), (((qput z1 z2).trans (u5 z1).2).trans (u6 z2).2).atD hD⟩
  · -- the end
    obtain rfl : i = items.length := by omega
    refine .inl ⟨S.stop H2 kp2, ?_⟩
    rw [List.drop_length] at e3
    cases e3
    obtain ⟨s9, st9⟩ := s1.free s2 (fun i hi => by rw [← hL]; exact List.mem_append_left _ hi) f2
    have f9 := Fr.free s1.sl_live f2
    refine p _ H2 _ (D :: G) s9 (f1.trans f9 s1.sl_live) (fun z => ?_) ?_
    · simp only [Bool.and_eq_true] at z
      obtain ⟨y1, y2⟩ := u2 z.2.1 z.2.2
      obtain ⟨y3, y4⟩ := u1 z.1
      refine ⟨by rw [y1, ← hL, merge_quiet, y3], y4.ext.trans y2.ext, fun a n => ?_⟩
      have n1 := f1.live a n
      by_cases c : ∃ k ∈ L, O1 a = .sl k
      · obtain ⟨k, hk, e⟩ := c
        rw [freeT_sl e hk, ← e, y4.own a n]
      · have c' : ∀ k ∈ L, O1 a ≠ .sl k := fun k hk e => c ⟨k, hk, e⟩
        rw [freeT_ne c', y2.own a n1, lockT_ne c', y4.own a n]
    · have oe := va.own_all
      have hD0 : H D = none := by
        cases z : H D with
        | none => rfl
        | some o => exact absurd hD (f1.live D (by rw [z]; simp))
      have fe : ∀ a, O2 a = .no → (freeT L O1 O2 a = .no) := fun a h => by
        rw [freeT_ne fun k hk z => ?_, h]
        rw [f2.lk a (lockT_sl z hk)] at h; cases h
      have ro : RepDs K H2 dsF acc G := va.owns (ownsOf_map dsF)
      refine ⟨.lst hD2 ro, List.nodup_cons.mpr ⟨hDG, oe.1⟩, fun a ha => ?_⟩
      rcases List.mem_cons.mp ha with rfl | ha
      · exact ⟨fe _ oD2, by rw [hD2]; trivial, .inl hD0⟩
      · obtain ⟨c1, c2, c3⟩ := oe.2 a ha
        refine ⟨fe a c1, c2, ?_⟩
        have c4 : H1 a = none ∨ ∃ i, O1 a = .sl i := c3.imp id fun ⟨i, z⟩ => by
          rcases lockT_cases L O1 a with ⟨h1, _⟩ | ⟨h1, _⟩
          · rw [h1] at z; cases z
          · exact ⟨i, by rw [← h1, z]⟩
        by_cases n : H a = none
        · exact .inl n
        · rcases c4 with c4 | ⟨i, c4⟩
          · exact absurd c4 (f1.live a n)
          · refine .inr ?_
            cases q : O a with
            | no => rw [f1.no a n q] at c4; cases c4
            | sl j => exact ⟨j, rfl⟩
            | fz => rw [f1.fz a q] at c4; cases c4
            | lk => rw [f1.lk a q] at c4; cases c4
end
end Wv

set_option Elab.async false
set_option linter.all false
set_option maxRecDepth 100000
namespace Wv
open PySem PySem.Spec PyProof.Rows L2
section
variable {X : Cx} {vp : List Nat} {q q1 q2 q3 : Bool} {f : Fe} {T : Ft} {src : Fi} {t : Tgt} {own : List (Str × Nat)} {elt tg iter : Expr} {ifs : List Expr} {scope : Scope} {pos : Pos}
theorem ts_nil : PTs X [] (TTs X.K true yesT) := ⟨fun pins s σ H Q I ⟨O, ρ, b, ρ', sr, e, p⟩ => by
  cases e
  exact pts_nil.run pins s σ H Q I (p H O sr Fr.refl fun _ => ⟨rfl, Qu.refl⟩)⟩
theorem ts_one {c : Expr} (h : PT X c (TTs X.K q T)) : PTs X [c] (TTs X.K q T) := pts_one h
theorem e_lc (hc : X.calm = true) (hN : X.N.Nodup) (hi : PI X tg iter (TIs X.K q1 src)) (ok : BlkOk X.N X.env.scope scope own) (ht : ∀ i ∈ t.slots, i ∈ own.map (·.2))
    (hg : ∀ (s : Shared) (H : Hp) (C : Addr) (cl : List (Str × Addr)) (fp : List Addr), PG (X.blk s H scope (compEnvC scope cl C X.env) fp) tg (gT X.K t))
    (hT : ∀ (s : Shared) (H : Hp) (C : Addr) (cl : List (Str × Addr)) (fp : List Addr), PTs (X.blk s H scope (compEnvC scope cl C X.env) fp) ifs (TTs X.K q2 T))
    (he : ∀ (s : Shared) (H : Hp) (C : Addr) (cl : List (Str × Addr)) (fp : List Addr), PE (X.blk s H scope (compEnvC scope cl C X.env) fp) elt (TEs X.K q3 f)) (hs : ∀ x, foldedSetIterable iter X.env x = pure x) :
    PE X (.ListComp elt [⟨tg, iter, ifs, 0⟩] scope pos) (TEs X.K (q1 && (q2 && q3)) (lcM (own.map (·.2)) src t T f)) :=
  (pe_lc hc hN hi ok hg hT he hs).imp fun σ H Q w => tLc_of ht w
/-- y = [..] on one line -/
theorem s_setLc {i : Nat} {y : Str} {py spos : Pos} (hc : X.calm = true) (hN : X.N.Nodup) (hy : X.N[i]? = some y) (hyl : X.env.scope.names.lookup y = some .local)
    (hsw : swapsWith (.ListComp elt [⟨tg, iter, ifs, 0⟩] scope pos) (some (.Name y py)) spos.line X.env = pure true) (hi : PI X tg iter (TIs X.K q1 src)) (ok : BlkOk X.N X.env.scope scope own) (ht : ∀ i ∈ t.slots, i ∈ own.map (·.2))
    (hg : ∀ (s : Shared) (H : Hp) (C : Addr) (cl : List (Str × Addr)) (fp : List Addr), PG (X.blk s H scope (compEnvC scope cl C X.env) fp) tg (gT X.K t))
    (hT : ∀ (s : Shared) (H : Hp) (C : Addr) (cl : List (Str × Addr)) (fp : List Addr), PTs (X.blk s H scope (compEnvC scope cl C X.env) fp) ifs (TTs X.K q2 T))
    (he : ∀ (s : Shared) (H : Hp) (C : Addr) (cl : List (Str × Addr)) (fp : List Addr), PE (X.blk s H scope (compEnvC scope cl C X.env) fp) elt (TEs X.K q3 f)) (hs : ∀ x, foldedSetIterable iter X.env x = pure x) (hv : vp.contains i = false) :
    PS X (.Assign [.Name y py] (.ListComp elt [⟨tg, iter, ifs, 0⟩] scope pos) spos) (TSs X.K vp (setM i (lcM (own.map (·.2)) src t T f))) :=
  (ps_setLc hc hN hy hyl hsw hi ok hg hT he hs).imp fun D σ H ⟨O, ρ, u, s, e, p⟩ => by
    unfold setM at e
    obtain ⟨⟨r, ρ1⟩, e1, e⟩ := R.bind_eq e
    obtain ⟨ρ2, e2, e⟩ := R.bind_eq e
    cases e
    refine tLc_of (q1 := q1) (q2 := q2) (q3 := q3) ht ⟨O, ρ, r, ρ1, s, e1, fun v H' O' F s' f' _ w => ?_⟩
    obtain ⟨O2, s2, f2⟩ := s'.store f' w e2
    exact p _ H' O2 s2 f2 (KeepS.set hv)

/-! ## targets -/
theorem g_nm {i : Nat} {x : Str} (hN : X.N.Nodup) (hi : X.N[i]? = some x) (hx : Loc X.env.scope x) (hf : X.fn x = true ∨ X.env.scope.names.lookup x = some .local) : PG X (.Name x pos) (gT X.K (.nm i)) := pg_name hN hi hx hf
theorem gs_nil : PGs X [] (gNms []) := pgs_nil
theorem gs_cons {i : Nat} {x : Str} {es : List Expr} {is : List Nat} (hN : X.N.Nodup) (hi : X.N[i]? = some x) (hx : Loc X.env.scope x) (hf : X.fn x = true ∨ X.env.scope.names.lookup x = some .local) (h : PGs X es (gNms is)) : PGs X (.Name x pos :: es) (gNms (i :: is)) :=
  pgs_cons (pg_name hN hi hx hf) h

/-! ## for -/
/-- the items' turns -/
def forL (t : Tgt) (f : Fs) : List Itm → Fs
  | [], ρ => .ok (.nx ρ)
  | it :: r, ρ => (tgM false t it ρ).bind fun ρa => (f ρa).bind fun u => match u with
    | .nx ρ' => forL t f r ρ'
    | .ct ρ' => forL t f r ρ'
    | .bk ρ' => .ok (.nx ρ')
    | .rt r ρ' => .ok (.rt r ρ')
def forM (src : Fi) (t : Tgt) (f : Fs) : Fs := fun ρ => (src ρ).bind fun z => if z.2.1.isEmpty = true then forL t f z.1 z.2.2 else .no
theorem s_for {fb : Fs} {B : List Stmt} (hp : PassesOwn (model X.prog X.w) X.A X.env X.xe) (hc : X.calm = true) (hi : PI X tg iter (TIs X.K q src)) (hg : PG X tg (gT X.K t)) (hb : PSs X B (TSs X.K vp fb)) (hs : ∀ x, foldedSetIterable iter X.env x = pure x)
    (hv : ∀ i ∈ t.slots, i ∉ vp) : PS X (.For tg iter B [] pos) (TSs X.K vp (forM src t fb)) :=
  (ps_for hp hc hi hg hb hs).imp fun D σ H ⟨O, ρ, u, s, e, p⟩ => by
    unfold forM at e
    obtain ⟨⟨items, xs, ρ1⟩, e1, e⟩ := R.bind_eq e
    simp only at e
    split at e <;> first | cases e | skip
    rename_i hx
    have hx : xs = [] := List.isEmpty_iff.mp hx
    subst hx
    refine ⟨O, ρ, items, [], ρ1, s, e1, fun J H1 O1 B1 s1 f1 _ tB S => ?_⟩
    have bok : BOk false O1 B1 := fun a ha => by
      rcases tB a ha with z | ⟨x, hx, _⟩
      · exact z
      · cases hx
    refine ⟨fun i m σ' H' => m = items.length - i ∧ i ≤ items.length ∧ ∃ O' ρ', SR X.K O' H' σ' ρ' ∧ Fr O1 H1 O' H' ∧ KeepS vp σ σ' ∧ forL t fb (items.drop i) ρ' = .ok u,
      ⟨items.length, by simp, Nat.zero_le _, O1, ρ1, s1, Fr.refl, KeepS.refl, by simpa using e⟩, ?_⟩
    rintro i m σ2 H2 ⟨rfl, hi, O2, ρ2, s2, f2, k2, e2⟩
    have kp2 : Kp B1 H1 H2 := kp_of (L := []) s1 f2 bok.stl
    by_cases hlt : i < items.length
    · refine .inr ⟨S.go i H2 hlt kp2, fun σ' H' => ∃ O' ρ', SR X.K O' H' σ' ρ' ∧ Fr O1 H1 O' H' ∧ KeepS vp σ σ' ∧ forL t fb (items.drop (i + 1)) ρ' = .ok u, fun σ' H' z => ⟨items.length - (i + 1), by omega, rfl, hlt, z⟩, fun x H3 hy => ?_⟩
      obtain ⟨itm, hitm⟩ : ∃ itm, items[i]? = some itm := ⟨items[i], List.getElem?_eq_getElem hlt⟩
      obtain ⟨x3, w3⟩ := S.yld i H2 x H3 itm kp2 hy hitm
      have hdrop : items.drop i = itm :: items.drop (i + 1) := by
        rw [List.drop_eq_getElem_cons hlt]
        rw [List.getElem?_eq_getElem hlt] at hitm
        rw [Option.some.inj hitm]
      rw [hdrop] at e2
      obtain ⟨ρa, e4, e2⟩ := R.bind_eq (show (tgM false t itm ρ2).bind _ = .ok u from e2)
      have s3 := s2.ext x3
      have f3 := f2.trans (Fr.ext (O := O2) x3) s2.sl_live
      refine tg_ok s3 e4 w3 (bok.fr f3) fun σ4 O4 s4 f4 _ st4 => ?_
      have f14 := f3.trans f4 s3.sl_live
      have k4 : KeepS vp σ σ4 := k2.trans ⟨st4.1, fun j hj => st4.2 j fun z => hv j z hj⟩
      obtain ⟨u1, e5, e6⟩ := R.bind_eq e2
      refine ⟨O4, ρa, u1, s4, e5, ?_⟩
      cases u1 with
      | nx ρ5 => exact fun σ5 H5 O5 s5 f5 k5 => ⟨O5, ρ5, s5, f14.trans f5 s4.sl_live, k4.trans k5, e6⟩
      | ct ρ5 => exact fun σ5 H5 O5 s5 f5 k5 => ⟨O5, ρ5, s5, f14.trans f5 s4.sl_live, k4.trans k5, e6⟩
      | bk ρ5 =>
        cases e6
        exact fun σ5 H5 O5 s5 f5 k5 => p σ5 H5 O5 s5 ((f1.trans f14 s1.sl_live).trans f5 s4.sl_live) (k4.trans k5)
      | rt r ρ5 =>
        cases e6
        exact fun v σ5 H5 O5 F s5 f5 k5 w => p v σ5 H5 O5 F s5 ((f1.trans f14 s1.sl_live).trans f5 s4.sl_live) (k4.trans k5) (w.from (f1.trans f14 s1.sl_live))
    · obtain rfl : i = items.length := by omega
      refine .inl ⟨S.stop H2 kp2, ?_⟩
      rw [List.drop_length] at e2
      cases e2
      exact p σ2 H2 O2 s2 (f1.trans f2 s1.sl_live) k2
end
end Wv

set_option Elab.async false
set_option linter.all false
set_option maxRecDepth 100000
namespace Wv
open PySem PySem.Spec PyProof.Rows L2

/-! ## built-ins by name -/
abbrev Lr1 (rel : V → Hp → VK → Prop) : List V → Hp → VK → Prop := fun vs H Q => ∀ x, vs = [x] → rel x H Q
def tyName : Dt → Option String
  | .im .non => some "NoneType"
  | .im (.bl _) => some "bool"
  | .im (.int _) => some "int"
  | .im (.str _) => some "str"
  | .im (.tup _) => some "tuple"
  | .lst _ => some "list"
  | _ => none
def isSub (a b : String) : Bool := a == b || (a == "bool" && b == "int")
def isiH (T : String) : List Vl → R Vl
  | [a] => match tyName a.d with
    | some t => .ok (vB (isSub t T))
    | none => .no
  | _ => .no
def lenH : List Vl → R Vl
  | [a] => match a.d with
    | .lst l => .ok (vI l.length)
    | .im (.tup l) => .ok (vI l.length)
    | .im (.str x) => if x.length ≤ SZ then .ok (vI x.length) else .no
    | .dic _ l => .ok (vI l.length)
    | _ => .no
  | _ => .no
def intH : List Vl → R Vl
  | [.o (.im (.int i))] => .ok (vI i)
  | [.o (.im (.bl b))] => .ok (vI (if b then 1 else 0))
  | _ => .no
def absH : List Vl → R Vl
  | [.o (.im (.int i))] => .ok (vI (if i < 0 then -i else i))
  | _ => .no
def max2H : List Vl → R Vl := int2 (fun _ _ => true) fun i j => .int (if j > i then j else i)
def min2H : List Vl → R Vl := int2 (fun _ _ => true) fun i j => .int (if j < i then j else i)
def intsOf : List Dt → Option (List Int)
  | [] => some []
  | .im (.int i) :: r => (intsOf r).map (i :: ·)
  | _ => none
def blsOf : List Dt → Option (List Bool)
  | [] => some []
  | .im (.bl i) :: r => (blsOf r).map (i :: ·)
  | _ => none
theorem intsOf_map : ∀ l : List Int, intsOf (l.map fun i => .im (.int i)) = some l
  | [] => rfl
  | i :: r => by rw [List.map_cons]; simp [intsOf, intsOf_map r]
theorem blsOf_map : ∀ l : List Bool, blsOf (l.map fun i => .im (.bl i)) = some l
  | [] => rfl
  | i :: r => by rw [List.map_cons]; simp [blsOf, blsOf_map r]
def lstOf (a : Vl) : Option (List Dt) := match a.d with
  | .lst l => some l
  | _ => none
def maxI : List Int → Option Int
  | [] => none
  | a :: r => some (r.foldl (fun m x => if m < x then x else m) a)
def minI : List Int → Option Int
  | [] => none
  | a :: r => some (r.foldl (fun m x => if x < m then x else m) a)
def anyH (all : Bool) : List Vl → R Vl
  | [a] => match (lstOf a).bind blsOf with
    | some bs => .ok (vB (if all then bs.all id else bs.any id))
    | none => .no
  | _ => .no
/-- list(x), x a list, a tuple, the script -/
def listH : List Vl → R Vl
  | [a] => match a.d with
    | .lst l => if l.all Dt.isIm = true then .ok (.o (.lst l)) else .no
    | .im (.tup l) => .ok (.o (.lst (l.map .im)))
    | .scr l => .ok (.o (.lst (l.map fun i => .im (.int i))))
    | _ => .no
  | _ => .no
def dimOf : List Dt → Option (List Im)
  | [] => some []
  | .im i :: r => (dimOf r).map (i :: ·)
  | _ => none
theorem dimOf_map : ∀ l : List Im, dimOf (l.map .im) = some l
  | [] => rfl
  | i :: r => by rw [List.map_cons]; simp [dimOf, dimOf_map r]
def tupleH : List Vl → R Vl
  | [a] => match a.d with
    | .lst l => match dimOf l with
      | some m => .ok (.o (.im (.tup m)))
      | none => .no
    | .im (.tup l) => .ok (.o (.im (.tup l)))
    | _ => .no
  | _ => .no
section
variable {X : Cx} {K : PySem.W.Frag} {q : Bool} {f : Fe}
theorem RepDs.dims {H : Hp} : ∀ {l : List Dt} {vs : List V} {F : List Addr} {m : List Im}, RepDs K H l vs F → dimOf l = some m → RepIs K H m vs
  | [], _, _, _, h, e => by cases h; cases e; exact .nil
  | .im i :: r, _, _, m, h, e => by
    simp only [dimOf, Option.map_eq_some_iff] at e
    obtain ⟨m', e, rfl⟩ := e
    cases h with | cons a b => exact .cons a.im_inv (RepDs.dims b e)
  | .lst _ :: _, _, _, _, _, e => by cases e
  | .dic _ _ :: _, _, _, _, _, e => by cases e
  | .scr _ :: _, _, _, _, _, e => by cases e
  | .tpl _ :: _, _, _, _, _, e => by cases e
theorem RepDs.ints {H : Hp} : ∀ {l : List Dt} {vs : List V} {F : List Addr} {m : List Int}, RepDs K H l vs F → intsOf l = some m → vs = m.map V.int
  | [], _, _, _, h, e => by cases h; cases e; rfl
  | .im i :: r, _, _, m, h, e => by
    cases i <;> first | cases e | skip
    simp only [intsOf, Option.map_eq_some_iff] at e
    obtain ⟨m', e, rfl⟩ := e
    cases h with | cons a b => rw [a.int_inv, RepDs.ints b e, List.map_cons]
  | .lst _ :: _, _, _, _, _, e => by cases e
  | .dic _ _ :: _, _, _, _, _, e => by cases e
  | .scr _ :: _, _, _, _, _, e => by cases e
  | .tpl _ :: _, _, _, _, _, e => by cases e
theorem RepDs.bls {H : Hp} : ∀ {l : List Dt} {vs : List V} {F : List Addr} {m : List Bool}, RepDs K H l vs F → blsOf l = some m → vs = m.map V.bl
  | [], _, _, _, h, e => by cases h; cases e; rfl
  | .im i :: r, _, _, m, h, e => by
    cases i <;> first | cases e | skip
    simp only [blsOf, Option.map_eq_some_iff] at e
    obtain ⟨m', e, rfl⟩ := e
    cases h with | cons a b => rw [a.im_inv.bl_inv, RepDs.bls b e, List.map_cons]
  | .lst _ :: _, _, _, _, _, e => by cases e
  | .dic _ _ :: _, _, _, _, _, e => by cases e
  | .scr _ :: _, _, _, _, _, e => by cases e
  | .tpl _ :: _, _, _, _, _, e => by cases e
theorem lstOf_some {a : Vl} {l : List Dt} (h : lstOf a = some l) : a.d = .lst l := by
  unfold lstOf at h
  split at h <;> cases h
  assumption
theorem pu_any (all : Bool) : PuN K (fun vs H Q => ∃ (a : Addr) (bs : List Bool), vs = [V.ref a] ∧ SqL K H a (bs.map V.bl) ∧ Q (.bl (if all then bs.all id else bs.any id)) H) (anyH all) := by
  intro O H O' H' rs vs G r Q e lv gr w p
  unfold anyH at e
  split at e <;> first | cases e | skip
  split at e <;> cases e
  rename_i bs hb
  obtain ⟨l, h1, h2⟩ := Option.bind_eq_some_iff.mp hb
  obtain ⟨v, F, rfl, k⟩ := one_ok w
  obtain ⟨a, xs, G, rfl, h3, h4⟩ := k.lst (lstOf_some h1)
  exact ⟨a, bs, rfl, by rw [← h4.bls h2]; exact .of h3, p _ H' [] (Ext.refl _) (.imm .bl)⟩
theorem pu_len : PuN K (fun xs H Q => (∃ x n, xs = [x] ∧ LenV K x H n ∧ Q (.int n) H) ∨ (∃ p kvs, xs = [.ref p] ∧ Rd H p (.dK kvs) ∧ Q (.int (kvs.length : Nat)) H) ∨ ∃ p kvs, xs = [.ref p] ∧ Rd H p (.dT kvs) ∧ Q (.int (kvs.length : Nat)) H) lenH := by
  intro O H O' H' rs vs G r Q e lv gr w p
  unfold lenH at e
  split at e <;> first | cases e | skip
  rename_i a
  obtain ⟨v, F, rfl, k⟩ := one_ok w
  have kr := k.rep
  split at e <;> first | cases e | skip
  · rename_i l hl
    rw [hl] at kr
    obtain ⟨b, xs, G, rfl, _, h3, h4⟩ := kr.lst_inv
    exact .inl ⟨_, l.length, rfl, .inl ⟨xs, .of h3, h4.len⟩, p _ H' [] (Ext.refl _) (.imm .int)⟩
  · rename_i l hl
    rw [hl] at kr
    obtain ⟨b, xs, rfl, h3, h4⟩ := kr.im_inv.tup_inv
    exact .inl ⟨_, l.length, rfl, .inr ⟨xs, .of h3, h4.len⟩, p _ H' [] (Ext.refl _) (.imm .int)⟩
  · rename_i x hl
    split at e <;> cases e
    rename_i hz
    rw [hl] at kr
    obtain rfl := kr.im_inv.str_inv
    exact .inl ⟨_, x.length, rfl, ⟨hz, rfl⟩, p _ H' [] (Ext.refl _) (.imm .int)⟩
  · rename_i t l hl
    rw [hl] at kr
    cases kr with
    | @dicK _ b kvs G r e1 e2 =>
      have el : l.length = kvs.length := by have := congrArg List.length e1.1; simpa using this
      refine .inr (.inl ⟨b, kvs, rfl, r, ?_⟩)
      rw [← el]
      exact p _ H' [] (Ext.refl _) (.imm .int)
    | @dicT _ b kvs G r e1 e2 =>
      have el : l.length = kvs.length := by have := congrArg List.length e1.1; simpa using this
      refine .inr (.inr ⟨b, kvs, rfl, r, ?_⟩)
      rw [← el]
      exact p _ H' [] (Ext.refl _) (.imm .int)
theorem cr_lenD : CallR X (.builtin "len") (fun xs H Q => (∃ x n, xs = [x] ∧ LenV X.K x H n ∧ Q (.int n) H) ∨ (∃ p kvs, xs = [.ref p] ∧ Rd H p (.dK kvs) ∧ Q (.int (kvs.length : Nat)) H) ∨ ∃ p kvs, xs = [.ref p] ∧ Rd H p (.dT kvs) ∧ Q (.int (kvs.length : Nat)) H) := by
  intro pins s σ H xs us Q I r h
  rcases h with h | ⟨p, kvs, rfl, hp, q⟩ | ⟨p, kvs, rfl, hp, q⟩
  · exact call_len pins s σ H xs us Q I r h
  · obtain ⟨u, rfl, rx⟩ := vals1 r
    obtain rfl : u = .ref p := rx
    exact d_len I hp fun t s' I' => ⟨.int (kvs.length : Nat), H, I', ⟨_, rfl⟩, q⟩
  · obtain ⟨u, rfl, rx⟩ := vals1 r
    obtain rfl : u = .ref p := rx
    obtain ⟨z, hd, ys, rel, dd⟩ := dt_rd I.hok hp
    have hl : kvs.length = ys.length := Paired.length rel
    refine call_len_dictH hd dd (by rw [← hl]; rw [sizeLine_eq] at z; omega) ?_
    rw [← hl]
    exact ⟨.int ((kvs.length : Nat) : Int), H, I.tok _, ⟨_, rfl⟩, q⟩
theorem pu_int : PuN K (fun xs H Q => (∃ i, xs = [.int i] ∧ Q (.int i) H) ∨ ∃ k, xs = [.bl k] ∧ Q (.int (if k then 1 else 0)) H) intH := by
  intro O H O' H' rs vs G r Q e lv gr w p
  unfold intH at e
  split at e <;> first | cases e | skip
  · obtain ⟨v, F, rfl, k⟩ := one_ok w
    obtain rfl := k.1.im_inv.int_inv
    exact .inl ⟨_, rfl, p _ H' [] (Ext.refl _) (.imm .int)⟩
  · obtain ⟨v, F, rfl, k⟩ := one_ok w
    obtain rfl := k.1.im_inv.bl_inv
    exact .inr ⟨_, rfl, p _ H' [] (Ext.refl _) (.imm .int)⟩
theorem pu_abs : PuN K (fun xs H Q => ∃ i, xs = [.int i] ∧ Q (.int (if i < 0 then -i else i)) H) absH := by
  intro O H O' H' rs vs G r Q e lv gr w p
  unfold absH at e
  split at e <;> first | cases e | skip
  obtain ⟨v, F, rfl, k⟩ := one_ok w
  obtain rfl := k.1.im_inv.int_inv
  exact ⟨_, rfl, p _ H' [] (Ext.refl _) (.imm .int)⟩
theorem pu_two {c : Int → Int → Bool} {g : Int → Int → Int} : PuN K (fun xs H Q => ∃ i j, xs = [.int i, .int j] ∧ Q (.int (g i j)) H) (int2 c fun i j => .int (g i j)) := by
  intro O H O' H' rs vs G r Q e lv gr w p
  unfold int2 at e
  split at e <;> first | cases e | skip
  split at e <;> cases e
  obtain ⟨v, v2, F, F2, rfl, k, k2⟩ := two_ok w
  obtain rfl := k.1.im_inv.int_inv
  obtain rfl := k2.1.im_inv.int_inv
  exact ⟨_, _, rfl, p _ H' [] (Ext.refl _) (.imm .int)⟩
theorem RepDs.of_vals {H : Hp} : ∀ (l : List Int), RepDs K H (l.map fun i => .im (.int i)) (l.map V.int) []
  | [] => .nil
  | i :: r => (List.append_nil ([] : List Addr)) ▸ RepDs.cons (.im .int) (RepDs.of_vals r)
theorem pu_list : PuN K (fun xs H Q => ∃ p ys, xs = [.ref p] ∧ (SqL K H p ys ∨ SqT K H p ys) ∧ ∀ l, H l = none → Q (.ref l) (upd H l (.lst ys))) listH := by
  intro O H O' H' rs vs G r Q e lv gr w p
  unfold listH at e
  split at e <;> first | cases e | skip
  rename_i a
  obtain ⟨v, F, rfl, k⟩ := one_ok w
  have kr := k.rep
  split at e <;> first | cases e | skip
  · rename_i l hl
    split at e <;> cases e
    rename_i ha
    rw [hl] at kr
    obtain ⟨b, xs, G, rfl, _, h3, h4⟩ := kr.lst_inv
    obtain rfl := h4.ims ha
    exact ⟨b, xs, rfl, .inl (.of h3), fun q hq => p _ _ _ (Ext.upd hq) (newL_im h4 lv gr hq)⟩
  · rename_i l hl
    rw [hl] at kr
    obtain ⟨b, xs, rfl, h3, h4⟩ := kr.im_inv.tup_inv
    exact ⟨b, xs, rfl, .inr (.of h3), fun q hq => p _ _ _ (Ext.upd hq) (newL_im h4.ds lv gr hq)⟩
  · rename_i l hl
    rw [hl] at kr
    cases kr with
    | @scr _ b h3 => exact ⟨b, l.map V.int, rfl, .inl (h3 H' fun _ _ h _ => h), fun q hq => p _ _ _ (Ext.upd hq) (newL_im (RepDs.of_vals l) lv gr hq)⟩
theorem pu_tuple : PuN K (fun xs H Q => ∃ p ys, xs = [.ref p] ∧ ((SqL K H p ys ∧ ∀ l, H l = none → Q (.ref l) (upd H l (.tup ys))) ∨ (SqT K H p ys ∧ Q (.ref p) H))) tupleH := by
  intro O H O' H' rs vs G r Q e lv gr w p
  unfold tupleH at e
  split at e <;> first | cases e | skip
  rename_i a
  obtain ⟨v, F, rfl, k⟩ := one_ok w
  have kr := k.rep
  split at e <;> first | cases e | skip
  · rename_i l hl
    split at e <;> cases e
    rename_i m hm
    rw [hl] at kr
    obtain ⟨b, xs, G, rfl, _, h3, h4⟩ := kr.lst_inv
    exact ⟨b, xs, rfl, .inl ⟨.of h3, fun q hq => p _ _ [] (Ext.upd hq) (newT_im (h4.dims hm) hq)⟩⟩
  · rename_i l hl
    rw [hl] at kr
    obtain ⟨b, xs, rfl, h3, h4⟩ := kr.im_inv.tup_inv
    exact ⟨b, xs, rfl, .inr ⟨.of h3, p _ H' [] (Ext.refl _) (.imm (.tup h3 h4))⟩⟩
theorem isi_tab : ∀ a ∈ ["NoneType", "bool", "int", "str", "tuple", "list"], ∀ b ∈ ["bool", "int", "str", "tuple", "list", "dict"], kitB a b = some (isSub a b) := by decide +kernel
end
end Wv

set_option Elab.async false
set_option linter.all false
set_option maxRecDepth 100000
namespace Wv
open PySem PySem.Spec PyProof.Rows L2

/-! ## one's own value changed where it stands -/
section
variable {K : PySem.W.Frag} {O O' O1 O2 : Ow} {H H' H1 H2 : Hp} {σ : St} {ρ ρ' : Ev} {r : Vl} {v w : V} {F G E : List Addr} {d e : Dt}
theorem SR.mut {i : Nat} {a : Addr} {o : HO} {d' : Dt} (s : SR K O' H' σ ρ) (f : Fr O H O' H') (hi : i < ρ.length) (hσ : σ[i]? = some (some v)) (ha : O' a = .sl i) (hm : Mut (some o))
    (hG : ∀ x ∈ G, O' x = .sl i ∨ (O' x = .no ∧ Mut (H' x) ∧ H' x ≠ none ∧ (H x = none ∨ ∃ i, O x = .sl i)))
    (hd : RepD K (upd H' a o) d' v G) (nd : G.Nodup) : SR K (give O' i G) (upd H' a o) σ (ρ.set i (.o d')) ∧ Fr O H (give O' i G) (upd H' a o) := by
  have haM := s.own a i ha
  have ne : ∀ x, O' x ≠ .no → O' x ≠ .sl i → x ∉ G := fun x h1 h2 hx => (hG x hx).elim h2 fun z => h1 z.1
  have nea : ∀ x, O' x ≠ .sl i → x ≠ a := fun x h e => h (by rw [e, ha])
  have kt : KTup H' (upd H' a o) := fun x u hx hu => by
    by_cases c : x = a
    · subst c; rw [hx] at haM; exact absurd haM hu
    · rw [upd_ne c]; exact hx
  have lv : ∀ x, H' x ≠ none → upd H' a o x ≠ none := fun x hx => by
    by_cases c : x = a
    · subst c; rw [upd_same]; simp
    · rw [upd_ne c]; exact hx
  have mt : ∀ x, Mut (H' x) → Mut (upd H' a o x) := fun x hx => by
    by_cases c : x = a
    · subst c; rw [upd_same]; exact hm
    · rw [upd_ne c]; exact hx
  refine ⟨⟨fun j y e => ?_, fun x j e => ?_, fun x e => ?_, by rw [List.length_set]; exact s.len⟩, ⟨fun x u hx hn => ?_, fun x n e => ?_, fun x e => ?_, fun x e => ?_, fun x e => ?_, fun x e => lv x (f.live x e)⟩⟩
  · by_cases hj : j = i
    · subst hj
      rw [List.getElem?_set_self hi] at e; cases e
      exact ⟨v, G, hσ, hd, nd, fun x hx => by unfold give; rw [if_pos hx]⟩
    · rw [List.getElem?_set_ne (Ne.symm hj)] at e
      have h := s.slot j y e
      cases y with
      | e => trivial
      | o d =>
        obtain ⟨v, F, h1, h2, h3, h4⟩ := h
        have n1 : ∀ x ∈ F, O' x ≠ .sl i := fun x hx => by rw [h4 x hx]; intro z; exact hj (Tg.sl.inj z)
        exact ⟨v, F, h1, h2.keep kt fun x hx => upd_ne (nea x (n1 x hx)), h3, fun x hx => by rw [give_ne (ne x (by rw [h4 x hx]; simp) (n1 x hx)) (n1 x hx), h4 x hx]⟩
      | s d =>
        obtain ⟨v, F, h1, h2, h4⟩ := h
        have n1 : ∀ x ∈ F, O' x ≠ .sl i := fun x hx => by rw [h4 x hx]; simp
        exact ⟨v, F, h1, h2.keep kt fun x hx => upd_ne (nea x (n1 x hx)), fun x hx => by rw [give_ne (ne x (by rw [h4 x hx]; simp) (n1 x hx)) (n1 x hx), h4 x hx]⟩
      | l d =>
        obtain ⟨v, F, h1, h2, h4⟩ := h
        have n1 : ∀ x ∈ F, O' x ≠ .sl i := fun x hx => (h4 x hx).ne_sl
        exact ⟨v, F, h1, h2.keep kt fun x hx => upd_ne (nea x (n1 x hx)), fun x hx => by rw [give_ne (ne x (h4 x hx).ne_no (n1 x hx)) (n1 x hx)]; exact h4 x hx⟩
  · by_cases hx : x ∈ G
    · rcases hG x hx with z | z
      · exact mt x (s.own x i z)
      · exact mt x z.2.1
    · unfold give at e
      rw [if_neg hx] at e
      split at e
      · cases e
      · exact mt x (s.own x j e)
  · by_cases hx : x ∈ G
    · rcases hG x hx with z | z
      · exact lv x (s.sl_live x i z)
      · exact lv x z.2.2.1
    · unfold give at e
      rw [if_neg hx] at e
      split at e
      · exact absurd rfl e
      · exact lv x (s.live x e)
  · have q := f.keep x u hx hn
    rw [upd_ne (nea x fun z => ?_)]
    · exact q
    · have hn' : H x ≠ none := by rw [hx]; simp
      cases p : O x with
      | no => rw [f.no x hn' p] at z; cases z
      | sl j => exact hn j p
      | fz => rw [f.fz x p] at z; cases z
      | lk => rw [f.lk x p] at z; cases z
  · have q := f.no x n e
    have hx : x ∉ G := fun hx => by
      rcases hG x hx with z | z
      · rw [q] at z; cases z
      · rcases z.2.2.2 with z | ⟨j, z⟩
        · exact n z
        · rw [e] at z; cases z
    rw [give_ne hx (by rw [q]; simp), q]
  · have q := f.fz x e
    rw [give_ne (ne x (by rw [q]; simp) (by rw [q]; simp)) (by rw [q]; simp), q]
  · have q := f.lk x e
    rw [give_ne (ne x (by rw [q]; simp) (by rw [q]; simp)) (by rw [q]; simp), q]
  · unfold give at e
    split at e
    · cases e
    · split at e
      · cases e
      · exact f.lk' x e
/-- where a slot's owner was before -/
theorem Fr.was {i : Nat} {x : Addr} (f : Fr O H O' H') (z : O' x = .sl i) : H x = none ∨ ∃ i, O x = .sl i := by
  by_cases n : H x = none
  · exact .inl n
  · cases p : O x with
    | no => rw [f.no x n p] at z; cases z
    | sl j => exact .inr ⟨j, rfl⟩
    | fz => rw [f.fz x p] at z; cases z
    | lk => rw [f.lk x p] at z; cases z

/-! ### parts of lists of data, with what they own -/
theorem RepDs.cut : ∀ {l1 : List Dt} {l2 : List Dt} {vs : List V} {F : List Addr}, RepDs K H (l1 ++ l2) vs F → ∃ vs1 vs2 F1 F2, vs = vs1 ++ vs2 ∧ F = F1 ++ F2 ∧ RepDs K H l1 vs1 F1 ∧ RepDs K H l2 vs2 F2
  | [], l2, vs, F, h => ⟨[], vs, [], F, rfl, rfl, .nil, h⟩
  | d :: l1, l2, _, _, h => by
    rw [List.cons_append] at h
    cases h with
    | @cons _ _ v vs F G a b =>
      obtain ⟨vs1, vs2, F1, F2, rfl, rfl, h1, h2⟩ := RepDs.cut b
      exact ⟨v :: vs1, vs2, F ++ F1, F2, rfl, (List.append_assoc _ _ _).symm, .cons a h1, h2⟩
theorem RepDs.mid {l1 : List Dt} {d : Dt} {l2 : List Dt} {vs : List V} {F : List Addr} (h : RepDs K H (l1 ++ d :: l2) vs F) :
    ∃ vs1 v vs2 F1 Fd F2, vs = vs1 ++ v :: vs2 ∧ F = F1 ++ (Fd ++ F2) ∧ l1.length = vs1.length ∧ RepDs K H l1 vs1 F1 ∧ RepD K H d v Fd ∧ RepDs K H l2 vs2 F2 := by
  obtain ⟨vs1, vs2, F1, F2, rfl, rfl, h1, h2⟩ := h.cut
  cases h2 with
  | cons a b => exact ⟨_, _, _, _, _, _, rfl, rfl, h1.len, h1, a, b⟩
theorem RepDs.keepU {l : List Dt} {vs : List V} {a : Addr} {o : HO} (h : RepDs K H l vs F) (n : a ∉ F) (m : Mut (H a)) : RepDs K (upd H a o) l vs F := h.keep (fun x u hx hu => by
    by_cases c : x = a
    · subst c; rw [hx] at m; exact absurd m hu
    · rw [upd_ne c]; exact hx) fun x hx => upd_ne fun e => n (e ▸ hx)
theorem RepD.keepU {a : Addr} {o : HO} (h : RepD K H d v F) (n : a ∉ F) (m : Mut (H a)) : RepD K (upd H a o) d v F := h.keep (fun x u hx hu => by
    by_cases c : x = a
    · subst c; rw [hx] at m; exact absurd m hu
    · rw [upd_ne c]; exact hx) fun x hx => upd_ne fun e => n (e ▸ hx)
theorem split_at {α : Type} {l : List α} {i : Nat} {d : α} (h : l[i]? = some d) : ∃ l1 l2, l = l1 ++ d :: l2 ∧ l1.length = i := by
  obtain ⟨hi, rfl⟩ := List.getElem?_eq_some_iff.mp h
  exact ⟨l.take i, l.drop (i + 1), by rw [List.getElem_cons_drop, List.take_append_drop], by rw [List.length_take]; omega⟩
end

/-! ### where in a slot -/
/-- w stands in v at that path -/
inductive HP (H : Hp) : V → List Im → V → Prop
  | nil {v} : HP H v [] v
  | lst {a vs i v p w} : H a = some (.lst vs) → atI vs i = some v → HP H v p w → HP H (.ref a) (.int i :: p) w
def pget : Dt → List Im → Option Dt
  | d, [] => some d
  | .lst l, .int i :: p => (atI l i).bind fun d => pget d p
  | _, _ => none
def setI {α : Type} (l : List α) (i : Int) (x : α) : List α := match ixN l.length i with
  | some j => l.set j x
  | none => l
def pset : Dt → List Im → Dt → Dt
  | _, [], e => e
  | .lst l, .int i :: p, e => match atI l i with
    | some d => .lst (setI l i (pset d p e))
    | none => .lst l
  | d, _, _ => d
end Wv

set_option Elab.async false
set_option linter.all false
set_option maxRecDepth 100000
namespace Wv
open PySem PySem.Spec PyProof.Rows L2

section
variable {K : PySem.W.Frag} {O O' O1 O2 : Ow} {H H' H1 H2 : Hp} {σ : St} {ρ ρ' : Ev} {r : Vl} {v w : V} {F G E : List Addr} {d e : Dt}
theorem HP.ext (x : Ext H H') {p : List Im} (h : HP H v p w) : HP H' v p w := by
  induction h with
  | nil => exact .nil
  | lst a b _ ih => exact .lst (x _ _ a) b ih
theorem HP.snoc {p : List Im} {a : Addr} {vs : List V} {i : Int} {u : V} (h : HP H v p w) (e : w = .ref a) (ha : H a = some (.lst vs)) (hi : atI vs i = some u) : HP H v (p ++ [.int i]) u := by
  induction h with
  | nil => subst e; exact .lst ha hi .nil
  | lst b c _ ih => exact .lst b c (ih e)
theorem RepD.atp : ∀ {p : List Im} {d : Dt} {v : V} {F : List Addr} {e : Dt}, RepD K H d v F → F.Nodup → pget d p = some e → HP H v p w →
    ∃ E, RepD K H e w E ∧ E.Nodup ∧ (∀ x ∈ E, x ∈ F) ∧ ∀ (a : Addr) (o : HO) (e' : Dt) (E' : List Addr), a ∈ E → Mut (H a) → RepD K (upd H a o) e' w E' → E'.Nodup → (∀ x ∈ E', x ∈ E ∨ x ∉ F) →
      ∃ F', RepD K (upd H a o) (pset d p e') v F' ∧ F'.Nodup ∧ ∀ x ∈ F', (x ∈ F ∧ x ∉ E) ∨ x ∈ E'
  | [], d, v, F, e, h, nd, g, hp => by
    cases hp
    simp only [pget] at g
    cases g
    exact ⟨F, h, nd, fun _ h => h, fun a o e' E' _ _ h2 n2 _ => ⟨E', by cases d <;> exact h2, n2, fun x hx => .inr hx⟩⟩
  | q :: p, d, v, F, e, h, nd, g, hp => by
    cases hp with
    | @lst a0 vs i v1 _ _ h1 h2 h3 =>
      cases h with
      | @lst l _ vs' G h4 h5 =>
        rw [h1] at h4; cases h4
        simp only [pget] at g
        obtain ⟨d1, e1, gg⟩ := Option.bind_eq_some_iff.mp g
        have e1' := e1
        unfold atI at e1 h2
        obtain ⟨j, j1, j2⟩ := Option.bind_eq_some_iff.mp e1
        rw [← h5.len, j1] at h2
        have h2 : vs[j]? = some v1 := h2
        obtain ⟨l1, l2, rfl, lj⟩ := split_at j2
        obtain ⟨vs1, v1', vs2, F1, Fd, F2, rfl, rfl, ll, r1, r2, r3⟩ := h5.mid
        have : v1' = v1 := by
          have : (vs1 ++ v1' :: vs2)[vs1.length]? = some v1' := by simp
          rw [← ll, lj, h2] at this
          exact (Option.some.inj this).symm
        subst this
        have nd' := nd
        rw [List.nodup_cons] at nd
        obtain ⟨na, nd⟩ := nd
        obtain ⟨n1, n2, n3⟩ := List.nodup_append.mp nd
        obtain ⟨n4, n5, n6⟩ := List.nodup_append.mp n2
        obtain ⟨E, k1, k2, k3, k4⟩ := RepD.atp r2 n4 gg h3
        have sub : ∀ x ∈ Fd, x ∈ a0 :: (F1 ++ (Fd ++ F2)) := fun x hx => List.mem_cons_of_mem _ (List.mem_append_right _ (List.mem_append_left _ hx))
        refine ⟨E, k1, k2, fun x hx => sub x (k3 x hx), fun a o e' E' ha hm q1 q2 q3 => ?_⟩
        obtain ⟨F', m1, m2, m3⟩ := k4 a o e' E' ha hm q1 q2 fun x hx => (q3 x hx).imp id fun z y => z (sub x y)
        have haF := k3 a ha
        have a1 : a ≠ a0 := fun z => na (z ▸ List.mem_append_right _ (List.mem_append_left _ haF))
        have a2 : a ∉ F1 := fun z => n3 a z a (List.mem_append_left _ haF) rfl
        have a3 : a ∉ F2 := fun z => n6 a haF a z rfl
        have e2 : pset (.lst (l1 ++ d1 :: l2)) (.int i :: p) e' = .lst (l1 ++ pset d1 p e' :: l2) := by
          simp only [pset, e1']
          unfold setI
          rw [j1]
          show Dt.lst ((l1 ++ d1 :: l2).set j _) = _
          rw [← lj, List.set_append_right _ _ (Nat.le_refl _)]
          simp
        have inF : ∀ x ∈ F', x ∈ Fd ∨ x ∉ a0 :: (F1 ++ (Fd ++ F2)) := fun x hx => by
          rcases m3 x hx with ⟨z, _⟩ | z
          · exact .inl z
          · exact (q3 x z).imp (k3 x) id
        refine ⟨a0 :: (F1 ++ (F' ++ F2)), ?_, ?_, fun x hx => ?_⟩
        · rw [e2]
          exact .lst (by rw [upd_ne (Ne.symm a1)]; exact h1) ((r1.keepU a2 hm).append (.cons m1 (r3.keepU a3 hm)))
        · rw [List.nodup_cons]
          refine ⟨fun z => ?_, List.nodup_append.mpr ⟨n1, List.nodup_append.mpr ⟨m2, n5, ?_⟩, ?_⟩⟩
          · rcases List.mem_append.mp z with z | z
            · exact na (List.mem_append_left _ z)
            · rcases List.mem_append.mp z with z | z
              · rcases inF _ z with y | y
                · exact na (List.mem_append_right _ (List.mem_append_left _ y))
                · exact y List.mem_cons_self
              · exact na (List.mem_append_right _ (List.mem_append_right _ z))
          · intro x hx y hy
            rcases inF _ hx with z | z
            · exact n6 x z y hy
            · rintro rfl; exact z (List.mem_cons_of_mem _ (List.mem_append_right _ (List.mem_append_right _ hy)))
          · intro x hx y hy
            rcases List.mem_append.mp hy with hy | hy
            · rcases inF _ hy with z | z
              · exact n3 x hx y (List.mem_append_left _ z)
              · rintro rfl; exact z (List.mem_cons_of_mem _ (List.mem_append_left _ hx))
            · exact n3 x hx y (List.mem_append_right _ hy)
        · have inE : ∀ x, x ∈ E → x ∈ Fd := k3
          rcases List.mem_cons.mp hx with rfl | hx
          · exact .inl ⟨List.mem_cons_self, fun z => na (List.mem_append_right _ (List.mem_append_left _ (k3 _ z)))⟩
          · rcases List.mem_append.mp hx with hx | hx
            · exact .inl ⟨List.mem_cons_of_mem _ (List.mem_append_left _ hx), fun z => n3 x hx x (List.mem_append_left _ (k3 _ z)) rfl⟩
            · rcases List.mem_append.mp hx with hx | hx
              · rcases m3 x hx with ⟨z1, z2⟩ | z
                · exact .inl ⟨sub x z1, z2⟩
                · exact .inr z
              · exact .inl ⟨List.mem_cons_of_mem _ (List.mem_append_right _ (List.mem_append_right _ hx)), fun z => n6 x (k3 _ z) x hx rfl⟩
      | _ => simp [pget] at g
end

/-! ## places -/
abbrev Fp := Ev → R (List Im)
def plM (i : Nat) : Fp := fun ρ => match ρ[i]? with
  | some (.o _) => .ok []
  | _ => .no
def slotD (i : Nat) (ρ : Ev) : Option Dt := match ρ[i]? with
  | some (.o d) => some d
  | _ => none
def plixM (i : Nat) (g : Fp) (f : Fe) : Fp := fun ρ => (g ρ).bind fun p => (f ρ).bind fun q => match q.1 with
  | .o (.im (.int k)) => match (slotD i ρ).bind fun d => pget d p with
    | some (.lst l) => if (atI l k).isSome = true then .ok (p ++ [.int k]) else .no
    | _ => .no
  | _ => .no
section
variable (K : PySem.W.Frag)
def TPs (i : Nat) (g : Fp) : TE := fun σ H Q => ∃ O ρ p, SR K O H σ ρ ∧ g ρ = .ok p ∧ ∀ v w H' O', σ[i]? = some (some v) → SR K O' H' σ ρ → Fr O H O' H' → Qu O H O' H' → HP H' v p w → Q w H'
end
section
variable {X : Cx} {K : PySem.W.Frag} {i : Nat} {g : Fp} {f : Fe} {σ : St} {H : Hp} {O : Ow} {ρ : Ev} {Q : VK}
theorem SR.own_at {d : Dt} (s : SR K O H σ ρ) (h : slotD i ρ = some d) : ∃ v F, σ[i]? = some (some v) ∧ RepD K H d v F ∧ F.Nodup ∧ (∀ a ∈ F, O a = .sl i) ∧ i < ρ.length := by
  unfold slotD at h
  split at h <;> cases h
  rename_i q
  obtain ⟨v, F, h1, h2, h3, h4⟩ := s.slot _ _ q
  exact ⟨v, F, h1, h2, h3, h4, (List.getElem?_eq_some_iff.mp q).1⟩
theorem TPs.name (h : TPs K i (plM i) σ H Q) : ∃ v, σ[i]? = some (some v) ∧ Q v H := by
  obtain ⟨O, ρ, p, s, e, k⟩ := h
  unfold plM at e
  split at e <;> cases e
  rename_i d q
  obtain ⟨v, F, h1, _⟩ := s.slot _ _ q
  exact ⟨v, h1, k v v H O h1 s Fr.refl Qu.refl .nil⟩
theorem p_name {x : Str} {pos : Pos} (hN : X.N[i]? = some x) (hv : Vis X.env.scope x) (hd : (x == ("__debug__" : Str)) = false) (hcd : (x == ("__classdict__" : Str)) = false) : PE X (.Name x pos) (TPs K i (plM i)) :=
  (pe_var hN hv hd hcd).imp fun _ _ _ h => h.name
theorem TPs.ix (h : TPs K i (plixM i g f) σ H Q) : TPs K i g σ H fun x H1 => TEs K true f σ H1 fun y H2 => rIxL K x y H2 Q := by
  obtain ⟨O, ρ, p, s, e, k⟩ := h
  unfold plixM at e
  obtain ⟨p0, e0, e⟩ := R.bind_eq e
  obtain ⟨⟨r, ρ1⟩, e1, e⟩ := R.bind_eq e
  split at e <;> first | cases e | skip
  rename_i kk hr
  split at e <;> first | cases e | skip
  rename_i l hl
  have hk : (atI l kk).isSome = true := by
    by_cases hk : (atI l kk).isSome = true
    · exact hk
    · rw [if_neg hk] at e; cases e
  rw [if_pos hk] at e
  cases e
  obtain ⟨d, hd, hl2⟩ := Option.bind_eq_some_iff.mp hl
  obtain ⟨dk, hdk⟩ := Option.isSome_iff_exists.mp hk
  refine ⟨O, ρ, p0, s, e0, fun v w H1 O1 hv s1 f1 u1 hp => ⟨O1, ρ, r, ρ1, s1, e1, fun y H2 O2 F s2 f2 u2 k2 => ?_⟩⟩
  obtain ⟨rfl, q2⟩ := u2 rfl
  have hr : r = .o (.im (.int kk)) := hr
  subst hr
  obtain ⟨v', F', g1, g2, g3, g4, _⟩ := s2.own_at hd
  rw [hv] at g1; cases g1
  have hp2 := hp.ext q2.ext
  obtain ⟨E, r1, _, _, _⟩ := g2.atp g3 hl2 hp2
  obtain ⟨a, vs, G, rfl, rfl, h5, h6⟩ := r1.lst_inv
  obtain ⟨u, hu, _⟩ := atI_rel (P := fun d v => ∃ G', RepD K H2 d v G' ∧ G'.Sublist G) h6.len (fun i x e => by
    obtain ⟨v, G', a, b, c⟩ := h6.at e
    exact ⟨v, a, G', b, c⟩) hdk
  exact ⟨a, vs, kk, u, rfl, k2.1.int_inv, .of h5, hu, k v u H2 O2 hv s2 (f1.trans f2 s1.sl_live) (u1.trans q2) (hp2.snoc rfl h5 hu)⟩
end
end Wv

set_option Elab.async false
set_option linter.all false
set_option maxRecDepth 100000
namespace Wv
open PySem PySem.Spec PyProof.Rows L2

/-! ## changing: the value at a place, with values -/
def tyD (T : String) : Dt → Bool
  | .lst _ => T == "list"
  | .dic _ _ => T == "dict"
  | _ => false
abbrev Hm := Dt → List Vl → R (Dt × Vl)
section
variable (K : PySem.W.Frag)
def ROut (H : Hp) (r : Vl) (v : V) (E E' : List Addr) : Prop := ∃ d P, r = .o d ∧ RepD K H d v P ∧ P.Nodup ∧ ∀ x ∈ P, x ∈ E ∧ x ∉ E'
def MuN (rel : V → List V → Hp → VK → Prop) (h : Hm) : Prop :=
  ∀ (O : Ow) (H : Hp) (O' : Ow) (H' : Hp) (e : Dt) (w : V) (E : List Addr) (rs : List Vl) (vs : List V) (G : List Addr) (e' : Dt) (r : Vl) (Q : VK), h e rs = .ok (e', r) → RepD K H' e w E → E.Nodup → (∀ x ∈ E, Mut (H' x) ∧ ∃ i, O' x = .sl i) →
    VlsOk K O H O' H' rs vs G → (∀ x ∈ E, x ∉ G) →
    (∀ (a : Addr) (o : HO) (E' : List Addr) (v : V), a ∈ E → Mut (some o) → RepD K (upd H' a o) e' w E' → E'.Nodup → (∀ x ∈ E', x ∈ E ∨ x ∈ G) → ROut K (upd H' a o) r v E E' → Q v (upd H' a o)) → rel w vs H' Q
end
def muM (i : Nat) (g : Fp) (T : String) (qc : Bool) (c : Fa) (h : Hm) : Fe := fun ρ => (g ρ).bind fun p => match (slotD i ρ).bind fun d => pget d p with
  | some e0 => if tyD T e0 = true ∧ (qc = true ∨ p.isEmpty = true) then (c ρ).bind fun q => match slotD i q.2 with
      | some d => match pget d p with
        | some e => (h e q.1).bind fun z => .ok (z.2, q.2.set i (.o (pset d p z.1)))
        | none => .no
      | none => .no
      else .no
  | none => .no
section
variable {X : Cx} {K : PySem.W.Frag} {O O' O1 O2 : Ow} {H H' H1 H2 : Hp} {σ : St} {ρ ρ' : Ev} {r : Vl} {v w : V} {F G E : List Addr} {d e : Dt}
theorem rd_mut {a : Addr} {u : HO} (r : Rd H a u) (m : Mut (H a)) : H a = some u := by
  rcases r with r | ⟨o, r⟩
  · exact r
  · rw [r] at m; exact absurd m Mut.frz
theorem RepD.tyV {T : String} (h : RepD K H d v F) (t : tyD T d = true) (s : ∀ a ∈ F, Mut (H a)) : L2.tyV K T v H := by
  cases d with
  | im i => cases t
  | scr l => cases t
  | tpl l => cases t
  | lst l =>
    have t : T = "list" := by simpa [tyD] using t
    obtain ⟨a, vs, G, rfl, rfl, h3, h4⟩ := h.lst_inv
    exact .inl ⟨t, vs, .of h3⟩
  | dic t' l =>
    have tt : T = "dict" := by simpa [tyD] using t
    cases h with
    | dicK a b c => exact .inr (.inr (.inl ⟨tt, .inl ⟨_, rd_mut a (s _ List.mem_cons_self)⟩⟩))
    | dicT a b c => exact .inr (.inr (.inl ⟨tt, .inr ⟨_, rd_mut a (s _ List.mem_cons_self)⟩⟩))
theorem upd_self {a : Addr} {o : HO} (h : H a = some o) : upd H a o = H := by
  funext x
  by_cases c : x = a
  · subst c; rw [upd_same, h]
  · rw [upd_ne c]
theorem TEs.mu {i : Nat} {g : Fp} {T : String} {qc : Bool} {c : Fa} {h : Hm} {rel : V → List V → Hp → VK → Prop} (mu : MuN K rel h) {Q : VK} (w : TEs K false (muM i g T qc c h) σ H Q) :
    TPs K i g σ H fun x H1 => L2.tyV K T x H1 ∧ TAs K qc c σ H1 fun xs H2 => rel x xs H2 Q := by
  obtain ⟨O, ρ, r, ρ', s, e, k⟩ := w
  unfold muM at e
  obtain ⟨p, e0, e⟩ := R.bind_eq e
  split at e <;> first | cases e | skip
  rename_i e00 he0
  obtain ⟨d0, hd0, hp0⟩ := Option.bind_eq_some_iff.mp he0
  have hc : tyD T e00 = true ∧ (qc = true ∨ p.isEmpty = true) := by
    by_cases hk : tyD T e00 = true ∧ (qc = true ∨ p.isEmpty = true)
    · exact hk
    · rw [if_neg hk] at e; cases e
  rw [if_pos hc] at e
  obtain ⟨⟨rs, ρ1⟩, e1, e⟩ := R.bind_eq e
  split at e <;> first | cases e | skip
  rename_i d1 hd1
  split at e <;> first | cases e | skip
  rename_i ee hpe
  obtain ⟨⟨e', r'⟩, e2, e⟩ := R.bind_eq e
  cases e
  refine ⟨O, ρ, p, s, e0, fun v wv H1 O1 hv s1 f1 u1 hp => ⟨?_, O1, ρ, rs, ρ1, s1, e1, fun vs H2 O2 G s2 f2 u2 k2 => ?_⟩⟩
  · obtain ⟨v', F', g1, g2, g3, g4, _⟩ := s1.own_at hd0
    rw [hv] at g1; cases g1
    obtain ⟨E, r1, r2, r3, _⟩ := g2.atp g3 hp0 hp
    exact r1.tyV hc.1 fun a ha => s1.own a i (g4 a (r3 a ha))
  · obtain ⟨v', F', g1, g2, g3, g4, g5⟩ := s2.own_at hd1
    rw [hv] at g1; cases g1
    have hp2 : HP H2 v p wv := by
      rcases hc.2 with z | z
      · exact hp.ext (u2 z).2.ext
      · cases p with
        | nil => cases hp; exact .nil
        | cons _ _ => cases z
    obtain ⟨E, r1, r2, r3, r4⟩ := g2.atp g3 hpe hp2
    have k2' := k2.from f1
    have f12 := f1.trans f2 s1.sl_live
    have mE : ∀ x ∈ E, Mut (H2 x) := fun x hx => s2.own x i (g4 x (r3 x hx))
    have dG : ∀ x ∈ F', x ∉ G := fun x hx z => by
      have := (k2'.own_all.2 x z).1
      rw [g4 x hx] at this; cases this
    refine mu O H O2 H2 ee wv E rs vs G e' r' Q e2 r1 r2 (fun x hx => ⟨mE x hx, i, g4 x (r3 x hx)⟩) k2' (fun x hx => dG x (r3 x hx)) fun a o E' u ha hm q1 q2 q3 q4 => ?_
    obtain ⟨F2, m1, m2, m3⟩ := r4 a o e' E' ha (mE a ha) q1 q2 fun x hx => (q3 x hx).imp id fun z y => dG x y z
    have hin : ∀ x ∈ F2, x ∈ F' ∨ x ∈ G := fun x hx => by
      rcases m3 x hx with ⟨z, _⟩ | z
      · exact .inl z
      · exact (q3 x z).imp (r3 x) id
    obtain ⟨s3, f3⟩ := s2.mut (o := o) f12 g5 hv (g4 a (r3 a ha)) hm (fun x hx => (hin x hx).imp (g4 x) fun z => by
      obtain ⟨z1, z2, z3⟩ := k2'.own_all.2 x z
      exact ⟨z1, z2, (fun y => by rw [y] at z2; exact z2), z3⟩) m1 m2
    obtain ⟨dd, P, rfl, p1, p2, p3⟩ := q4
    refine k u _ _ P s3 f3 (fun z => nomatch z) ⟨p1, p2, fun x hx => ?_⟩
    obtain ⟨p4, p5⟩ := p3 x hx
    have hxF := r3 x p4
    refine ⟨?_, ?_, f12.was (g4 x hxF)⟩
    · unfold give
      rw [if_neg, if_pos (g4 x hxF)]
      intro z
      rcases m3 x z with ⟨_, z⟩ | z
      · exact z p4
      · exact p5 z
    · by_cases c : x = a
      · subst c; rw [upd_same]; exact hm
      · rw [upd_ne c]; exact mE x p4
end
end Wv

set_option Elab.async false
set_option linter.all false
set_option maxRecDepth 100000
namespace Wv
open PySem PySem.Spec PyProof.Rows L2

abbrev vN : Vl := .o (.im .non)
/-! ## methods of lists -/
def appH : Hm
  | .lst l, [.o d] => if l.length < SZ then .ok (.lst (l ++ [d]), vN) else .no
  | _, _ => .no
def insH : Hm
  | .lst l, [.o (.im (.int i)), .o d] => if l.length < SZ ∧ 0 ≤ i ∧ i < 2 ^ 63 then .ok (.lst (l.take i.toNat ++ [d] ++ l.drop i.toNat), vN) else .no
  | _, _ => .no
def extH : Hm
  | .lst l, [r] => match r.d with
    | .lst m => if m.all Dt.isIm = true ∧ l.length + m.length ≤ SZ then .ok (.lst (l ++ m), vN) else .no
    | _ => .no
  | _, _ => .no
def popH : Hm
  | .lst l, [] => match l[l.length - 1]? with
    | some d => .ok (.lst l.dropLast, .o d)
    | none => .no
  | _, _ => .no
def popAtH : Hm
  | .lst l, [.o (.im (.int i))] => if -(2 ^ 63) ≤ i ∧ i < 2 ^ 63 then match ixN l.length i with
    | some k => match l[k]? with
      | some d => .ok (.lst (l.eraseIdx k), .o d)
      | none => .no
    | none => .no
    else .no
  | _, _ => .no
def remH : Hm
  | .lst l, [.o (.im (.int i))] => match intsOf l with
    | some ns => if i ∈ ns then .ok (.lst ((ns.eraseIdx (ns.idxOf i)).map fun i => .im (.int i)), vN) else .no
    | none => .no
  | _, _ => .no
def setLH : Hm
  | .lst l, [.o (.im (.int i)), .o d] => match ixN l.length i with
    | some j => .ok (.lst (l.set j d), vN)
    | none => .no
  | _, _ => .no
section
variable {K : PySem.W.Frag} {O O' : Ow} {H H' : Hp} {r : Vl} {v w : V} {F F0 F' G E : List Addr} {d e : Dt} {l l' : List Dt} {vs vs' : List V} {a : Addr}
theorem ROut.non {E' : List Addr} : ROut K H vN .non E E' := ⟨_, [], rfl, .im .non, .nil, fun _ z => nomatch z⟩
theorem lst_mut (h : RepDs K H l' vs' F') (ha : H a = some (.lst vs)) (nd : (a :: F0).Nodup) (n' : F'.Nodup) (sub : ∀ x ∈ F', x ∈ F0 ∨ x ∈ G) (dj : ∀ x ∈ a :: F0, x ∉ G) :
    RepD K (upd H a (.lst vs')) (.lst l') (.ref a) (a :: F') ∧ (a :: F').Nodup ∧ ∀ x ∈ a :: F', x ∈ a :: F0 ∨ x ∈ G := by
  have na : a ∉ F' := fun z => (sub a z).elim (List.nodup_cons.mp nd).1 (dj a List.mem_cons_self)
  refine ⟨.lst upd_same (h.keepU na (by rw [ha]; trivial)), List.nodup_cons.mpr ⟨na, n'⟩, fun x hx => ?_⟩
  rcases List.mem_cons.mp hx with rfl | hx
  · exact .inl List.mem_cons_self
  · exact (sub x hx).imp (List.mem_cons_of_mem _) id
theorem nd_app (h1 : F0.Nodup) (h2 : G.Nodup) (dj : ∀ x ∈ F0, x ∉ G) : (F0 ++ G).Nodup := List.nodup_append.mpr ⟨h1, h2, fun x hx y hy e => dj x hx (e ▸ hy)⟩
theorem mu_app : MuN K rAppend appH := by
  intro O H O' H' e w E rs vs G e' r Q eq re nd mt k dj p
  unfold appH at eq
  split at eq <;> first | cases eq | skip
  rename_i l d
  by_cases hl : l.length < SZ
  · rw [if_pos hl] at eq; cases eq
    obtain ⟨a, xs, F0, rfl, rfl, h3, h4⟩ := re.lst_inv
    have ow := k.owns (l := [d]) rfl
    obtain ⟨gn, _⟩ := k.own_all
    have nd0 := (List.nodup_cons.mp nd).2
    obtain ⟨m1, m2, m3⟩ := lst_mut (h4.append ow) h3 nd (nd_app nd0 gn fun x hx => dj x (List.mem_cons_of_mem _ hx)) (fun x hx => List.mem_append.mp hx) dj
    cases ow with
    | @cons _ _ y _ _ _ a1 a2 =>
      cases a2
      exact ⟨a, xs, y, rfl, rfl, h3, by rw [← h4.len]; exact hl, p a _ _ _ List.mem_cons_self trivial m1 m2 m3 .non⟩
  · rw [if_neg hl] at eq; cases eq
theorem mu_ext : MuN K rExtend extH := by
  intro O H O' H' e w E rs vs G e' r Q eq re nd mt k dj p
  unfold extH at eq
  split at eq <;> first | cases eq | skip
  rename_i l r0
  split at eq <;> first | cases eq | skip
  rename_i m hm
  by_cases hl : m.all Dt.isIm = true ∧ l.length + m.length ≤ SZ
  · rw [if_pos hl] at eq; cases eq
    obtain ⟨a, xs, F0, rfl, rfl, h3, h4⟩ := re.lst_inv
    obtain ⟨v, F, rfl, k1⟩ := one_ok k
    obtain ⟨b, ys, G1, rfl, g1, g2⟩ := k1.lst hm
    obtain rfl := g2.ims hl.1
    have nd0 := (List.nodup_cons.mp nd).2
    obtain ⟨m1, m2, m3⟩ := lst_mut (G := G) (h4.append g2) h3 nd (by rw [List.append_nil]; exact nd0) (fun x hx => .inl (by rw [List.append_nil] at hx; exact hx)) dj
    exact ⟨a, b, xs, ys, rfl, rfl, h3, g1, by rw [← h4.len, ← g2.len]; exact hl.2, p a _ _ _ List.mem_cons_self trivial m1 m2 m3 .non⟩
  · rw [if_neg hl] at eq; cases eq
theorem mu_pop : MuN K rPop popH := by
  intro O H O' H' e w E rs vs G e' r Q eq re nd mt k dj p
  unfold popH at eq
  split at eq <;> first | cases eq | skip
  rename_i l
  split at eq <;> cases eq
  rename_i d hd
  obtain ⟨a, xs, F0, rfl, rfl, h3, h4⟩ := re.lst_inv
  have hlen := k.len
  obtain rfl : vs = [] := List.length_eq_zero_iff.mp hlen.symm
  have nd0 := (List.nodup_cons.mp nd).2
  obtain ⟨l1, l2, el, ll⟩ := split_at hd
  have : l2 = [] := by
    have := congrArg List.length el
    rw [List.length_append, List.length_cons] at this
    exact List.length_eq_zero_iff.mp (by omega)
  subst this
  subst el
  have hxl := h4.len
  obtain ⟨vs1, v, vs2, F1, Fd, F2, rfl, rfl, lv, r1, r2, r3⟩ := h4.mid
  cases r3
  rw [List.append_nil] at nd nd0 dj p
  obtain ⟨n1, n2, n3⟩ := List.nodup_append.mp nd0
  have e1 : (l1 ++ [d]).dropLast = l1 := by simp
  have e2 : (vs1 ++ [v]).dropLast = vs1 := by simp
  rw [e1] at p
  obtain ⟨m1, m2, m3⟩ := lst_mut (G := G) (F0 := F1 ++ Fd) r1 h3 nd n1 (fun x hx => .inl (List.mem_append_left _ hx)) dj
  have na : a ∉ F1 ++ Fd := (List.nodup_cons.mp nd).1
  refine ⟨a, _, v, rfl, rfl, h3, by simp, ?_⟩
  rw [e2]
  refine p a _ _ v List.mem_cons_self trivial m1 m2 m3 ⟨d, Fd, rfl, r2.keepU (fun z => na (List.mem_append_right _ z)) (by rw [h3]; trivial), n2, fun x hx => ⟨List.mem_cons_of_mem _ (List.mem_append_right _ hx), fun z => ?_⟩⟩
  rcases List.mem_cons.mp z with rfl | z
  · exact na (List.mem_append_right _ hx)
  · exact n3 x z x hx rfl
theorem erase_mid {α : Type} {l1 : List α} {d : α} {l2 : List α} : (l1 ++ d :: l2).eraseIdx l1.length = l1 ++ l2 := by
  rw [List.eraseIdx_append_of_length_le (Nat.le_refl _)]
  simp
theorem mu_popAt : MuN K rPopAt popAtH := by
  intro O H O' H' e w E rs vs G e' r Q eq re nd mt k dj p
  unfold popAtH at eq
  split at eq <;> first | cases eq | skip
  rename_i l i
  have hb : -(2 ^ 63) ≤ i ∧ i < 2 ^ 63 := by
    by_cases hb : -(2 ^ 63) ≤ i ∧ i < 2 ^ 63
    · exact hb
    · rw [if_neg hb] at eq; cases eq
  rw [if_pos hb] at eq
  split at eq <;> first | cases eq | skip
  rename_i j hj
  split at eq <;> cases eq
  rename_i d hd
  obtain ⟨a, xs, F0, rfl, rfl, h3, h4⟩ := re.lst_inv
  have nd0 := (List.nodup_cons.mp nd).2
  obtain ⟨l1, l2, rfl, rfl⟩ := split_at hd
  have hxl := h4.len
  obtain ⟨vs1, v, vs2, F1, Fd, F2, rfl, rfl, lv, r1, r2, r3⟩ := h4.mid
  obtain ⟨n1, n2, n3⟩ := List.nodup_append.mp nd0
  obtain ⟨n4, n5, n6⟩ := List.nodup_append.mp n2
  rw [erase_mid] at p
  have na : a ∉ F1 ++ (Fd ++ F2) := (List.nodup_cons.mp nd).1
  obtain ⟨m1, m2, m3⟩ := lst_mut (G := G) (F0 := F1 ++ (Fd ++ F2)) (r1.append r3) h3 nd (nd_app n1 n5 fun x hx hy => n3 x hx x (List.mem_append_right _ hy) rfl)
    (fun x hx => .inl ((List.mem_append.mp hx).elim (List.mem_append_left _) fun z => List.mem_append_right _ (List.mem_append_right _ z))) dj
  obtain ⟨u, F, rfl, k1⟩ := one_ok k
  obtain rfl := k1.1.int_inv
  rw [hxl] at hj
  refine ⟨a, _, i, _, v, rfl, rfl, h3, hb.1, hb.2, (ixN_seq hj).1, by rw [lv]; simp, ?_⟩
  rw [lv, erase_mid]
  refine p a _ _ v List.mem_cons_self trivial m1 m2 m3 ⟨d, Fd, rfl, r2.keepU (fun z => na (List.mem_append_right _ (List.mem_append_left _ z))) (by rw [h3]; trivial), n4, fun x hx => ⟨List.mem_cons_of_mem _ (List.mem_append_right _ (List.mem_append_left _ hx)), fun z => ?_⟩⟩
  rcases List.mem_cons.mp z with rfl | z
  · exact na (List.mem_append_right _ (List.mem_append_left _ hx))
  · rcases List.mem_append.mp z with z | z
    · exact n3 x z x (List.mem_append_left _ hx) rfl
    · exact n6 x hx x z rfl
theorem mu_ins : MuN K (fun x vs H Q => ∃ (l : Addr) (xs : List V) (i : Int) (y : V), x = .ref l ∧ vs = [.int i, y] ∧ H l = some (.lst xs) ∧ xs.length < sizeLine ∧ 0 ≤ i ∧ i < 2 ^ 63 ∧
    Q .non (upd H l (.lst (xs.take i.toNat ++ [y] ++ xs.drop i.toNat)))) insH := by
  intro O H O' H' e w E rs vs G e' r Q eq re nd mt k dj p
  unfold insH at eq
  split at eq <;> first | cases eq | skip
  rename_i l i d
  by_cases hl : l.length < SZ ∧ 0 ≤ i ∧ i < 2 ^ 63
  · rw [if_pos hl] at eq; cases eq
    obtain ⟨a, xs, F0, rfl, rfl, h3, h4⟩ := re.lst_inv
    have ow := k.owns (l := [.im (.int i), d]) rfl
    obtain ⟨gn, _⟩ := k.own_all
    have nd0 := (List.nodup_cons.mp nd).2
    cases ow with
    | @cons _ _ u _ Fu _ a1 a2 =>
      have eu := a1.int_inv
      cases a1
      cases a2 with
      | @cons _ _ y _ Fy _ a1 a2 =>
        cases a2
        subst eu
        have hx := h4.len
        have h4' := h4
        rw [← List.take_append_drop i.toNat l] at h4'
        obtain ⟨vs1, vs2, F1, F2, e1, rfl, r1, r2⟩ := h4'.cut
        have l1 := r1.len
        have e3 : xs.take i.toNat = vs1 := by
          rw [List.length_take] at l1
          rw [e1] at hx ⊢
          rw [List.length_append] at hx
          by_cases c : i.toNat ≤ l.length
          · rw [List.take_append_of_le_length (by omega), List.take_of_length_le (by omega)]
          · have : vs2 = [] := List.length_eq_zero_iff.mp (by omega)
            rw [this, List.append_nil, List.take_of_length_le (by omega)]
        have e4 : xs.drop i.toNat = vs2 := by
          have := List.take_append_drop i.toNat xs
          rw [e3] at this
          rw [e1] at this ⊢
          exact List.append_cancel_left this
        obtain ⟨n1, n2, n3⟩ := List.nodup_append.mp nd0
        have gn' : (Fy ++ []).Nodup := by simpa using gn
        have hG : ∀ x, x ∈ Fy ++ [] → x ∈ [] ++ (Fy ++ []) := fun x hx => by simpa using hx
        obtain ⟨m1, m2, m3⟩ := lst_mut (G := [] ++ (Fy ++ [])) (F0 := F1 ++ F2) ((r1.append (.cons a1 .nil)).append r2) h3 nd
          (nd_app (nd_app n1 gn' fun x hx z => dj x (List.mem_cons_of_mem _ (List.mem_append_left _ hx)) (hG x z)) n2 fun x hx z => by
            rcases List.mem_append.mp hx with hx | hx
            · exact n3 x hx x z rfl
            · exact dj x (List.mem_cons_of_mem _ (List.mem_append_right _ z)) (hG x hx))
          (fun x hx => by
            rcases List.mem_append.mp hx with hx | hx
            · exact (List.mem_append.mp hx).imp (List.mem_append_left _) (hG x)
            · exact .inl (List.mem_append_right _ hx)) dj
        refine ⟨a, xs, i, y, rfl, rfl, h3, by rw [← h4.len]; exact hl.1, hl.2.1, hl.2.2, ?_⟩
        rw [e3, e4]
        exact p a _ _ _ List.mem_cons_self trivial m1 m2 m3 .non
  · rw [if_neg hl] at eq; cases eq
theorem idx_of {ns : List Int} {i : Int} (h : i ∈ ns) : ns[ns.idxOf i]? = some i ∧ ∀ m, m < ns.idxOf i → ns[m]? ≠ some i := by
  have hl := List.idxOf_lt_length_iff.mpr h
  refine ⟨by rw [List.getElem?_eq_getElem hl, List.getElem_idxOf hl], fun m hm e => ?_⟩
  have := List.not_of_lt_findIdx (p := (· == i)) (xs := ns) (i := m) hm
  obtain ⟨h1, h2⟩ := List.getElem?_eq_some_iff.mp e
  simp [h2] at this
theorem mu_rem : MuN K rRemI remH := by
  intro O H O' H' e w E rs vs G e' r Q eq re nd mt k dj p
  unfold remH at eq
  split at eq <;> first | cases eq | skip
  rename_i l i
  split at eq <;> first | cases eq | skip
  rename_i ns hn
  by_cases hi : i ∈ ns
  · rw [if_pos hi] at eq; cases eq
    obtain ⟨a, xs, F0, rfl, rfl, h3, h4⟩ := re.lst_inv
    obtain ⟨u, F, rfl, k1⟩ := one_ok k
    obtain rfl := k1.1.int_inv
    obtain rfl := h4.ints hn
    obtain ⟨h5, h6⟩ := idx_of hi
    obtain ⟨m1, m2, m3⟩ := lst_mut (G := G) (RepDs.of_vals (K := K) (H := H') (ns.eraseIdx (ns.idxOf i))) h3 nd .nil (fun x z => nomatch z) dj
    exact ⟨a, ns, i, _, rfl, rfl, h3, h5, h6, p a _ _ _ List.mem_cons_self trivial m1 m2 m3 .non⟩
  · rw [if_neg hi] at eq; cases eq
theorem set_mid {α : Type} {l1 : List α} {d d' : α} {l2 : List α} : (l1 ++ d :: l2).set l1.length d' = l1 ++ d' :: l2 := by
  rw [List.set_append_right _ _ (Nat.le_refl _)]
  simp
/-- a store, as a method with index and value -/
def rSet (t : TSet) : V → List V → Hp → VK → Prop := fun x vs H Q => ∀ i v, vs = [i, v] → t x i v H fun H' => Q .non H'
theorem mu_setL : MuN K (rSet rSetL) setLH := by
  intro O H O' H' e w E rs vs G e' r Q eq re nd mt k dj p i0 v0 hvs
  unfold setLH at eq
  split at eq <;> first | cases eq | skip
  rename_i l i d
  split at eq <;> cases eq
  rename_i j hj
  obtain ⟨a, xs, F0, rfl, rfl, h3, h4⟩ := re.lst_inv
  have ow := k.owns (l := [.im (.int i), d]) rfl
  obtain ⟨gn, _⟩ := k.own_all
  have nd0 := (List.nodup_cons.mp nd).2
  have hjl := (ixN_seq hj).2.1
  obtain ⟨d0, hd0⟩ : ∃ d0, l[j]? = some d0 := ⟨_, List.getElem?_eq_getElem hjl⟩
  obtain ⟨l1, l2, el, ll⟩ := split_at hd0
  have hxl := h4.len
  rw [el] at h4
  obtain ⟨vs1, v, vs2, F1, Fd, F2, rfl, rfl, lv, r1, r2, r3⟩ := h4.mid
  obtain ⟨n1, n2, n3⟩ := List.nodup_append.mp nd0
  obtain ⟨n4, n5, n6⟩ := List.nodup_append.mp n2
  subst hvs
  cases ow with
  | @cons _ _ u _ Fu _ a1 a2 =>
    have eu := a1.int_inv
    cases a1
    cases a2 with
    | @cons _ _ y _ Fy _ a1 a2 =>
      cases a2
      subst eu
      have gn' : Fy.Nodup := by simpa using gn
      have hG : ∀ x, x ∈ Fy → x ∈ [] ++ (Fy ++ []) := fun x hx => by simpa using hx
      have mF : ∀ x, x ∈ F1 ∨ x ∈ F2 → x ∈ F1 ++ (Fd ++ F2) := fun x hx => hx.elim (List.mem_append_left _) fun z => List.mem_append_right _ (List.mem_append_right _ z)
      have dG : ∀ x, x ∈ F1 ∨ x ∈ F2 → x ∉ Fy := fun x hx z => dj x (List.mem_cons_of_mem _ (mF x hx)) (hG x z)
      obtain ⟨m1, m2, m3⟩ := lst_mut (G := [] ++ (Fy ++ [])) (F0 := F1 ++ (Fd ++ F2)) (r1.append (.cons a1 r3)) h3 nd
        (nd_app n1 (nd_app gn' n5 fun x hx z => dG x (.inr z) hx) fun x hx z => by
          rcases List.mem_append.mp z with z | z
          · exact dG x (.inl hx) z
          · exact n3 x hx x (List.mem_append_right _ z) rfl)
        (fun x hx => by
          rcases List.mem_append.mp hx with hx | hx
          · exact .inl (mF x (.inl hx))
          · rcases List.mem_append.mp hx with hx | hx
            · exact .inr (hG x hx)
            · exact .inl (mF x (.inr hx))) dj
      refine ⟨a, _, i, j, rfl, rfl, h3, by rw [← hxl]; exact hj, ?_⟩
      have e1 : l.set j d = l1 ++ d :: l2 := by rw [el, ← ll, set_mid]
      rw [show (vs1 ++ v :: vs2).set j v0 = vs1 ++ v0 :: vs2 by rw [← ll, lv, set_mid]]
      rw [e1] at p
      exact p a _ _ _ List.mem_cons_self trivial m1 m2 m3 .non
end
end Wv

set_option Elab.async false
set_option linter.all false
set_option maxRecDepth 100000
namespace Wv
open PySem PySem.Spec PyProof.Rows L2

/-! ## dicts changed -/
section
variable {α : Type}
theorem put_pos {l : List (Im × α)} {k : Im} {v : α} {p : Im × α} (h : p.1 = k) (n : ∀ q ∈ l, q.1 ≠ k) : put (p :: l) k v = (p.1, v) :: l := by
  unfold put
  rw [if_pos (by rw [List.any_cons, decide_eq_true h, Bool.true_or]), List.map_cons, if_pos h]
  congr 1
  conv => rhs; rw [← List.map_id l]
  exact List.map_congr_left fun q hq => if_neg (n q hq)
theorem put_neg {l : List (Im × α)} {k : Im} {v : α} {p : Im × α} (h : p.1 ≠ k) : put (p :: l) k v = p :: put l k v := by
  unfold put
  rw [List.any_cons, decide_eq_false h, Bool.false_or]
  split
  · rw [List.map_cons, if_neg h]
  · rfl
theorem put_nil {k : Im} {v : α} : put ([] : List (Im × α)) k v = [(k, v)] := rfl
theorem put_keys {k : Im} {v : α} : ∀ {l : List (Im × α)}, ∀ x ∈ (put l k v).map (·.1), x ∈ l.map (·.1) ∨ x = k := by
  intro l x hx
  unfold put at hx
  split at hx
  · refine .inl ?_
    rw [List.map_map] at hx
    obtain ⟨q, hq, rfl⟩ := List.mem_map.mp hx
    refine List.mem_map.mpr ⟨q, hq, ?_⟩
    show q.1 = (if q.1 = k then (q.1, v) else q).1
    split <;> rfl
  · rw [List.map_append] at hx
    exact (List.mem_append.mp hx).imp id fun z => by simpa using z
end
section
variable {κ : Type} [DecidableEq κ]
theorem putK_pos {l : List (κ × V)} {k : κ} {v : V} {p : κ × V} (h : p.1 = k) (n : ∀ q ∈ l, q.1 ≠ k) : putK (p :: l) k v = (p.1, v) :: l := by
  unfold putK
  rw [if_pos (by rw [List.any_cons, decide_eq_true h, Bool.true_or]), List.map_cons, if_pos h]
  congr 1
  conv => rhs; rw [← List.map_id l]
  exact List.map_congr_left fun q hq => if_neg (n q hq)
theorem putK_neg {l : List (κ × V)} {k : κ} {v : V} {p : κ × V} (h : p.1 ≠ k) : putK (p :: l) k v = p :: putK l k v := by
  unfold putK
  rw [List.any_cons, decide_eq_false h, Bool.false_or]
  split
  · rw [List.map_cons, if_neg h]
  · rfl
variable {K : PySem.W.Frag} {H : Hp} {inj : κ → Im}
theorem put_rel (hi : ∀ a b, inj a = inj b → a = b) {k : κ} {d : Dt} {v : V} {Fv : List Addr} (hv : RepD K H d v Fv) (nv : Fv.Nodup) : ∀ {l : List (Im × Dt)} {kvs : List (κ × V)} {G : List Addr}, l.map (·.1) = kvs.map (fun p => inj p.1) → (l.map (·.1)).Nodup →
    RepDs K H (l.map (·.2)) (kvs.map (·.2)) G → G.Nodup → (∀ x ∈ G, x ∉ Fv) → ∃ G', (put l (inj k) d).map (·.1) = (putK kvs k v).map (fun p => inj p.1) ∧ ((put l (inj k) d).map (·.1)).Nodup ∧ RepDs K H ((put l (inj k) d).map (·.2)) ((putK kvs k v).map (·.2)) G' ∧ G'.Nodup ∧
      ∀ x ∈ G', x ∈ G ∨ x ∈ Fv
  | [], [], _, _, _, h, _, _ => by
    cases h
    exact ⟨Fv ++ [], rfl, by simp [put_nil], .cons hv .nil, by rw [List.append_nil]; exact nv, fun x hx => .inr (by rw [List.append_nil] at hx; exact hx)⟩
  | [], _ :: _, _, e, _, _, _, _ => by cases e
  | _ :: _, [], _, e, _, _, _, _ => by cases e
  | p :: l, q :: kvs, G, e, nd, h, ng, dj => by
    rw [List.map_cons, List.map_cons] at e
    injection e with e1 e2
    rw [List.map_cons, List.map_cons] at h
    rw [List.map_cons, List.nodup_cons] at nd
    cases h with
    | @cons _ _ _ _ F G0 a b =>
      obtain ⟨n1, n2, n3⟩ := List.nodup_append.mp ng
      by_cases c : q.1 = k
      · have cp : p.1 = inj k := by rw [e1, c]
        have nl : ∀ x ∈ l, x.1 ≠ inj k := fun x hx z => nd.1 (by rw [cp, ← z]; exact List.mem_map_of_mem hx)
        have nk : ∀ x ∈ kvs, x.1 ≠ k := fun x hx z => nd.1 (by rw [cp, ← z, e2]; exact List.mem_map.mpr ⟨x, hx, rfl⟩)
        rw [put_pos cp nl, putK_pos c nk]
        refine ⟨Fv ++ G0, by rw [List.map_cons, List.map_cons, e2, e1], by rw [List.map_cons, List.nodup_cons]; exact nd, .cons hv b, nd_app nv n2 fun x hx z => dj x (List.mem_append_right _ z) hx, fun x hx => ?_⟩
        exact (List.mem_append.mp hx).elim .inr fun z => .inl (List.mem_append_right _ z)
      · have cp : p.1 ≠ inj k := fun z => c (hi _ _ (by rw [← e1, z]))
        rw [put_neg cp, putK_neg c]
        obtain ⟨G', k1, k2, k3, k4, k5⟩ := put_rel hi hv nv e2 nd.2 b n2 fun x hx => dj x (List.mem_append_right _ hx)
        refine ⟨F ++ G', by rw [List.map_cons, List.map_cons, k1, e1], ?_, .cons a k3, nd_app n1 k4 fun x hx z => ?_, fun x hx => ?_⟩
        · rw [List.map_cons, List.nodup_cons]
          exact ⟨fun z => (put_keys _ z).elim nd.1 cp, k2⟩
        · rcases k5 x z with z | z
          · exact n3 x hx x z rfl
          · exact dj x (List.mem_append_left _ hx) z
        · rcases List.mem_append.mp hx with hx | hx
          · exact .inl (List.mem_append_left _ hx)
          · exact (k5 x hx).imp (List.mem_append_right _) id
end
def setDH : Hm
  | .dic t l, [.o (.im k), .o d] => if fits t k = true ∧ l.length < SZ then .ok (.dic t (put l k d), vN) else .no
  | _, _ => .no
def altM (h k : Hm) : Hm := fun d rs => match h d rs with
  | .ok z => .ok z
  | _ => k d rs
section
variable {K : PySem.W.Frag} {O O' : Ow} {H H' : Hp} {r : Vl} {v w : V} {F F0 F' G E : List Addr} {d e : Dt} {a : Addr}
theorem MuN.alt {rel rel' : V → List V → Hp → VK → Prop} {h k : Hm} (m : MuN K rel h) (n : MuN K rel' k) : MuN K (fun x vs H Q => rel x vs H Q ∨ rel' x vs H Q) (altM h k) := by
  intro O H O' H' e w E rs vs G e' r Q eq re nd mt kk dj p
  unfold altM at eq
  split at eq
  · rename_i z hz
    cases eq
    exact .inl (m O H O' H' e w E rs vs G e' r Q hz re nd mt kk dj p)
  · exact .inr (n O H O' H' e w E rs vs G e' r Q eq re nd mt kk dj p)
theorem MuN.imp {rel rel' : V → List V → Hp → VK → Prop} {h : Hm} (m : MuN K rel h) (k : ∀ x vs H Q, rel x vs H Q → rel' x vs H Q) : MuN K rel' h := fun O H O' H' e w E rs vs G e' r Q eq re nd mt kk dj p => k _ _ _ _ (m O H O' H' e w E rs vs G e' r Q eq re nd mt kk dj p)
theorem mu_setD : MuN K (rSet rSetD) setDH := by
  intro O H O' H' e w E rs vs G e' r Q eq re nd mt k dj p i0 v0 hvs
  unfold setDH at eq
  split at eq <;> first | cases eq | skip
  rename_i t l kk d
  by_cases hl : fits t kk = true ∧ l.length < SZ
  case neg => rw [if_neg hl] at eq; cases eq
  rw [if_pos hl] at eq
  cases eq
  have ow := k.owns (l := [.im kk, d]) rfl
  obtain ⟨gn, _⟩ := k.own_all
  subst hvs
  cases ow with
  | @cons _ _ u _ Fu _ a1 a2 =>
    have ek := a1.im_inv
    cases a1
    cases a2 with
    | @cons _ _ y _ Fy _ a1 a2 =>
      cases a2
      have gn' : Fy.Nodup := by simpa using gn
      have hG : ∀ x, x ∈ Fy → x ∈ [] ++ (Fy ++ []) := fun x hx => by simpa using hx
      cases re with
      | @dicK _ a kvs G0 r1 e1 r2 =>
        have nd' := List.nodup_cons.mp nd
        have hH := rd_mut r1 (mt a List.mem_cons_self).1
        obtain ⟨j, hj⟩ := Option.isSome_iff_exists.mp (show (keyOf kk).isSome = true from hl.1)
        obtain rfl := keyOf_some hj
        obtain ⟨G', k1, k2, k3, k4, k5⟩ := put_rel (fun _ _ => keyI_inj) (k := j) a1 gn' e1.1 e1.2 r2 nd'.2 fun x hx z => dj x (List.mem_cons_of_mem _ hx) (hG x z)
        have na : a ∉ G' := fun z => (k5 a z).elim nd'.1 fun y => dj a List.mem_cons_self (hG a y)
        obtain rfl := ek.key
        have elen : l.length = kvs.length := by have := congrArg List.length e1.1; simpa using this
        refine ⟨a, _, rfl, .k hH (by rw [← elen]; exact hl.2), p a _ (a :: G') _ List.mem_cons_self trivial (.dicK (.inl upd_same) ⟨k1, k2⟩ (k3.keepU na (by rw [hH]; trivial))) (List.nodup_cons.mpr ⟨na, k4⟩) (fun x hx => ?_) .non⟩
        rcases List.mem_cons.mp hx with rfl | hx
        · exact .inl List.mem_cons_self
        · exact (k5 x hx).imp (List.mem_cons_of_mem _) (hG x)
      | @dicT _ a kvs G0 r1 e1 r2 =>
        have nd' := List.nodup_cons.mp nd
        have hH := rd_mut r1 (mt a List.mem_cons_self).1
        cases kk with
        | tup ks =>
          obtain ⟨j, hj⟩ := Option.isSome_iff_exists.mp (show (keysOf ks).isSome = true from hl.1)
          obtain rfl := keysOf_some hj
          obtain ⟨G', k1, k2, k3, k4, k5⟩ := put_rel (inj := tkI) (fun _ _ => tkI_inj) (k := j) a1 gn' e1.1 e1.2 r2 nd'.2 fun x hx z => dj x (List.mem_cons_of_mem _ hx) (hG x z)
          have na : a ∉ G' := fun z => (k5 a z).elim nd'.1 fun y => dj a List.mem_cons_self (hG a y)
          obtain ⟨b, rfl, hb⟩ := RepI.tkey (k := j) ek
          have elen : l.length = kvs.length := by have := congrArg List.length e1.1; simpa using this
          refine ⟨a, _, rfl, .t hH hb (by rw [← elen]; exact hl.2), p a _ (a :: G') _ List.mem_cons_self trivial (.dicT (.inl upd_same) ⟨k1, k2⟩ (k3.keepU na (by rw [hH]; trivial))) (List.nodup_cons.mpr ⟨na, k4⟩) (fun x hx => ?_) .non⟩
          rcases List.mem_cons.mp hx with rfl | hx
          · exact .inl List.mem_cons_self
          · exact (k5 x hx).imp (List.mem_cons_of_mem _) (hG x)
        | _ => exact absurd hl.1 (by simp [fits])
end
def setH : Hm := altM setLH setDH

/-! ## x[i] = e, x[i][j] = e -/
def stoM (i : Nat) (g : Fp) (fi f : Fe) (h : Hm) : Fs := fun ρ => (f ρ).bind fun q => (g q.2).bind fun p => (fi q.2).bind fun z => match z.1, (slotD i q.2) with
  | .o (.im k), some d => match pget d p with
    | some e => (h e [.o (.im k), q.1]).bind fun y => .ok (.nx (q.2.set i (.o (pset d p y.1))))
    | none => .no
  | _, _ => .no
section
variable {X : Cx} {K : PySem.W.Frag} {vp : List Nat} {O O' O1 O2 : Ow} {H H' H1 H2 : Hp} {σ : St} {ρ ρ' ρ1 : Ev} {r : Vl} {v w : V} {F G E : List Addr} {d e : Dt}
theorem PSet.or {t t' : TSet} (h : PSet X t) (k : PSet X t') : PSet X (fun o i v H Q => t o i v H Q ∨ t' o i v H Q) := fun pins s σ H o i v ov iv u Q I a b c q => q.elim (h pins s σ H o i v ov iv u Q I a b c) (k pins s σ H o i v ov iv u Q I a b c)
theorem mu_fin {i : Nat} {h : Hm} {rel : V → List V → Hp → VK → Prop} (mu : MuN K rel h) {Q : VK} {p : List Im} {d1 ee e' : Dt} {r' : Vl} {wv : V} {rs : List Vl} {vs : List V} (s2 : SR K O2 H2 σ ρ1) (f12 : Fr O H O2 H2) (hd1 : slotD i ρ1 = some d1) (hpe : pget d1 p = some ee)
    (hv : σ[i]? = some (some v)) (hp2 : HP H2 v p wv) (k2' : VlsOk K O H O2 H2 rs vs G) (e2 : h ee rs = .ok (e', r'))
    (fin : ∀ u H3 O3 P, SR K O3 H3 σ (ρ1.set i (.o (pset d1 p e'))) → Fr O H O3 H3 → VlOk K O H O3 H3 r' u P → Q u H3) : rel wv vs H2 Q := by
  obtain ⟨v', F', g1, g2, g3, g4, g5⟩ := s2.own_at hd1
  rw [hv] at g1; cases g1
  obtain ⟨E, r1, r2, r3, r4⟩ := g2.atp g3 hpe hp2
  have mE : ∀ x ∈ E, Mut (H2 x) := fun x hx => s2.own x i (g4 x (r3 x hx))
  have dG : ∀ x ∈ F', x ∉ G := fun x hx z => by
    have := (k2'.own_all.2 x z).1
    rw [g4 x hx] at this; cases this
  refine mu O H O2 H2 ee wv E rs vs G e' r' Q e2 r1 r2 (fun x hx => ⟨mE x hx, i, g4 x (r3 x hx)⟩) k2' (fun x hx => dG x (r3 x hx)) fun a o E' u ha hm q1 q2 q3 q4 => ?_
  obtain ⟨F2, m1, m2, m3⟩ := r4 a o e' E' ha (mE a ha) q1 q2 fun x hx => (q3 x hx).imp id fun z y => dG x y z
  have hin : ∀ x ∈ F2, x ∈ F' ∨ x ∈ G := fun x hx => by
    rcases m3 x hx with ⟨z, _⟩ | z
    · exact .inl z
    · exact (q3 x z).imp (r3 x) id
  obtain ⟨s3, f3⟩ := s2.mut (o := o) f12 g5 hv (g4 a (r3 a ha)) hm (fun x hx => (hin x hx).imp (g4 x) fun z => by
    obtain ⟨z1, z2, z3⟩ := k2'.own_all.2 x z
    exact ⟨z1, z2, (fun y => by rw [y] at z2; exact z2), z3⟩) m1 m2
  obtain ⟨dd, P, rfl, p1, p2, p3⟩ := q4
  refine fin u _ _ P s3 f3 ⟨p1, p2, fun x hx => ?_⟩
  obtain ⟨p4, p5⟩ := p3 x hx
  have hxF := r3 x p4
  refine ⟨?_, ?_, f12.was (g4 x hxF)⟩
  · unfold give
    rw [if_neg, if_pos (g4 x hxF)]
    intro z
    rcases m3 x z with ⟨_, z⟩ | z
    · exact z p4
    · exact p5 z
  · by_cases c : x = a
    · subst c; rw [upd_same]; exact hm
    · rw [upd_ne c]; exact mE x p4
theorem s_sto {i : Nat} {g : Fp} {fi f : Fe} {q : Bool} {o ix e : Expr} {tpos pos : Pos} (hu : X.A.units + 1 < cLine) (ho : PE X o (TPs X.K i g)) (hi : PE X ix (TEs X.K true fi)) (he : PE X e (TEs X.K q f))
    (ha : ∀ v, assign (.Subscript o ix tpos) X.env v = (do
      let ov ← holding [v] (eval o X.env)
      let iv ← holding [v, ov] (eval ix X.env)
      standAt tpos
      holding [v, ov, iv] (setItem ov iv v)
      release [v, ov, iv] []))
    (hs : swapsWithSole [.Subscript o ix tpos] e pos.line X.env = pure false) (hw : swappedStores [.Subscript o ix tpos] e X.env = pure none)
    (h1 : (assignEach [.Subscript o ix tpos] X.env).map (·.2) = [assign (.Subscript o ix tpos) X.env]) : PS X (.Assign [.Subscript o ix tpos] e pos) (TSs X.K vp (stoM i g fi f setH)) :=
  (ps_asg he (pg_sub ho hi (PSet.or set_list (set_dict hu)) ha) hs hw h1).imp fun D σ H ⟨O, ρ, u, s, e, p⟩ => by
    unfold stoM at e
    obtain ⟨⟨r, ρ1⟩, e1, e⟩ := R.bind_eq e
    obtain ⟨pp, e2, e⟩ := R.bind_eq e
    obtain ⟨⟨kr, ρ2⟩, e3, e⟩ := R.bind_eq e
    split at e <;> first | cases e | skip
    rename_i k d hk hd
    split at e <;> first | cases e | skip
    rename_i ee hee
    obtain ⟨⟨e', r'⟩, e4, e⟩ := R.bind_eq e
    cases e
    refine ⟨O, ρ, r, ρ1, s, e1, fun v H1 O1 F s1 f1 _ w1 => ⟨O1, ρ1, pp, s1, e2, fun v0 wv H2 O2 hv s2 f2 u2 hp => ⟨O2, ρ1, kr, ρ2, s2, e3, fun kv H3 O3 Fk s3 f3 u3 w3 => ?_⟩⟩⟩
    obtain ⟨rfl, q3⟩ := u3 rfl
    have hk : kr = .o (.im k) := hk
    subst hk
    have f23 := f2.trans f3 s2.sl_live
    have f13 := f1.trans f23 s1.sl_live
    have wr := w1.pend s1 f23 fun _ => u2.trans q3
    obtain ⟨G', w5⟩ : ∃ G', VlsOk X.K O H O3 H3 [.o (.im k), r] [kv, v] G' := by
      have ik : VlOk X.K O H O3 H3 (.o (.im k)) kv [] := .imm w3.1.im_inv
      cases r with
      | o dd => exact ⟨_, .own ik (.own wr .nil fun _ _ z => nomatch z) fun _ z => nomatch z⟩
      | s dd => exact ⟨_, .own ik (.shr wr .nil) fun _ z => nomatch z⟩
      | b dd => exact ⟨_, .own ik (.bor wr .nil) fun _ z => nomatch z⟩
    have := mu_fin (MuN.alt mu_setL mu_setD) (Q := fun _ H' => D.nx σ H') s3 f13 hd hee hv (hp.ext q3.ext) w5 e4 fun u H4 O4 P s4 f4 w4 => p σ H4 O4 s4 f4 KeepS.refl
    exact this.imp (fun z => z _ _ rfl) fun z => z _ _ rfl
end
end Wv

set_option Elab.async false
set_option linter.all false
set_option maxRecDepth 100000
namespace Wv
open PySem PySem.Spec PyProof.Rows L2

/-! ## calls of methods that change -/
section
variable {X : Cx} {i : Nat} {g : Fp} {qc : Bool} {c : Fa} {o e : Expr} {es : List Expr} {apos cpos : Pos} {name : Str} {T id : String} {rel : V → List V → Hp → VK → Prop} {h : Hm}
structure MS (X : Cx) (o : Expr) (name : Str) (apos : Pos) (e : Expr) (es : List Expr) (cpos : Pos) : Prop where
  base : attributeBase o name X.env (eval o X.env) = eval o X.env
  few : ((backTo cpos (starEach (e :: es) X.env)).all (fun x => !x.1) && (backToKw cpos (keywordEach [] X.env)).all (fun x => x.1.isSome)
      && decide ((e :: es).length + ([] : List Keyword).length + (if ([] : List Keyword).isEmpty then 0 else 1) < 30)) = true
  line : (apos.endLine == cpos.line) = true
  star : starEach (e :: es) X.env = (false, eval e X.env) :: starEach es X.env
  plain : (backTo cpos (starEach es X.env)).any (·.1) = false
theorem e_mu (pa : PlainAttrs T) (slot : Slot T name id) (hty : typeOf (.builtin id) = pure (.type "method_descriptor")) (hm : MtR X id rel) (mu : MuN X.K rel h) (ho : PE X o (TPs X.K i g)) (ha : PA X (e :: es) (TAs X.K qc c)) (ms : MS X o name apos e es cpos) :
    PE X (.Call (.Attribute o name apos) (e :: es) [] cpos) (TEs X.K false (muM i g T qc c h)) :=
  (pe_bm pa slot hty hm ho ha ms.base ms.few ms.line ms.star ms.plain).imp fun _ _ _ w => w.mu mu
theorem e_mu0 (pa : PlainAttrs T) (slot : Slot T name id) (hty : typeOf (.builtin id) = pure (.type "method_descriptor")) (hm : MtR X id rel) (mu : MuN X.K rel h) (ho : PE X o (TPs X.K i g))
    (hb : attributeBase o name X.env (eval o X.env) = eval o X.env) (hl : (apos.endLine == cpos.line) = true) :
    PE X (.Call (.Attribute o name apos) [] [] cpos) (TEs X.K false (muM i g T true anM h)) :=
  (pe_bm0 pa slot hty hm ho hb hl).imp fun σ H Q w => by
    obtain ⟨O, ρ, p, s, e, k⟩ := w.mu mu
    exact ⟨O, ρ, p, s, e, fun v w H' O' a b c d e => ⟨(k v w H' O' a b c d e).1, (k v w H' O' a b c d e).2.nil⟩⟩
theorem e_append (ho : PE X o (TPs X.K i g)) (ha : PA X [e] (TAs X.K qc c)) (ms : MS X o "append" apos e [] cpos) : PE X (.Call (.Attribute o "append" apos) [e] [] cpos) (TEs X.K false (muM i g "list" qc c appH)) :=
  e_mu F.plainAttrs_list F.slot_list_append F.type_list_append mt_append mu_app ho ha ms
theorem e_extend (ho : PE X o (TPs X.K i g)) (ha : PA X [e] (TAs X.K qc c)) (ms : MS X o "extend" apos e [] cpos) : PE X (.Call (.Attribute o "extend" apos) [e] [] cpos) (TEs X.K false (muM i g "list" qc c extH)) :=
  e_mu F.plainAttrs_list F.slot_list_extend F.type_list_extend mt_extend mu_ext ho ha ms
theorem e_remove (ho : PE X o (TPs X.K i g)) (ha : PA X [e] (TAs X.K qc c)) (ms : MS X o "remove" apos e [] cpos) : PE X (.Call (.Attribute o "remove" apos) [e] [] cpos) (TEs X.K false (muM i g "list" qc c remH)) :=
  e_mu F.plainAttrs_list F.slot_list_remove F.type_list_remove mt_remove mu_rem ho ha ms
theorem e_insert {e2 : Expr} (ho : PE X o (TPs X.K i g)) (ha : PA X [e, e2] (TAs X.K qc c)) (ms : MS X o "insert" apos e [e2] cpos) : PE X (.Call (.Attribute o "insert" apos) [e, e2] [] cpos) (TEs X.K false (muM i g "list" qc c insH)) :=
  e_mu F.plainAttrs_list F.slot_list_insert F.type_list_insert mt_insert mu_ins ho ha ms
theorem e_popAt (ho : PE X o (TPs X.K i g)) (ha : PA X [e] (TAs X.K qc c)) (ms : MS X o "pop" apos e [] cpos) : PE X (.Call (.Attribute o "pop" apos) [e] [] cpos) (TEs X.K false (muM i g "list" qc c popAtH)) :=
  e_mu F.plainAttrs_list F.slot_list_pop F.type_list_pop mt_popAt mu_popAt ho ha ms
theorem e_pop (ho : PE X o (TPs X.K i g)) (hb : attributeBase o "pop" X.env (eval o X.env) = eval o X.env) (hl : (apos.endLine == cpos.line) = true) : PE X (.Call (.Attribute o "pop" apos) [] [] cpos) (TEs X.K false (muM i g "list" true anM popH)) :=
  e_mu0 F.plainAttrs_list F.slot_list_pop F.type_list_pop mt_pop mu_pop ho hb hl
end

/-! ## calls of methods that only look -/
def tyR (T : String) : Dt → Bool
  | .lst _ => T == "list"
  | .scr _ => T == "list"
  | .im (.tup _) => T == "tuple"
  | .im (.str _) => T == "str"
  | _ => false
def acT (T : String) (q2 : Bool) (f : Fe) (g : Fa) : Fa := fun ρ => (f ρ).bind fun p => if (tyR T p.1.d && (q2 || !p.1.isB)) = true then (g p.2).bind fun q => .ok (p.1 :: q.1, q.2) else .no
section
variable {X : Cx} {K : PySem.W.Frag} {q q1 q2 : Bool} {f : Fe} {g : Fa} {σ : St} {H : Hp}
theorem RepD.tyR {T : String} {d : Dt} {v : V} {F : List Addr} (h : RepD K H d v F) (t : Wv.tyR T d = true) (kt : ∀ p vs, v = .ref p → H p = some (.tup vs) → T = "tuple" → L2.tyV K T v H) : L2.tyV K T v H := by
  cases d with
  | im i =>
    cases i with
    | tup l =>
      have t : T = "tuple" := by simpa [Wv.tyR] using t
      obtain ⟨p, vs, rfl, h1, h2⟩ := h.im_inv.tup_inv
      exact kt p vs rfl h1 t
    | str x =>
      have t : T = "str" := by simpa [Wv.tyR] using t
      obtain rfl := h.im_inv.str_inv
      exact t
    | _ => cases t
  | scr l =>
    have t : T = "list" := by simpa [Wv.tyR] using t
    cases h with
    | @scr _ b h3 => exact .inl ⟨t, _, h3 H fun _ _ h _ => h⟩
  | lst l =>
    have t : T = "list" := by simpa [Wv.tyR] using t
    obtain ⟨a, vs, G, rfl, rfl, h3, h4⟩ := h.lst_inv
    exact .inl ⟨t, vs, .of h3⟩
  | dic t' l => cases t
  | tpl l => cases t
theorem TAs.consT {T : String} (hT : (T == "tuple") = false) {Q : List V → Hp → Prop} (h : TAs K (q1 && q2) (acT T q2 f g) σ H Q) : TEs K q1 f σ H fun x H1 => L2.tyV K T x H1 ∧ TAs K q2 g σ H1 fun xs H2 => Q (x :: xs) H2 := by
  obtain ⟨O, ρ, rs, ρ', s, e, p⟩ := h
  unfold acT at e
  obtain ⟨⟨r1, ρ1⟩, e1, e⟩ := R.bind_eq e
  simp only at e
  by_cases c : (tyR T r1.d && (q2 || !r1.isB)) = true
  · rw [if_pos c] at e
    rw [Bool.and_eq_true] at c
    obtain ⟨⟨r2, ρ2⟩, e2, e⟩ := R.bind_eq e
    cases e
    refine ⟨O, ρ, r1, ρ1, s, e1, fun v H1 O1 F s1 f1 u1 k1 => ⟨k1.rep.tyR c.1 (fun _ _ _ _ z => by rw [z] at hT; cases hT), O1, ρ1, r2, _, s1, e2, fun vs H2 O2 G s2 f2 u2 k2 => ?_⟩⟩
    obtain ⟨G', w⟩ := VlsOk.cons k1 s1 f1 f2 (fun z => (u2 (by have c := c.2; rw [z] at c; simpa using c)).2) k2
    refine p _ _ _ _ s2 (f1.trans f2 s1.sl_live) (fun z => ?_) w
    rw [Bool.and_eq_true] at z
    exact ⟨(u2 z.2).1.trans (u1 z.1).1, (u1 z.1).2.trans (u2 z.2).2⟩
  · rw [if_neg c] at e; cases e
variable {o e : Expr} {es : List Expr} {apos cpos : Pos} {name : Str} {T id : String} {rel : V → List V → Hp → VK → Prop} {h : List Vl → R Vl}
theorem e_look (hT : (T == "tuple") = false) (pa : PlainAttrs T) (slot : Slot T name id) (hty : typeOf (.builtin id) = pure (.type "method_descriptor")) (hm : MtR X id rel) (pu : PuN X.K (fun vs H Q => ∀ x xs, vs = x :: xs → rel x xs H Q) h) (ho : PE X o (TEs X.K q1 f)) (ha : PA X (e :: es) (TAs X.K q2 g)) (ms : MS X o name apos e es cpos) :
    PE X (.Call (.Attribute o name apos) (e :: es) [] cpos) (TEs X.K (q1 && q2) (naM (acT T q2 f g) h)) :=
  (pe_bm pa slot hty hm ho ha ms.base ms.few ms.line ms.star ms.plain).imp fun σ H Q w => by
    refine ((TAs.fin pu w).consT hT).mono fun x H1 w => ⟨w.1, ?_⟩
    obtain ⟨O, ρ, rs, ρ', s, e, p⟩ := w.2
    exact ⟨O, ρ, rs, ρ', s, e, fun vs H' O' G a b c d => p vs H' O' G a b c d _ _ rfl⟩
def idxH : List Vl → R Vl
  | [a, x] => match a.d with
    | .lst l => if (okEq (.lst l) && okEq x.d) = true then match l.findIdx? (fun z => eqD z x.d) with
      | some j => .ok (vI j)
      | none => .no
      else .no
    | _ => .no
  | _ => .no
theorem pdDs_at : ∀ {l : List Dt} {j : Nat}, (pdDs l)[j]? = l[j]?.map pdD
  | [], j => by simp [pdDs]
  | d :: r, 0 => by simp [pdDs]
  | d :: r, j + 1 => by simp [pdDs, pdDs_at (l := r) (j := j)]
theorem pu_idx : PuN K (fun vs H Q => ∀ x xs, vs = x :: xs → rIndexD K x xs H Q) idxH := by
  intro O H O' H' rs vs G r Q e lv gr w p x xs hv
  unfold idxH at e
  split at e <;> first | cases e | skip
  rename_i a y
  split at e <;> first | cases e | skip
  rename_i l hl
  have hc : (okEq (.lst l) && okEq y.d) = true := by
    by_cases hc : (okEq (.lst l) && okEq y.d) = true
    · exact hc
    · rw [if_neg hc] at e; cases e
  rw [if_pos hc] at e
  split at e <;> cases e
  rename_i j hj
  rw [Bool.and_eq_true] at hc
  obtain ⟨v, v2, F, F2, rfl, k1, k2⟩ := two_ok w
  cases hv
  have r1 := k1.rep
  rw [hl] at r1
  have r2 := k2.rep
  obtain ⟨a', vs', G', rfl, rfl, h3, h4⟩ := r1.lst_inv
  obtain ⟨hlt, hp, hno⟩ := List.findIdx?_eq_some_iff_getElem.mp hj
  have d1 : Dp K H' (.ref a') (pdD (.lst l)) := r1.dp (SeqAt.canLay_of_shaped hc.1)
  have d2 : Dp K H' v2 (pdD y.d) := r2.dp (SeqAt.canLay_of_shaped hc.2)
  refine ⟨a', v2, pdD y.d, pdDs l, j, pdD l[j], rfl, rfl, d1, d2, hc.1, hc.2, by rw [pdDs_at, List.getElem?_eq_getElem hlt]; rfl, hp, fun m z hm hz => ?_, p _ H' [] (Ext.refl _) (.imm .int)⟩
  rw [pdDs_at] at hz
  obtain ⟨z', hz1, rfl⟩ := Option.map_eq_some_iff.mp hz
  obtain ⟨hml, rfl⟩ := List.getElem?_eq_some_iff.mp hz1
  have := hno m hm
  simpa [eqD] using this
theorem e_index (hu : X.A.units + 65 < cLine) (ho : PE X o (TEs X.K q1 f)) (ha : PA X [e] (TAs X.K q2 g)) (ms : MS X o "index" apos e [] cpos) : PE X (.Call (.Attribute o "index" apos) [e] [] cpos) (TEs X.K (q1 && q2) (naM (acT "list" q2 f g) idxH)) :=
  e_look (by decide) F.plainAttrs_list F.slot_list_index F.type_list_index (mt_indexD hu) pu_idx ho ha ms
end

/-! ## a, b = .. -/
def parM (is : List Nat) (g : Fa) : Fs := fun ρ => (g ρ).bind fun q => (go is q.1 q.2).bind fun ρ' => .ok (.nx ρ')
where go : List Nat → List Vl → Ev → R Ev
  | [], [], ρ => .ok ρ
  | i :: is, r :: rs, ρ => (stM i r ρ).bind (go is rs)
  | _, _, _ => .no
/-- t = e, t a tuple of names -/
def asgM (t : Tgt) (f : Fe) : Fs := fun ρ => (f ρ).bind fun p => match p.1 with
  | .o (.im j) => (tgM false t (.one (.im j)) p.2).bind fun ρ' => .ok (.nx ρ')
  | .o (.tpl l) => match t with
    | .tp is => (parM.go is (l.map .o) p.2).bind fun ρ' => .ok (.nx ρ')
    | .nm _ => .no
  | _ => .no
/-- n op= e of ints -/
def augM (i : Nat) (f : Fe) (h : List Vl → R Vl) : Fs := fun ρ => match ρ[i]? with
  | some (.o (.im (.int a))) => (f ρ).bind fun q => (h [.o (.im (.int a)), q.1]).bind fun r => (stM i r q.2).bind fun ρ' => .ok (.nx ρ')
  | _ => .no
section
variable {X : Cx} {K : PySem.W.Frag} {vp : List Nat} {q : Bool} {f : Fe} {g : Fa} {O O' O1 O2 : Ow} {H H' H1 H2 : Hp} {σ : St} {ρ ρ' : Ev}
theorem SR.store' {r : Vl} {v : V} {F : List Addr} {i : Nat} (s : SR K O' H' σ ρ) (f : Fr O H O' H') (w : VlOk K O H O' H' r v F) (e : stM i r ρ = .ok ρ') :
    ∃ O2, SR K O2 H' (σ.set i (some v)) ρ' ∧ Fr O H O2 H' ∧ (∀ a, O' a = .no → ((∃ d, r = .o d) → a ∉ F) → O2 a = .no) ∧ ∀ a, O' a = .fz → O2 a = .fz := by
  unfold stM at e
  split at e <;> first | cases e | skip
  rename_i x hx
  split at e <;> cases e
  rename_i hi
  have g0 : (∀ a, O' a = .no → ((∃ d, r = .o d) → a ∉ F) → give O' i [] a = .no) ∧ ∀ a, O' a = .fz → give O' i [] a = .fz :=
    ⟨fun a h _ => by rw [give_ne (by simp) (by rw [h]; simp), h], fun a h => by rw [give_ne (by simp) (by rw [h]; simp), h]⟩
  cases r with
  | o d =>
    cases hx
    obtain ⟨w1, w2, w3⟩ := w
    obtain ⟨z1, z2⟩ := s.put (G := F) (v := v) (x := .o d) f hi (fun a ha => ⟨(w3 a ha).1, (w3 a ha).2.1, w1.live a ha, (w3 a ha).2.2⟩) ⟨v, F, rfl, w1, w2, fun a ha => by unfold give; rw [if_pos ha]⟩
    refine ⟨_, z1, z2, fun a h n => ?_, fun a h => ?_⟩
    · rw [give_ne (n ⟨d, rfl⟩) (by rw [h]; simp), h]
    · rw [give_ne (fun z => by rw [(w3 a z).1] at h; cases h) (by rw [h]; simp), h]
  | s d =>
    cases d with
    | im j =>
      cases hx
      have w1 := w.1
      cases w1 with
      | im w1 =>
        obtain ⟨z1, z2⟩ := s.put (G := []) (v := v) (x := .o (.im j)) f hi (fun _ z => nomatch z) ⟨v, [], rfl, .im w1, .nil, fun _ z => nomatch z⟩
        exact ⟨_, z1, z2, g0⟩
    | _ =>
      cases hx
      obtain ⟨z1, z2⟩ := s.put (G := []) (v := v) (x := .s _) f hi (fun _ z => nomatch z) ⟨v, F, rfl, w.1, fun a ha => by rw [give_ne (by simp) (by rw [w.2 a ha]; simp), w.2 a ha]⟩
      exact ⟨_, z1, z2, g0⟩
  | b d =>
    cases d with
    | im j =>
      cases hx
      have w : RepD K H' _ v F := w
      cases w with
      | im w1 =>
        obtain ⟨z1, z2⟩ := s.put (G := []) (v := v) (x := .o (.im j)) f hi (fun _ z => nomatch z) ⟨v, [], rfl, .im w1, .nil, fun _ z => nomatch z⟩
        exact ⟨_, z1, z2, g0⟩
    | _ => cases hx
theorem VlsOk.retag {rs : List Vl} {vs : List V} {G : List Addr} (w : VlsOk K O H O1 H1 rs vs G) (h1 : ∀ a ∈ G, O2 a = .no) (h2 : ∀ a, O1 a = .fz → O2 a = .fz) : VlsOk K O H O2 H1 rs vs G := by
  induction w with
  | nil => exact .nil
  | own a b c ih => exact .own ⟨a.1, a.2.1, fun x hx => ⟨h1 x (List.mem_append_left _ hx), (a.2.2 x hx).2⟩⟩ (ih fun x hx => h1 x (List.mem_append_right _ hx)) c
  | shr a b ih => exact .shr ⟨a.1, fun x hx => h2 x (a.2 x hx)⟩ (ih h1)
  | bor a b ih => exact .bor a (ih h1)
theorem VlsOk.head {r : Vl} {rs : List Vl} {v : V} {vs : List V} {G : List Addr} (w : VlsOk K O H O1 H1 (r :: rs) (v :: vs) G) : ∃ F G', VlOk K O H O1 H1 r v F ∧ VlsOk K O H O1 H1 rs vs G' ∧ ∀ a ∈ G', (∃ d, r = .o d) → a ∉ F := by
  cases w with
  | own a b c => exact ⟨_, _, a, b, fun x hx _ z => c x z hx⟩
  | shr a b => exact ⟨_, _, a, b, fun x hx ⟨d, z⟩ => nomatch z⟩
  | bor a b => exact ⟨_, _, a, b, fun x hx ⟨d, z⟩ => nomatch z⟩
theorem par_go : ∀ {is : List Nat} {rs : List Vl} {vs : List V} {G : List Addr} {O1 : Ow} {σ : St} {ρ : Ev}, SR K O1 H1 σ ρ → Fr O H O1 H1 → VlsOk K O H O1 H1 rs vs G → parM.go is rs ρ = .ok ρ' → (∀ i ∈ is, vp.contains i = false) →
    is.length = vs.length ∧ ∃ O2, SR K O2 H1 ((is.zip vs).foldl (fun σ p => σ.set p.1 (some p.2)) σ) ρ' ∧ Fr O H O2 H1 ∧ KeepS vp σ ((is.zip vs).foldl (fun σ p => σ.set p.1 (some p.2)) σ)
  | [], [], vs, G, O1, σ, ρ, s, f, w, e, _ => by
    cases e
    cases w
    exact ⟨rfl, O1, s, f, KeepS.refl⟩
  | [], _ :: _, _, _, _, _, _, _, _, _, e, _ => by cases e
  | _ :: _, [], _, _, _, _, _, _, _, _, e, _ => by cases e
  | i :: is, r :: rs, [], G, O1, σ, ρ, s, f, w, e, hv => by cases w
  | i :: is, r :: rs, v :: vs, G, O1, σ, ρ, s, f, w, e, hv => by
    obtain ⟨ρ1, e1, e2⟩ := R.bind_eq (show (stM i r ρ).bind (parM.go is rs) = .ok ρ' from e)
    obtain ⟨F, G', w1, w2, w3⟩ := w.head
    obtain ⟨O2, s2, f2, k1, k2⟩ := s.store' f w1 e1
    obtain ⟨z1, O3, z2, z3, z4⟩ := par_go s2 f2 (w2.retag (fun a ha => k1 a (w2.own_all.2 a ha).1 (w3 a ha)) k2) e2 fun j hj => hv j (List.mem_cons_of_mem _ hj)
    exact ⟨by simp [z1], O3, z2, z3, (KeepS.set (hv i List.mem_cons_self)).trans z4⟩
theorem gNms_go : ∀ {is : List Nat} {vs : List V} {σ : St} {H : Hp} {Q : St → Hp → Prop}, is.length = vs.length → Q ((is.zip vs).foldl (fun σ p => σ.set p.1 (some p.2)) σ) H → gNms is vs σ H Q
  | [], [], _, _, _, _, h => ⟨rfl, h⟩
  | [], _ :: _, _, _, _, e, _ => by cases e
  | _ :: _, [], _, _, _, e, _ => by cases e
  | i :: is, v :: vs, _, _, _, e, h => ⟨v, vs, rfl, gNms_go (by simpa using e) h⟩
theorem s_asg {t : Tgt} {tg e : Expr} {pos : Pos} (he : PE X e (TEs X.K q f)) (hg : PG X tg (gT X.K t)) (hv : ∀ i ∈ t.slots, i ∉ vp) (hs : swapsWithSole [tg] e pos.line X.env = pure false) (hw : swappedStores [tg] e X.env = pure none)
    (h1 : (assignEach [tg] X.env).map (·.2) = [assign tg X.env]) : PS X (.Assign [tg] e pos) (TSs X.K vp (asgM t f)) :=
  (ps_asg he hg hs hw h1).imp fun D σ H ⟨O, ρ, u, s, e, p⟩ => by
    unfold asgM at e
    obtain ⟨⟨r, ρ1⟩, e1, e⟩ := R.bind_eq e
    split at e <;> first | cases e | skip
    · rename_i j hj
      obtain ⟨ρ2, e2, e⟩ := R.bind_eq e
      cases e
      refine ⟨O, ρ, r, ρ1, s, e1, fun v H1 O1 F s1 f1 _ w => ?_⟩
      have hj : r = .o (.im j) := hj
      subst hj
      refine tg_ok (l := false) (B := []) s1 e2 ⟨[], .im w.1.im_inv, fun _ z => nomatch z⟩ (fun _ z => nomatch z) fun σ2 O2 s2 f2 _ st2 => ?_
      exact p σ2 H1 O2 s2 (f1.trans f2 s1.sl_live) ⟨st2.1, fun j hj => st2.2 j fun z => hv j z hj⟩
    · rename_i l hj
      cases t with
      | nm i => cases e
      | tp is =>
        obtain ⟨ρ2, e2, e⟩ := R.bind_eq e
        cases e
        refine ⟨O, ρ, r, ρ1, s, e1, fun v H1 O1 F s1 f1 _ w => ?_⟩
        have hj : r = .o (.tpl l) := hj
        subst hj
        obtain ⟨w1, w2, w3⟩ := w
        cases w1 with
        | @tpl _ a vs _ w4 w5 =>
          obtain ⟨z1, O3, z2, z3, z4⟩ := par_go (vp := vp) s1 f1 (w5.vls w2 w3) e2 fun i hi => by simpa using hv i hi
          exact ⟨a, vs, rfl, .of w4, z1.symm, gNms_go z1 (p _ H1 O3 z2 z3 z4)⟩
theorem s_par {i j : Nat} {x y : Str} {a b : Expr} {px py pt pos : Pos} {kt k2 pt2} (hc : X.calm = true) (hN : X.N.Nodup) (hi : X.N[i]? = some x) (hj : X.N[j]? = some y) (hij : i ≠ j)
    (hx : X.env.scope.names.lookup x = some .local) (hy : X.env.scope.names.lookup y = some .local) (ha : PA X [a, b] (TAs X.K q g))
    (hw : swappedStores [.Tuple [.Name x px, .Name y py] kt pt] (.Tuple [a, b] k2 pt2) X.env = pure (some [x, y]))
    (hs : swapsWithSole [.Tuple [.Name x px, .Name y py] kt pt] (.Tuple [a, b] k2 pt2) pos.line X.env = pure false) (hv : ∀ i' ∈ [i, j], vp.contains i' = false) :
    PS X (.Assign [.Tuple [.Name x px, .Name y py] kt pt] (.Tuple [a, b] k2 pt2) pos) (TSs X.K vp (parM [i, j] g)) :=
  (ps_par hc hN hi hj hij hx hy ha hw hs).imp fun D σ H ⟨O, ρ, u, s, e, p⟩ => by
    unfold parM at e
    obtain ⟨⟨rs, ρ1⟩, e1, e⟩ := R.bind_eq e
    obtain ⟨ρ2, e2, e⟩ := R.bind_eq e
    cases e
    refine ⟨O, ρ, rs, ρ1, s, e1, fun vs H1 O1 G s1 f1 _ w => ?_⟩
    obtain ⟨z1, O3, z2, z3, z4⟩ := par_go s1 f1 w e2 hv
    match vs, z1 with
    | [v, w], _ => exact ⟨v, w, rfl, p _ H1 O3 z2 z3 z4⟩
theorem s_par3 {i j l : Nat} {x y z : Str} {a b c : Expr} {px py pz pt pos : Pos} {kt k2 pt2} (hc : X.calm = true) (hN : X.N.Nodup) (hi : X.N[i]? = some x) (hj : X.N[j]? = some y) (hl : X.N[l]? = some z) (hij : i ≠ j) (hil : i ≠ l) (hjl : j ≠ l)
    (hx : X.env.scope.names.lookup x = some .local) (hy : X.env.scope.names.lookup y = some .local) (hz : X.env.scope.names.lookup z = some .local) (ha : PA X [a, b, c] (TAs X.K q g))
    (hw : swappedStores [.Tuple [.Name x px, .Name y py, .Name z pz] kt pt] (.Tuple [a, b, c] k2 pt2) X.env = pure (some [x, y, z]))
    (hs : swapsWithSole [.Tuple [.Name x px, .Name y py, .Name z pz] kt pt] (.Tuple [a, b, c] k2 pt2) pos.line X.env = pure false) (hv : ∀ i' ∈ [i, j, l], vp.contains i' = false) :
    PS X (.Assign [.Tuple [.Name x px, .Name y py, .Name z pz] kt pt] (.Tuple [a, b, c] k2 pt2) pos) (TSs X.K vp (parM [i, j, l] g)) :=
  (ps_par3 hc hN hi hj hl hij hil hjl hx hy hz ha hw hs).imp fun D σ H ⟨O, ρ, u, s, e, p⟩ => by
    unfold parM at e
    obtain ⟨⟨rs, ρ1⟩, e1, e⟩ := R.bind_eq e
    obtain ⟨ρ2, e2, e⟩ := R.bind_eq e
    cases e
    refine ⟨O, ρ, rs, ρ1, s, e1, fun vs H1 O1 G s1 f1 _ w => ?_⟩
    obtain ⟨z1, O3, z2, z3, z4⟩ := par_go s1 f1 w e2 hv
    match vs, z1 with
    | [u, v, w], _ => exact ⟨u, v, w, rfl, p _ H1 O3 z2 z3 z4⟩
theorem s_aug {i : Nat} {x : Str} {e : Expr} {op : Operator} {f2 : Int → Int → Int} {pos pos' : Pos} (hop : PIp X op (ipI f2)) (hN : X.N.Nodup) (hi : X.N[i]? = some x) (hx : Loc X.env.scope x) (he : PE X e (TEs X.K q f))
    (hf : X.fn x = true ∨ X.env.scope.names.lookup x = some .local) (hv : vp.contains i = false) : PS X (.AugAssign (.Name x pos') op e pos) (TSs X.K vp (augM i f (int2 (fun _ _ => true) fun a b => .int (f2 a b)))) :=
  (ps_aug hN hi hx he hop hf).imp fun D σ H ⟨O, ρ, u, s, e, p⟩ => by
    unfold augM at e
    split at e <;> first | cases e | skip
    rename_i a ha
    obtain ⟨⟨r, ρ1⟩, e1, e⟩ := R.bind_eq e
    obtain ⟨r2, e2, e⟩ := R.bind_eq e
    obtain ⟨ρ2, e3, e⟩ := R.bind_eq e
    cases e
    obtain ⟨v, F, h1, h2, _⟩ := s.slot _ _ ha
    obtain rfl := h2.int_inv
    refine ⟨_, h1, O, ρ, r, ρ1, s, e1, fun y H1 O1 F1 s1 f1 _ w => ?_⟩
    unfold int2 at e2
    split at e2 <;> first | cases e2 | skip
    rename_i a' b' hab
    have hab : [Vl.o (.im (.int a)), r] = [.o (.im (.int a')), .o (.im (.int b'))] := hab
    injection hab with q1 q2
    injection q2 with q2 _
    injection q1 with q1
    injection q1 with q1
    injection q1 with q1
    subst q1 q2
    obtain rfl := w.1.int_inv
    refine ⟨a, b', rfl, rfl, ?_⟩
    obtain ⟨O2, s2, f2'⟩ := s1.store f1 (.imm .int) e3
    exact p _ H1 O2 s2 f2' (KeepS.set hv)
end
end Wv

set_option Elab.async false
set_option linter.all false
set_option maxRecDepth 100000
namespace Wv
open PySem PySem.Spec PyProof.Rows L2

/-! ## slices -/
def cutL {α : Type} (xs : List α) (lo hi : Option Int) : List α := (xs.drop (HT.sIx xs.length 0 lo)).take (HT.sIx xs.length xs.length hi - HT.sIx xs.length 0 lo)
def slOf (lo hi : Option Int) (a : Vl) : R Vl := match a.d with
  | .lst l => if l.all Dt.isIm = true then .ok (.o (.lst (cutL l lo hi))) else match a with
    | .s _ => .no
    | _ => .no
  | .im (.tup l) => .ok (.o (.im (.tup (cutL l lo hi))))
  | .im (.str z) => if z.length ≤ SZ then .ok (.o (.im (.str (cutS z lo hi)))) else .no
  | _ => .no
def slLH : List Vl → R Vl
  | [a, .o (.im (.int i))] => slOf (some i) none a
  | _ => .no
def slUH : List Vl → R Vl
  | [a, .o (.im (.int i))] => slOf none (some i) a
  | _ => .no
def slBH : List Vl → R Vl
  | [a, .o (.im (.int i)), .o (.im (.int j))] => slOf (some i) (some j) a
  | _ => .no
def slNH : List Vl → R Vl
  | [a] => slOf none none a
  | _ => .no
def revH : List Vl → R Vl
  | [a] => match a.d with
    | .lst l => if l.all Dt.isIm = true then .ok (.o (.lst l.reverse)) else .no
    | _ => .no
  | _ => .no
section
variable {K : PySem.W.Frag} {O O' : Ow} {H H' : Hp} {v : V} {F : List Addr}
theorem RepDs.cutE {l : List Dt} {vs : List V} (h : RepDs K H l vs []) (lo hi : Option Int) : RepDs K H (cutL l lo hi) (cutV vs lo hi) [] := by
  have key : ∀ (l : List Dt) (vs : List V) (n : Nat), RepDs K H l vs [] → RepDs K H (l.take n) (vs.take n) [] ∧ RepDs K H (l.drop n) (vs.drop n) [] := by
    intro l
    induction l with
    | nil => intro vs n h; cases h; exact ⟨by simp; exact .nil, by simp; exact .nil⟩
    | cons d r ih =>
      intro vs n h
      generalize hF : ([] : List Addr) = F at h
      cases h with
      | @cons _ _ v vs F G a b =>
        obtain ⟨rfl, rfl⟩ := List.append_eq_nil_iff.mp hF.symm
        cases n with
        | zero => exact ⟨.nil, (List.append_nil ([] : List Addr)) ▸ RepDs.cons a b⟩
        | succ n =>
          obtain ⟨h1, h2⟩ := ih vs n b
          exact ⟨(List.append_nil ([] : List Addr)) ▸ RepDs.cons a h1, h2⟩
  unfold cutL cutV
  rw [h.len]
  exact (key _ _ _ (key _ _ _ h).2).1
theorem RepIs.cutE {l : List Im} {vs : List V} (h : RepIs K H l vs) (lo hi : Option Int) : RepIs K H (cutL l lo hi) (cutV vs lo hi) := by
  have key : ∀ (l : List Im) (vs : List V) (n : Nat), RepIs K H l vs → RepIs K H (l.take n) (vs.take n) ∧ RepIs K H (l.drop n) (vs.drop n) := by
    intro l
    induction l with
    | nil => intro vs n h; cases h; exact ⟨by simp; exact .nil, by simp; exact .nil⟩
    | cons d r ih =>
      intro vs n h
      cases h with
      | cons a b =>
        cases n with
        | zero => exact ⟨.nil, .cons a b⟩
        | succ n => exact ⟨.cons a (ih _ n b).1, (ih _ n b).2⟩
  unfold cutL cutV
  rw [h.len]
  exact (key _ _ _ (key _ _ _ h).2).1
theorem RepIs.rev {l : List Im} {vs : List V} (h : RepIs K H l vs) : RepIs K H l.reverse vs.reverse := by
  induction l generalizing vs with
  | nil => cases h; exact .nil
  | cons d r ih =>
    cases h with
    | cons a b => rw [List.reverse_cons, List.reverse_cons]; exact (ih b).append (.cons a .nil)
theorem RepDs.rev {l : List Dt} {vs : List V} (h : RepDs K H l vs []) : RepDs K H l.reverse vs.reverse [] := by
  induction l generalizing vs with
  | nil => cases h; exact .nil
  | cons d r ih =>
    generalize hF : ([] : List Addr) = F at h
    cases h with
    | @cons _ _ v vs F G a b =>
      obtain ⟨rfl, rfl⟩ := List.append_eq_nil_iff.mp hF.symm
      rw [List.reverse_cons, List.reverse_cons]
      exact (ih b).append ((List.append_nil ([] : List Addr)) ▸ RepDs.cons a .nil)
def rSl (K : PySem.W.Frag) : V → Option Int → Option Int → Hp → VK → Prop := fun x lo hi H Q => rSlL K x lo hi H Q ∨ rSlA K x lo hi H Q ∨ rSlS x lo hi H Q
theorem sl_all {X : Cx} : SlR X (rSl X.K) := sl_list.or (sl_tupA.or sl_str)
theorem sl_of {r a : Vl} {lo hi : Option Int} {Q : VK} (e : slOf lo hi a = .ok r) (k : VlOk K O H O' H' a v F) (lv : ∀ a, O' a ≠ .no → H' a ≠ none) (gr : ∀ a, H a ≠ none → H' a ≠ none)
    (p : ∀ v H2 F, Ext H' H2 → VlOk K O H O' H2 r v F → Q v H2) : rSl K v lo hi H' Q := by
  unfold slOf at e
  have kr := k.rep
  split at e <;> first | cases e | skip
  · rename_i l hl
    split at e
    · rename_i ha
      cases e
      rw [hl] at kr
      obtain ⟨b, xs, G, rfl, rfl, h3, h4⟩ := kr.lst_inv
      obtain rfl := h4.ims ha
      exact .inl ⟨b, xs, rfl, .of h3, fun q hq => p _ _ _ (Ext.upd hq) (newL_im (h4.cutE lo hi) lv gr hq)⟩
    · split at e <;> cases e
  · rename_i l hl
    rw [hl] at kr
    obtain ⟨b, xs, rfl, h3, h4⟩ := kr.im_inv.tup_inv
    refine .inr (.inl ⟨b, xs, rfl, .of h3, fun hw => ?_, fun hw q hq => p _ _ [] (Ext.upd hq) (newT_im (h4.cutE lo hi) hq)⟩)
    have e1 : cutL l lo hi = l := by
      unfold cutL
      rw [h4.len, hw.1, hw.2]
      simp [← h4.len]
    rw [e1] at p
    exact p _ H' [] (Ext.refl _) (.imm (.tup h3 h4))
  · rename_i z hl
    split at e <;> cases e
    rename_i hz
    rw [hl] at kr
    obtain rfl := kr.im_inv.str_inv
    exact .inr (.inr ⟨z, rfl, hz, p _ H' [] (Ext.refl _) (.imm .str)⟩)
end
section
variable {X : Cx} {K : PySem.W.Frag} {q q1 q2 q3 : Bool} {f g k : Fe} {e a b : Expr} {pos p2 : Pos}
theorem pu_slL : PuN K (fun vs H Q => ∀ x y, vs = [x, y] → ∃ i, y = .int i ∧ rSl K x (some i) none H Q) slLH := by
  intro O H O' H' rs vs G r Q e lv gr w p x y hv
  unfold slLH at e
  split at e <;> first | cases e | skip
  obtain ⟨v, v2, F, F2, rfl, k1, k2⟩ := two_ok w
  cases hv
  exact ⟨_, k2.1.int_inv, sl_of e k1 lv gr p⟩
theorem pu_slU : PuN K (fun vs H Q => ∀ x y, vs = [x, y] → ∃ i, y = .int i ∧ rSl K x none (some i) H Q) slUH := by
  intro O H O' H' rs vs G r Q e lv gr w p x y hv
  unfold slUH at e
  split at e <;> first | cases e | skip
  obtain ⟨v, v2, F, F2, rfl, k1, k2⟩ := two_ok w
  cases hv
  exact ⟨_, k2.1.int_inv, sl_of e k1 lv gr p⟩
theorem pu_slB : PuN K (fun vs H Q => ∀ x y z, vs = [x, y, z] → ∃ i, y = .int i ∧ ∃ j, z = .int j ∧ rSl K x (some i) (some j) H Q) slBH := by
  intro O H O' H' rs vs G r Q e lv gr w p x y z hv
  unfold slBH at e
  split at e <;> first | cases e | skip
  cases w with
  | own a b _ => obtain ⟨v, v2, F, F2, rfl, k1, k2⟩ := two_ok b; cases hv; exact ⟨_, k1.1.int_inv, _, k2.1.int_inv, sl_of e a lv gr p⟩
  | shr a b => obtain ⟨v, v2, F, F2, rfl, k1, k2⟩ := two_ok b; cases hv; exact ⟨_, k1.1.int_inv, _, k2.1.int_inv, sl_of e a lv gr p⟩
  | bor a b => obtain ⟨v, v2, F, F2, rfl, k1, k2⟩ := two_ok b; cases hv; exact ⟨_, k1.1.int_inv, _, k2.1.int_inv, sl_of e a lv gr p⟩
theorem pu_slN : PuN K (fun vs H Q => ∀ x, vs = [x] → rSl K x none none H Q) slNH := by
  intro O H O' H' rs vs G r Q e lv gr w p x hv
  unfold slNH at e
  split at e <;> first | cases e | skip
  obtain ⟨v, F, rfl, k1⟩ := one_ok w
  cases hv
  exact sl_of e k1 lv gr p
def intG (g : Fe) : Fe := fun ρ => (g ρ).bind fun p => match p.1 with
  | .o (.im (.int _)) => .ok p
  | _ => .no
theorem TEs.isInt {σ : St} {H : Hp} {Q : VK} (w : TEs K q (intG g) σ H Q) : TEs K q g σ H fun y H1 => ∃ i, y = .int i ∧ Q y H1 := by
  obtain ⟨O, ρ, r, ρ', s, e, p⟩ := w
  unfold intG at e
  obtain ⟨⟨r1, ρ1⟩, e1, e⟩ := R.bind_eq e
  split at e <;> cases e
  rename_i i hi
  have hi : r = .o (.im (.int i)) := hi
  subst hi
  exact ⟨O, ρ, _, _, s, e1, fun v H' O' F a b c d => ⟨i, d.1.int_inv, p v H' O' F a b c d⟩⟩
theorem e_slL (he : PE X e (TEs X.K q1 f)) (ha : PE X a (TEs X.K q2 g)) : PE X (.Subscript e (.Slice (some a) none none p2) pos) (TEs X.K (q1 && q2) (b2M q2 f g slLH)) :=
  (pe_slice sl_all he (po_some ha) po_none).imp fun _ _ _ w => w.two pu_slL
theorem e_slU (he : PE X e (TEs X.K q1 f)) (ha : PE X a (TEs X.K q2 g)) : PE X (.Subscript e (.Slice none (some a) none p2) pos) (TEs X.K (q1 && q2) (b2M q2 f g slUH)) :=
  (pe_slice sl_all he po_none (po_some ha)).imp fun _ _ _ w => w.two pu_slU
theorem e_slB (he : PE X e (TEs X.K q1 f)) (ha : PE X a (TEs X.K q2 g)) (hb : PE X b (TEs X.K q3 k)) : PE X (.Subscript e (.Slice (some a) (some b) none p2) pos) (TEs X.K (q1 && (q2 && q3)) (b3M q2 q3 f (intG g) k slBH)) :=
  (pe_slice sl_all he (po_some ha) (po_some hb)).imp fun _ _ _ w => (w.three pu_slB).mono fun x H1 w => w.isInt.mono fun y H2 ⟨i, hi, w⟩ => ⟨i, hi, w.mono fun z H3 ⟨i', hi', j, hj, w⟩ => ⟨j, hj, by
    subst hi
    cases hi'
    exact w⟩⟩
theorem e_slN (he : PE X e (TEs X.K q f)) : PE X (.Subscript e (.Slice none none none p2) pos) (TEs X.K q (u1M f slNH)) :=
  (pe_slice sl_all he po_none po_none).imp fun _ _ _ w => w.one pu_slN
theorem e_rev {k : Nat} {p1 p3 : Pos} (he : PE X e (TEs X.K q f)) : PE X (.Subscript e (.Slice none none (some (.UnaryOp .USub (.Constant (.int 1) k p1) p2)) p3) pos) (TEs X.K q (u1M f revH)) :=
  (pe_revL he).imp fun _ _ _ w => w.one (rel := fun x H1 Q => ∃ a xs, x = .ref a ∧ SqL X.K H1 a xs ∧ ∀ p, H1 p = none → Q (.ref p) (upd H1 p (.lst xs.reverse))) (by
    intro O H O' H' rs vs G r Q e lv gr w p x hv
    unfold revH at e
    split at e <;> first | cases e | skip
    rename_i a
    split at e <;> first | cases e | skip
    rename_i l hl
    split at e <;> cases e
    rename_i ha
    obtain ⟨v, F, rfl, k1⟩ := one_ok w
    cases hv
    have kr := k1.rep
    rw [hl] at kr
    obtain ⟨b, xs, G, rfl, rfl, h3, h4⟩ := kr.lst_inv
    obtain rfl := h4.ims ha
    exact ⟨b, xs, rfl, .of h3, fun q hq => p _ _ _ (Ext.upd hq) (newL_im h4.rev lv gr hq)⟩)
end
end Wv

set_option Elab.async false
set_option linter.all false
set_option maxRecDepth 100000
set_option maxHeartbeats 4000000
namespace Wv
open PySem PySem.Spec PyProof.Rows PySem.W L2 Srt SrtO

/-! ## rows of ints in their order -/
def lexI : List Int → List Int → Bool
  | [], [] => false
  | [], _ :: _ => true
  | _ :: _, [] => false
  | x :: r, y :: s => if x = y then lexI r s else decide (x < y)
theorem lexI_irr : ∀ l, lexI l l = false
  | [] => rfl
  | x :: r => by unfold lexI; rw [if_pos rfl]; exact lexI_irr r
theorem lexI_asym : ∀ {a b}, lexI a b = true → lexI b a = false
  | [], [], h => rfl
  | [], _ :: _, h => rfl
  | _ :: _, [], h => by cases h
  | x :: r, y :: s, h => by
    unfold lexI at h ⊢
    by_cases e : x = y
    · rw [if_pos e] at h; rw [if_pos e.symm]; exact lexI_asym h
    · rw [if_neg e] at h; rw [if_neg (Ne.symm e)]
      have := of_decide_eq_true h
      exact decide_eq_false (by omega)
theorem lexI_tot : ∀ {a b}, lexI a b = false → lexI b a = false → a = b
  | [], [], _, _ => rfl
  | [], _ :: _, h, _ => by cases h
  | _ :: _, [], _, h => by cases h
  | x :: r, y :: s, h, k => by
    unfold lexI at h k
    by_cases e : x = y
    · rw [if_pos e] at h; rw [if_pos e.symm] at k; rw [e, lexI_tot h k]
    · rw [if_neg e] at h; rw [if_neg (Ne.symm e)] at k
      have h1 := of_decide_eq_false h
      have h2 := of_decide_eq_false k
      omega
theorem lexI_tr : ∀ {a b c}, lexI b a = false → lexI c b = false → lexI c a = false
  | [], _, [], _, _ => rfl
  | [], _, _ :: _, _, _ => rfl
  | _ :: _, [], _, h, _ => by cases h
  | x :: r, y :: s, [], h, k => by cases k
  | x :: r, y :: s, z :: t, h, k => by
    unfold lexI at h k ⊢
    by_cases e1 : y = x
    · rw [if_pos e1] at h
      by_cases e2 : z = y
      · rw [if_pos e2] at k
        rw [if_pos (e2.trans e1)]
        exact lexI_tr h k
      · rw [if_neg e2] at k
        rw [if_neg (fun q => e2 (q.trans e1.symm))]
        have := of_decide_eq_false k
        exact decide_eq_false (by omega)
    · rw [if_neg e1] at h
      have h1 := of_decide_eq_false h
      by_cases e2 : z = y
      · rw [if_neg (fun q => e1 (e2.symm.trans q))]
        exact decide_eq_false (by omega)
      · rw [if_neg e2] at k
        have := of_decide_eq_false k
        rw [if_neg (by omega)]
        exact decide_eq_false (by omega)
theorem lexI_one {x y : Int} : lexI [x] [y] = decide (x < y) := by
  unfold lexI
  by_cases e : x = y
  · rw [if_pos e, e]; simp [lexI]
  · rw [if_neg e]
theorem swo_lexI {α : Type} (k : α → List Int) : Swo fun v u => lexI (k v) (k u) := ⟨fun _ _ h => lexI_asym h, fun _ _ _ h1 h2 => lexI_tr h1 h2⟩

/-! ## in the model -/
/-- v is a tuple of those ints -/
def TInts (h : Heap) (v : Value) (ns : List Int) : Prop := ∃ a o xs n, v = .ref a ∧ h.get? a = some o ∧ o.cls = .type "tuple" ∧ o.data = .seq xs n ∧ IntsAre xs.toList ns
theorem TInts.keeps {h h' : Heap} {v : Value} {ns : List Int} (p : TInts h v ns) (k : ∀ b o, h.get? b = some o → o.cls = .type "tuple" → h'.get? b = some o) : TInts h' v ns := by
  obtain ⟨a, o, xs, n, e, ho, hc, hd, hi⟩ := p
  exact ⟨a, o, xs, n, e, k _ _ ho hc, hc, hd, hi⟩
section
variable {prog : Program} {w : World} {A : Around} {E : Value → Shared → Prop} {s : Shared}
theorem kat_ints : ∀ {us ws : List Value} {ns ms : List Int} {i : Nat} {Q : Bool → Shared → Prop} {n m : Nat}, IntsAre us ns → IntsAre ws ms → Q (lexI ns ms) s →
    KatLex prog w A true (decide (n + us.length < n + ws.length)) Q (us.zip ws) i s
  | _, _, _, _, i, Q, n, m, .nil, .nil, h => kat_nil (by simpa [lexI] using h)
  | _, _, _, _, i, Q, n, m, .nil, .cons b u k, h => kat_nil (by
    rw [decide_eq_true (by simp)]
    simpa [lexI] using h)
  | _, _, _, _, i, Q, n, m, .cons a t k, .nil, h => kat_nil (by
    rw [decide_eq_false (by simp)]
    simpa [lexI] using h)
  | _, _, _, _, i, Q, n, m, .cons (vs := us) a t k, .cons (vs := ws) b u k', h => by
    rw [List.zip_cons_cons]
    refine kat_cons (SeqAt.EqAt.int_int a t b u prog w _ _ ?_)
    refine kat_go (fun e1 => kat_yes ?_) (fun e1 => kat_no ?_)
    · have e : a = b := by simpa using e1
      unfold lexI at h
      rw [if_pos e] at h
      rw [show decide (n + (Value.int a t :: us).length < n + (Value.int b u :: ws).length) = decide (n + us.length < n + ws.length) by
        rw [List.length_cons, List.length_cons]
        exact decide_eq_decide.mpr (by omega)]
      exact kat_ints (n := n) (m := m) k k' h
    · have e : ¬ a = b := by simpa using e1
      unfold lexI at h
      rw [if_neg e] at h
      cases hb : (true && i == 0) with
      | true => exact oneLt_int h
      | false => exact kat_one _ _ (PyProof.Rows.lt_int h)
theorem tints_cmp {vs : List Value} {k : Value → List Int} (hp : ∀ v ∈ vs, TInts s.heap v (k v)) : Cmp prog w A s (tuples' true) (fun p => p.1 ∈ vs) (lt2 fun v u => lexI (k v) (k u)) := by
  intro p q hm hm'
  have h1 := hp _ hm
  have h2 := hp _ hm'
  show wpAny (model prog w) A (keyLt' (tuples' true) p.1 q.1) (fun r s' => s' = s ∧ r = lexI (k p.1) (k q.1)) (fun _ _ => False) s
  generalize k p.1 = ns at h1 ⊢
  generalize k q.1 = ms at h2 ⊢
  obtain ⟨a, o, xs, n, e, ho, hc, hd, hi⟩ := h1
  obtain ⟨a', o', xs', n', e', ho', hc', hd', hi'⟩ := h2
  rw [e, e']
  refine kat_lt ho hd ho' hd' ?_
  have := kat_ints (prog := prog) (w := w) (A := A) (s := s) (i := 0) (Q := fun r s' => s' = s ∧ r = lexI ns ms) (n := 0) (m := 0) hi hi' ⟨rfl, rfl⟩
  simpa using this
theorem firsts_ints {h : Heap} {k : Value → List Int} : ∀ {vs : List Value}, (∀ v ∈ vs, TInts h v (k v) ∧ k v ≠ []) → ∃ fs : List Value, KatTups h vs fs ∧ fs.length = vs.length ∧ ∀ f ∈ fs, ∃ x t, f = Value.int x t
  | [], _ => ⟨[], KatTups.nil, rfl, fun _ hm => by simp at hm⟩
  | v :: vs, hp => by
    obtain ⟨fs, h1, h2, h3⟩ := firsts_ints (vs := vs) fun v' hm => hp v' (List.mem_cons_of_mem _ hm)
    obtain ⟨⟨a, o, xs, n, e, ho, hc, hd, hi⟩, ne⟩ := hp v (List.mem_cons_self ..)
    subst e
    obtain ⟨l⟩ := xs
    generalize k (.ref a) = ns at hi ne
    cases hi with
    | nil => exact absurd rfl ne
    | cons x t r => exact ⟨.int x t :: fs, KatTups.cons ho hc hd rfl h1, by rw [List.length_cons, List.length_cons, h2], fun f hm => by
        rcases List.mem_cons.mp hm with rfl | hm
        · exact ⟨x, t, rfl⟩
        · exact h3 f hm⟩
theorem tints_sortable {a : Addr} {vs : List Value} {k : Value → List Int} (h0 : 0 < vs.length) (hp : ∀ v ∈ vs, TInts s.heap v (k v) ∧ k v ≠ []) (ha : ∀ o, s.heap.get? a = some o → o.cls ≠ .type "tuple") : SortableO prog w A s a vs fun v u => lexI (k v) (k u) := by
  intro h' keep
  have hp' : ∀ v ∈ vs, TInts h' v (k v) ∧ k v ≠ [] := fun v hm => ⟨(hp v hm).1.keeps fun b o e c => keep b o (fun z => by subst z; exact ha o e c) e, (hp v hm).2⟩
  obtain ⟨fs, h1, h2, h3⟩ := firsts_ints hp'
  refine ⟨tuples' true, fun Q E hq => ?_, tints_cmp fun v hv => (hp' v hv).1⟩
  refine kat_kind (T := .type "int") h1 (by omega) (fun f hm => ?_) (by rfl) ?_
  · obtain ⟨x, t, rfl⟩ := h3 f hm
    exact Looks.now
  · have e : (Value.type "int" != Value.type "tuple") = true := by first | decide +kernel | rfl | decide
    rw [e]
    exact hq
/-- all ints, or all tuples of ints -/
def SKind (h : Heap) (vs : List Value) (k : Value → List Int) : Prop := (∀ v ∈ vs, ∃ i t, v = .int i t ∧ k v = [i]) ∨ ∀ v ∈ vs, TInts h v (k v) ∧ (k v ≠ [] ∨ vs.length ≤ 1)
theorem ints_are : ∀ {vs : List Value} {k : Value → List Int}, (∀ v ∈ vs, ∃ i t, v = .int i t ∧ k v = [i]) → IntsAre vs (vs.map iv)
  | vs, k, h => ints_iv fun v hv => let ⟨i, t, e, _⟩ := h v hv; ⟨i, t, e⟩
theorem skind_sortable {a : Addr} {vs : List Value} {k : Value → List Int} (h2 : 2 ≤ vs.length) (hp : SKind s.heap vs k) (ha : ∀ o, s.heap.get? a = some o → o.cls ≠ .type "tuple") : SortableO prog w A s a vs fun v u => lexI (k v) (k u) := by
  rcases hp with hp | hp
  · have hI := ints_are hp
    have hS := ints_sortable (prog := prog) (w := w) (A := A) (s := s) (a := a) hI h2
    intro h' keep
    obtain ⟨κ, h3, h4⟩ := hS h' keep
    refine ⟨κ, h3, fun p q hm hm' => ?_⟩
    have := h4 p q hm hm'
    obtain ⟨i, t, e1, e2⟩ := hp _ hm
    obtain ⟨j, u, e3, e4⟩ := hp _ hm'
    have el : lt2 (fun v u => lexI (k v) (k u)) p q = lt2 ltIv p q := by
      show lexI (k p.1) (k q.1) = decide (iv p.1 < iv q.1)
      rw [e2, e4, e1, e3]
      exact lexI_one
    rw [el]
    exact this
  · exact tints_sortable (by omega) (fun v hv => ⟨(hp v hv).1, (hp v hv).2.resolve_right (by omega)⟩) ha
theorem SKind.keeps {h h' : Heap} {vs : List Value} {k : Value → List Int} (p : SKind h vs k) (kp : ∀ b o, h.get? b = some o → h'.get? b = some o) : SKind h' vs k := p.imp id fun p v hv => ⟨(p v hv).1.keeps fun b o e _ => kp b o e, (p v hv).2⟩
theorem collect_tup {l : Addr} {vs : List Value} {Q : List Value → Shared → Prop} (hl : IsTup s.heap l vs.toArray)
    (h : ∀ h' tk, (∀ b o, s.heap.get? b = some o → h'.get? b = some o) → Q vs { s with heap := h', toks := tk }) (hsz : vs.length ≤ sizeLine) :
    wpAny (model prog w) A (collect (.ref l)) Q E s := by
  obtain ⟨o, ho, hc, n, hd⟩ := id hl
  unfold collect
  refine wpAny_bind (wpAny_runValue (codeAny_builtin entry_proto_collect' ?_))
  show wpAny _ _ (do again (.builtin "list.__iadd__" ⟨[← newList [], .ref l], []⟩)) _ _ s
  refine wpAny_bind (wpAny_newList (wpAny_pure ⟨Code.quiet_builtin _ (by decide +kernel), codeAny_builtin entry_list_iadd' ?_⟩))
  show wpAny _ _ (Builtin.List.listExtendWith (.ref s.heap.objs.size) (.ref l) (.ref s.heap.objs.size)) _ _ { s with heap := s.heap.push (seqObj "list" #[] 0) }
  unfold Builtin.List.listExtendWith
  have ho' : (s.heap.push (seqObj "list" #[] 0)).get? l = some o := Heap.get?_push_of_some _ ho
  refine wpAny_bind (wpAny_typeOf (T := "tuple") ⟨o, ho', hc⟩ ?_)
  have ht : (Value.type "tuple" == Value.type "tuple") = true := by rfl
  rw [if_pos (by rw [ht]; simp)]
  refine wpAny_bind (listItems_at ho' hd ?_)
  refine wpAny_bind (listItems_at (xs := #[]) (n := 0) (Heap.get?_push_size _ rfl) rfl ?_)
  rw [if_neg (by simp)]
  refine wpAny_bind (listUpdate_at (xs := #[]) (n := 0) (Heap.get?_push_size _ rfl) rfl ?_ (Nat.zero_le _) (by show (#[] ++ vs.toArray).size ≤ sizeLine + 1; simp only [Array.size_append, List.size_toArray, List.length_nil]; omega))
  refine wpAny_pure ?_
  show wpAny (model prog w) A (do
      let o ← load s.heap.objs.size
      match o.data with
      | .seq xs _ => pure xs.toList
      | _ => unsupported "internal:collect") Q E { s with heap := (s.heap.push (seqObj "list" #[] 0)).update s.heap.objs.size (Obj.mapSeq (· ++ vs.toArray)) }
  refine wpAny_bind (wpAny_load (get?_update_seq (Heap.get?_push_size _ rfl) _) ?_)
  show wpAny _ _ (pure ((#[] : Array Value) ++ vs.toArray).toList) Q E _
  rw [show ((#[] : Array Value) ++ vs.toArray).toList = vs by simp]
  exact wpAny_pure (h _ s.toks fun b o e => by
    rw [Heap.get?_update_ne _ _ _ _ (Nat.ne_of_lt (Heap.lt_size e))]
    exact Heap.get?_push_of_some _ e)
/-- sorted(x), x of which these are collected -/
theorem sorted_col {r : Addr} {C : List Value → Prop} {k : Value → List Int} {Q : Value → Shared → Prop}
    (hcol : ∀ {R : List Value → Shared → Prop}, (∀ vs h' tk, C vs → (∀ b o, s.heap.get? b = some o → h'.get? b = some o) → R vs { s with heap := h', toks := tk }) → wpAny (model prog w) A.in1 (collect (.ref r)) R (fun e s' => E e s') s)
    (hC : ∀ vs, C vs → SKind s.heap vs k ∧ vs.length ≤ sizeLine)
    (h : ∀ (vs : List Value) (h1 h' : Heap) (tk : Nat) (out : List Value), C vs → Srtd (fun v u => lexI (k v) (k u)) out → Stb (fun v u => lexI (k v) (k u)) out vs → (∀ b o, s.heap.get? b = some o → h1.get? b = some o) → (∀ b o, h1.get? b = some o → h'.get? b = some o) →
      (∃ n, h'.get? h1.objs.size = some (seqObj "list" out.toArray n)) → Q (.ref h1.objs.size) { s with heap := h', toks := tk }) :
    wpAny (model prog w) A (call (.builtin "sorted") [.ref r]) Q E s := by
  refine Calls.call_function_entry kind_sorted plain_sorted entry_sorted (args_sorted1 _) ?_
  unfold Builtin.«sorted»
  refine wpAny_bind (m := checkCount "sorted" 1 1 _) (wpAny_pure ?_)
  refine wpAny_bind (hcol fun vs h1 tk hvs hk => ?_)
  obtain ⟨hp, hz⟩ := hC vs hvs
  refine wpAny_bind (wpAny_newList ?_ hz)
  have hoL : (h1.push (seqObj "list" vs.toArray 0)).get? h1.objs.size = some (seqObj "list" vs.toArray 0) := Heap.get?_push_size _ rfl
  have keep : ∀ b o, s.heap.get? b = some o → (h1.push (seqObj "list" vs.toArray 0)).get? b = some o := fun b o e => Heap.get?_push_of_some _ (hk b o e)
  show wpAny _ _ _ _ _ { s with heap := h1.push (seqObj "list" vs.toArray 0), toks := tk }
  refine wpAny_bind (wpAny_holding (wpAny_call_entry slot_list_sort ⟨_, hoL, rfl⟩ entry_list_sort (list_sort_ord (s := { s with heap := h1.push (seqObj "list" vs.toArray 0), toks := tk }) (swo_lexI k) hoL hz
    (fun h2 => skind_sortable (s := { s with heap := h1.push (seqObj "list" vs.toArray 0), toks := tk }) h2 (hp.keeps keep) fun o e => by
      have e' : some o = some (seqObj "list" vs.toArray 0) := e.symm.trans hoL
      cases e'
      intro c
      exact absurd (Value.type.inj c) (by decide)) fun out hs hb => ⟨_, rfl, ?_⟩) (args_list_sort _)))
  obtain ⟨e', he'⟩ := sortedHeap_at (vs := vs) (out := out.toArray) hoL
  refine wpAny_pure ⟨_, rfl, h vs h1 _ _ out hvs hs hb hk (fun b o e => ?_) ⟨e', he'⟩⟩
  have hb : b < h1.objs.size := Heap.lt_size e
  rw [sortedHeap_old (Nat.ne_of_lt hb) (by rw [size_push']; exact Nat.lt_succ_of_lt hb)]
  exact Heap.get?_push_of_some _ e
end
end Wv

set_option Elab.async false
set_option linter.all false
set_option maxRecDepth 100000
set_option maxHeartbeats 4000000
namespace Wv
open PySem PySem.Spec PyProof.Rows L2

/-! ## sorted(..) -/
def vInt : V → Int
  | .int i => i
  | _ => 0
def keyV (H : Hp) : V → List Int
  | .int i => [i]
  | .ref t => match H t with
    | some (.tup us) => us.map vInt
    | _ => []
  | _ => []
def SKindV (H : Hp) (xs : List V) : Prop := (∀ x ∈ xs, ∃ i, x = .int i) ∨ ∀ x ∈ xs, ∃ t ns, x = .ref t ∧ H t = some (.tup (ns.map V.int)) ∧ (ns ≠ [] ∨ xs.length ≤ 1)
def back : Value → V
  | .int i _ => .int i
  | .ref a => .ref a
  | _ => .non
theorem vInt_map (ns : List Int) : (ns.map V.int).map vInt = ns := by
  rw [List.map_map]
  conv => rhs; rw [← List.map_id ns]
  rfl
def SCont (H : Hp) (Q : VK) (xs : List V) : Prop := SKindV H xs ∧ ∀ ys p, SrtO.Srtd (fun x y => lexI (keyV H x) (keyV H y)) ys → ys.Perm xs → H p = none → Q (.ref p) (upd H p (.lst ys))
def rSortedG (K : PySem.W.Frag) : List V → Hp → VK → Prop := fun vs H Q => ∃ a, vs = [V.ref a] ∧ ((∃ xs, (SqL K H a xs ∨ SqT K H a xs) ∧ SCont H Q xs) ∨ (∃ kvs, Rd H a (.dK kvs) ∧ SCont H Q (kvs.map fun p => kV p.1)) ∨ ∃ kvs, Rd H a (.dT kvs) ∧ ∀ bs, IsKeys H kvs bs → SCont H Q (bs.map V.ref))
section
variable {X : Cx} {pins : List (Addr × Obj)} {σ : St} {H : Hp} {s : Shared}
theorem back_vals : ∀ {xs : List V} {us : List Value}, Vals xs us → SKindV H xs → us.map back = xs
  | _, _, .nil, _ => rfl
  | x :: xs, u :: us, .cons r t, h => by
    rw [List.map_cons, back_vals t (h.imp (fun h y hy => h y (List.mem_cons_of_mem _ hy)) fun h y hy => by
      obtain ⟨t, ns, e1, e2, e3⟩ := h y (List.mem_cons_of_mem _ hy)
      exact ⟨t, ns, e1, e2, e3.imp id fun z => by rw [List.length_cons] at z; omega⟩)]
    rcases h with h | h
    · obtain ⟨i, rfl⟩ := h x List.mem_cons_self
      obtain ⟨t, rfl⟩ := r
      rfl
    · obtain ⟨t, ns, rfl, _⟩ := h x List.mem_cons_self
      cases r
      rfl
theorem Vals.mem {xs : List V} {us : List Value} (h : Vals xs us) : ∀ u ∈ us, ∃ x ∈ xs, RelV x u := by
  induction h with
  | nil => intro u hu; cases hu
  | cons r t ih =>
    intro u hu
    rcases List.mem_cons.mp hu with rfl | hu
    · exact ⟨_, List.mem_cons_self, r⟩
    · obtain ⟨x, hx, rx⟩ := ih u hu
      exact ⟨x, List.mem_cons_of_mem _ hx, rx⟩
theorem skind_of {xs : List V} {us : List Value} (I : Inv X pins σ H s) (r : Vals xs us) (h : SKindV H xs) : SKind s.heap us fun v => keyV H (back v) := by
  refine h.imp (fun h u hu => ?_) fun h u hu => ?_
  · obtain ⟨x, hx, rx⟩ := Vals.mem r u hu
    obtain ⟨i, rfl⟩ := h x hx
    obtain ⟨t, rfl⟩ := rx
    exact ⟨i, t, rfl, rfl⟩
  · obtain ⟨x, hx, rx⟩ := Vals.mem r u hu
    obtain ⟨t, ns, rfl, h1, h2⟩ := h x hx
    cases rx
    have ek : keyV H (.ref t) = ns := by
      show (match H t with | some (.tup us) => us.map vInt | _ => []) = ns
      rw [h1]
      exact vInt_map ns
    obtain ⟨its, rv, ⟨o, ho, hc, n, hd⟩, _⟩ := I.tuple (SqT.of (K := X.K) h1)
    refine ⟨⟨t, o, its.toArray, n, rfl, ho, hc, hd, ?_⟩, ?_⟩
    · show IntsAre its (keyV H (.ref t))
      rw [ek]; exact rv.ints
    · show keyV H (.ref t) ≠ [] ∨ _
      rw [ek]; exact h2.imp id fun z => by rw [← r.length]; exact z
theorem vals_back : ∀ {us : List Value}, (∀ u ∈ us, (∃ i t, u = .int i t) ∨ ∃ a, u = .ref a) → Vals (us.map back) us
  | [], _ => .nil
  | u :: us, h => by
    refine .cons ?_ (vals_back fun v hv => h v (List.mem_cons_of_mem _ hv))
    rcases h u List.mem_cons_self with ⟨i, t, rfl⟩ | ⟨a, rfl⟩
    · exact ⟨t, rfl⟩
    · exact rfl
theorem vals_ix : ∀ {xs : List V} {us : List Value}, xs.length = us.length → (∀ (j : Nat) (x : V) (u : Value), xs[j]? = some x → us[j]? = some u → RelV x u) → Vals xs us
  | [], [], _, _ => .nil
  | [], _ :: _, e, _ => by cases e
  | _ :: _, [], e, _ => by cases e
  | x :: xs, u :: us, e, h => .cons (h 0 x u rfl rfl) (vals_ix (by simpa using e) fun j y v h1 h2 => h (j + 1) y v (by simpa using h1) (by simpa using h2))
theorem sorted_go {a : Addr} {xs : List V} {Q : VK} (I : Inv X pins σ H s) (hc : SCont H Q xs)
    (hcol : ∀ {R : List Value → Shared → Prop}, (∀ us h' tk, Vals xs us ∧ us.length ≤ sizeLine → (∀ b o, s.heap.get? b = some o → h'.get? b = some o) → R us { s with heap := h', toks := tk }) → wpAny (model X.prog X.w) X.A.in1 (collect (.ref a)) R (fun e s' => X.xe e s') s) :
    wpAny (model X.prog X.w) X.A (call (.builtin "sorted") [.ref a]) (EP X pins σ Q) X.xe s := by
  refine sorted_col (C := fun us => Vals xs us ∧ us.length ≤ sizeLine) (k := fun v => keyV H (back v)) hcol (fun us hu => ⟨skind_of I hu.1 hc.1, hu.2⟩) fun us h1 h' tk out ⟨r, hz⟩ o1 o2 k1 k2 k3 => ?_
  have sk := skind_of I r hc.1
  obtain ⟨n, hn⟩ := k3
  have I1 : Inv X pins σ H { s with heap := h1, toks := tk } := I.kept k1
  have hm : ∀ u ∈ out, (∃ i t, u = Value.int i t) ∨ ∃ a, u = Value.ref a := fun u hu => by
    have hu' := o2.perm.mem_iff.mp hu
    rcases sk with sk | sk
    · obtain ⟨i, t, e, _⟩ := sk u hu'; exact .inl ⟨i, t, e⟩
    · obtain ⟨⟨a, _, _, _, e, _⟩, _⟩ := sk u hu'; exact .inr ⟨a, e⟩
  have pm : (out.map back).Perm xs := by
    have := o2.perm.map back
    rw [back_vals r hc.1] at this
    exact this
  have hlen : (out.map back).length ≤ sizeLine := by rw [List.length_map, o2.perm.length_eq]; exact hz
  refine ⟨.ref h1.objs.size, upd H h1.objs.size (.lst (out.map back)), I1.laid (t' := tk) k2 (Nat.le_refl _)
    (show ObjOk X.prog X.w _ _ _ (.lst (out.map back)) from ⟨hlen, out, n, vals_back hm, hn⟩), rfl, hc.2 _ _ (List.pairwise_map.mpr o1) pm (I1.hok.fresh (Nat.le_refl _))⟩
theorem call_sortedG (hcalm : X.calm = true) : CallR X (.builtin "sorted") (rSortedG X.K) := by
  intro pins s σ H vs us Q I r h
  obtain ⟨a, rfl, h⟩ := h
  obtain ⟨u, rfl, ru⟩ := r.one
  cases ru
  rcases h with ⟨xs, hs | hs, hc⟩ | ⟨kvs, hd, hc⟩ | ⟨kvs, hd, hc⟩
  · obtain ⟨its, rv, hl, hz⟩ := I.list hs
    have hz' : its.length ≤ sizeLine := by rw [← rv.length]; exact hz
    refine sorted_go I hc fun h => collect_list hl.isList (h _ _ s.toks ⟨rv, hz'⟩ fun b o e => ?_) hz'
    rw [Heap.get?_update_ne _ _ _ _ (Nat.ne_of_lt (Heap.lt_size e))]
    exact Heap.get?_push_of_some _ e
  · obtain ⟨its, rv, hl, hz⟩ := I.tuple hs
    have hz' : its.length ≤ sizeLine := by rw [← rv.length]; exact hz
    exact sorted_go I hc fun h => collect_tup hl (fun h' tk k => h _ h' tk ⟨rv, hz'⟩ k) hz'
  · obtain ⟨z, lo, vs, rel, dd⟩ := dk_rd I.hok hd
    obtain ⟨ep, hat⟩ := dd.dictAt
    have hlen : kvs.length = vs.length := Paired.length rel
    refine sorted_go I hc fun {R} h => PySem.W.kdu_collect (A := X.A.in1) (PySem.W.kdl_dict (knd := mixKind X.prog X.w) (kvs := vs) (ep := ep) lo) (I.ok.hd hcalm) hat (by omega) fun h' tk acc hk hacc => ?_
    have hal : acc.toList.length = vs.length := by rw [Array.length_toList, hacc.1]
    refine h _ h' tk ⟨?_, by omega⟩ hk
    have hks : vs.map (·.1) = kvs.map (·.1) := rel.keys.symm
    refine vals_ix (by rw [List.length_map]; omega) fun j x u hx hu => ?_
    rw [List.getElem?_map] at hx
    obtain ⟨p, hp, rfl⟩ := Option.map_eq_some_iff.mp hx
    obtain ⟨k, y, e1, e2⟩ := hacc.2 j u (by rw [← Array.getElem?_toList]; exact hu)
    have e3 : (vs.map (·.1))[j]? = some k := by rw [List.getElem?_map, e1]; rfl
    rw [hks, List.getElem?_map, hp] at e3
    cases e3
    exact relV_key e2
  · obtain ⟨z, hs, ks, pr, o, es, ep, ho, hx, hdt, he, hn⟩ := (show ObjOk X.prog X.w H s.heap a (.dT kvs) from hd.ok I.hok)
    have l1 : es.size = ks.length := size_of_entries he
    have l2 : kvs.length = ks.length := Paired.length pr
    refine sorted_go I (hc _ (isKeys_of pr)) fun {R} h => PySem.W.kdu_collect (A := X.A.in1) (kdl_raw hs hx hdt) (I.ok.hd hcalm) ho (by omega) fun h' tk acc hk hacc => ?_
    have hal : acc.toList.length = ks.length := by rw [Array.length_toList, hacc.1, l1]
    refine h _ h' tk ⟨?_, by omega⟩ hk
    refine vals_ix (by rw [List.length_map, List.length_map]; omega) fun j x u hx hu => ?_
    obtain ⟨en, hen, hv⟩ := hacc.2 j u (by rw [← Array.getElem?_toList]; exact hu)
    have qe := entry_at he j
    rw [hen] at qe
    rw [List.getElem?_map, List.getElem?_map] at hx
    cases hb : ks[j]? with
    | none => rw [hb] at hx; cases hx
    | some b =>
      rw [hb] at qe hx
      have e2 : en = entryOfKey (tupleKind (mixKind X.prog X.w)) b := Option.some.inj qe
      cases hx
      rw [hv, e2]
      exact rfl
end
end Wv

set_option Elab.async false
set_option linter.all false
set_option maxRecDepth 100000
namespace Wv
open PySem PySem.Spec PyProof.Rows L2

/-! ## the order's rows by value -/
def imInt : Im → Int
  | .int i => i
  | _ => 0
def imK : Im → List Int
  | .int i => [i]
  | .tup l => l.map imInt
  | _ => []
def Im.isInt : Im → Bool
  | .int _ => true
  | _ => false
def Im.isRow : Im → Bool
  | .tup l => l.all Im.isInt && !l.isEmpty
  | _ => false
def Im.isRow0 : Im → Bool
  | .tup l => l.all Im.isInt
  | _ => false
def okS (l : List Im) : Bool := (l.all Im.isInt || l.all Im.isRow) || (decide (l.length ≤ 1) && l.all Im.isRow0)
def insI (x : Im) : List Im → List Im
  | [] => [x]
  | y :: r => if lexI (imK y) (imK x) = true then y :: insI x r else x :: y :: r
def srtI : List Im → List Im
  | [] => []
  | x :: r => insI x (srtI r)
abbrev ltI (x y : Im) : Bool := lexI (imK x) (imK y)
theorem insI_perm (x : Im) : ∀ l, (insI x l).Perm (x :: l)
  | [] => List.Perm.refl _
  | y :: r => by
    unfold insI
    split
    · exact ((insI_perm x r).cons y).trans (List.Perm.swap x y r)
    · exact List.Perm.refl _
theorem srtI_perm : ∀ l, (srtI l).Perm l
  | [] => List.Perm.refl _
  | x :: r => (insI_perm x (srtI r)).trans ((srtI_perm r).cons x)
theorem insI_srt (x : Im) : ∀ {l}, SrtO.Srtd ltI l → SrtO.Srtd ltI (insI x l)
  | [], _ => List.pairwise_singleton _ _
  | y :: r, h => by
    have O := swo_lexI imK
    have h' := List.pairwise_cons.mp h
    unfold insI
    split
    · rename_i c
      refine List.pairwise_cons.mpr ⟨fun z hz => ?_, insI_srt x h'.2⟩
      rcases List.mem_cons.mp ((insI_perm x r).mem_iff.mp hz) with rfl | hz
      · exact lexI_asym c
      · exact h'.1 z hz
    · rename_i c
      have c : lexI (imK y) (imK x) = false := by simpa using c
      refine List.pairwise_cons.mpr ⟨fun z hz => ?_, h⟩
      rcases List.mem_cons.mp hz with rfl | hz
      · exact c
      · exact lexI_tr c (h'.1 z hz)
theorem srtI_srt : ∀ l, SrtO.Srtd ltI (srtI l)
  | [] => List.Pairwise.nil
  | x :: r => insI_srt x (srtI_srt r)
theorem perm_uniq {α : Type} {lt : α → α → Bool} : ∀ {l m : List α}, SrtO.Srtd lt l → SrtO.Srtd lt m → l.Perm m → (∀ x ∈ l, lt x x = false) → (∀ x ∈ l, ∀ y ∈ l, lt x y = false → lt y x = false → x = y) → l = m
  | [], m, _, _, h, _, _ => (List.Perm.nil_eq h)
  | x :: l, [], _, _, h, _, _ => absurd h.length_eq (by simp)
  | x :: l, y :: m, h1, h2, h, rf, an => by
    have hy : y ∈ x :: l := h.mem_iff.mpr List.mem_cons_self
    have hx : x ∈ y :: m := h.mem_iff.mp List.mem_cons_self
    have a : lt y x = false := by
      rcases List.mem_cons.mp hy with e | hy
      · rw [e]; exact rf x List.mem_cons_self
      · exact (List.pairwise_cons.mp h1).1 y hy
    have b : lt x y = false := by
      rcases List.mem_cons.mp hx with e | hx
      · rw [← e]; exact rf x List.mem_cons_self
      · exact (List.pairwise_cons.mp h2).1 x hx
    have e := an x List.mem_cons_self y hy b a
    subst e
    rw [perm_uniq (List.pairwise_cons.mp h1).2 (List.pairwise_cons.mp h2).2 h.cons_inv (fun z hz => rf z (List.mem_cons_of_mem _ hz)) fun z hz w hw => an z (List.mem_cons_of_mem _ hz) w (List.mem_cons_of_mem _ hw)]
def rowI (l : List Int) : Im := .tup (l.map .int)
theorem isInt_eq {i : Im} (h : i.isInt = true) : i = .int (imInt i) := by cases i <;> simp [Im.isInt] at h; rfl
theorem ints_eq : ∀ {l : List Im}, l.all Im.isInt = true → l = (l.map imInt).map .int
  | [], _ => rfl
  | i :: r, h => by
    rw [List.all_cons, Bool.and_eq_true] at h
    rw [List.map_cons, List.map_cons, ← ints_eq h.2, ← isInt_eq h.1]
theorem isRow_eq {i : Im} (h : i.isRow = true) : i = rowI (imK i) ∧ imK i ≠ [] := by
  cases i with
  | tup l =>
    simp only [Im.isRow, Bool.and_eq_true, Bool.not_eq_true', List.isEmpty_eq_false_iff] at h
    refine ⟨?_, ?_⟩
    · unfold rowI
      show Im.tup l = .tup ((l.map imInt).map .int)
      rw [← ints_eq h.1]
    · show l.map imInt ≠ []
      simpa using h.2
  | _ => cases h
theorem isRow0_eq {i : Im} (h : i.isRow0 = true) : i = rowI (imK i) := by
  cases i with
  | tup l =>
    unfold rowI
    show Im.tup l = .tup ((l.map imInt).map .int)
    rw [← ints_eq h]
  | _ => cases h
theorem okS_cases {l : List Im} (h : okS l = true) : (∀ x ∈ l, x.isInt = true) ∨ ∀ x ∈ l, x = rowI (imK x) ∧ (imK x ≠ [] ∨ l.length ≤ 1) := by
  unfold okS at h
  rw [Bool.or_eq_true, Bool.or_eq_true, Bool.and_eq_true, List.all_eq_true, List.all_eq_true, List.all_eq_true, decide_eq_true_eq] at h
  rcases h with (h | h) | ⟨h1, h⟩
  · exact .inl h
  · exact .inr fun x hx => ⟨(isRow_eq (h x hx)).1, .inl (isRow_eq (h x hx)).2⟩
  · exact .inr fun x hx => ⟨isRow0_eq (h x hx), .inr h1⟩
theorem okS_anti {l : List Im} (h : okS l = true) : ∀ x ∈ l, ∀ y ∈ l, ltI x y = false → ltI y x = false → x = y := fun x hx y hy a b => by
  have e : imK x = imK y := lexI_tot a b
  rcases okS_cases h with h | h
  · rw [isInt_eq (h x hx), isInt_eq (h y hy)]
    have h1 := isInt_eq (h x hx)
    have h2 := isInt_eq (h y hy)
    rw [h1, h2] at e
    have : [imInt x] = [imInt y] := e
    rw [List.cons.inj this |>.1]
  · rw [(h x hx).1, (h y hy).1, e]
/-- the sorted list is the only one -/
theorem srtI_uniq {l m : List Im} (h : okS l = true) (hm : SrtO.Srtd ltI m) (p : m.Perm l) : m = srtI l := by
  refine perm_uniq hm (srtI_srt l) (p.trans (srtI_perm l).symm) (fun x _ => lexI_irr _) fun x hx y hy => ?_
  exact okS_anti h x (p.mem_iff.mp hx) y (p.mem_iff.mp hy)

/-- what is walked, by value -/
def colOf : Dt → Option (List Im)
  | .lst l => dimOf l
  | .im (.tup l) => some l
  | .dic _ l => some (l.map (·.1))
  | _ => none
def sortedH : List Vl → R Vl
  | [a] => match colOf a.d with
    | some l => if okS l = true then .ok (.o (.lst ((srtI l).map .im))) else .no
    | none => .no
  | _ => .no
def toI (H : Hp) : V → Im
  | .int i => .int i
  | x => rowI (keyV H x)
section
variable {X : Cx} {K : PySem.W.Frag} {H : Hp}
theorem RepIs.mem {l : List Im} {xs : List V} (h : RepIs K H l xs) : ∀ x ∈ xs, ∃ i ∈ l, RepI K H i x := by
  induction l generalizing xs with
  | nil => cases h; intro x hx; cases hx
  | cons i r ih =>
    cases h with
    | cons a b =>
      intro x hx
      rcases List.mem_cons.mp hx with rfl | hx
      · exact ⟨i, List.mem_cons_self, a⟩
      · obtain ⟨j, hj, r⟩ := ih b x hx
        exact ⟨j, List.mem_cons_of_mem _ hj, r⟩
theorem RepI.row {ns : List Int} {x : V} (h : RepI K H (rowI ns) x) : ∃ t, x = .ref t ∧ H t = some (.tup (ns.map V.int)) := by
  obtain ⟨p, vs, rfl, h1, h2⟩ := h.tup_inv
  refine ⟨p, rfl, ?_⟩
  have : ∀ {ns : List Int} {vs : List V}, RepIs K H (ns.map .int) vs → vs = ns.map V.int := by
    intro ns
    induction ns with
    | nil => intro vs h; cases h; rfl
    | cons n r ih => intro vs h; cases h with | cons a b => rw [a.int_inv, ih b, List.map_cons]
  rw [this h2] at h1
  exact h1
theorem RepI.row' {ns : List Int} {t : Addr} (h : H t = some (.tup (ns.map V.int))) : RepI K H (rowI ns) (.ref t) := by
  refine .tup h ?_
  have : ∀ ns : List Int, RepIs K H (ns.map .int) (ns.map V.int) := fun ns => by
    induction ns with
    | nil => exact .nil
    | cons n r ih => exact .cons .int ih
  exact this ns
theorem toI_of {l : List Im} {i : Im} {x : V} (hk : okS l = true) (hi : i ∈ l) (r : RepI K H i x) : toI H x = i ∧ imK i = keyV H x := by
  rcases okS_cases hk with h | h
  · have e := isInt_eq (h i hi)
    rw [e] at r ⊢
    obtain rfl := r.int_inv
    exact ⟨rfl, rfl⟩
  · have e := (h i hi).1
    generalize imK i = ns at e
    subst e
    obtain ⟨t, rfl, ht⟩ := r.row
    have ek : keyV H (.ref t) = ns := by
      show (match H t with | some (.tup us) => us.map vInt | _ => []) = ns
      rw [ht]
      exact vInt_map ns
    refine ⟨by show rowI (keyV H (.ref t)) = _; rw [ek], ?_⟩
    rw [ek]
theorem scont_of {l : List Im} {xs : List V} {Q : VK} {O O' : Ow} {H0 : Hp} (r : RepIs K H l xs) (hk : okS l = true) (lv : ∀ a, O' a ≠ .no → H a ≠ none) (gr : ∀ a, H0 a ≠ none → H a ≠ none)
    (p : ∀ v H2 F, Ext H H2 → VlOk K O H0 O' H2 (.o (.lst ((srtI l).map .im))) v F → Q v H2) : SCont H Q xs := by
  refine ⟨?_, fun ys q o pm hq => p _ _ _ (Ext.upd hq) (newL_im ?_ lv gr hq)⟩
  · refine (okS_cases hk).imp (fun h x hx => ?_) fun h x hx => ?_
    · obtain ⟨i, hi, ri⟩ := r.mem x hx
      rw [isInt_eq (h i hi)] at ri
      exact ⟨_, ri.int_inv⟩
    · obtain ⟨i, hi, ri⟩ := r.mem x hx
      obtain ⟨e1, e2⟩ := h i hi
      rw [e1] at ri
      obtain ⟨t, e, ht⟩ := ri.row
      exact ⟨t, _, e, ht, e2.imp id fun z => by rw [← r.len]; exact z⟩
  · have el : l = xs.map (toI H) := by
      have : ∀ {m : List Im} {zs : List V}, RepIs K H m zs → (∀ i ∈ m, i ∈ l) → m = zs.map (toI H) := by
        intro m
        induction m with
        | nil => intro zs h _; cases h; rfl
        | cons i m ih =>
          intro zs h hm
          cases h with
          | cons a b => rw [List.map_cons, ← ih b fun j hj => hm j (List.mem_cons_of_mem _ hj), (toI_of hk (hm i List.mem_cons_self) a).1]
      exact this r fun _ h => h
    have key : ∀ y ∈ ys, ∃ i ∈ l, RepI K H i y := fun y hy => r.mem y (pm.mem_iff.mp hy)
    have eu : ys.map (toI H) = srtI l := by
      refine srtI_uniq hk ?_ ?_
      · refine List.pairwise_map.mpr (o.imp_of_mem fun {x y} hx hy h => ?_)
        obtain ⟨i, hi, ri⟩ := key x hx
        obtain ⟨j, hj, rj⟩ := key y hy
        obtain ⟨e1, e2⟩ := toI_of hk hi ri
        obtain ⟨e3, e4⟩ := toI_of hk hj rj
        show lexI (imK (toI H y)) (imK (toI H x)) = false
        rw [e1, e3, e2, e4]
        exact h
      · rw [el]; exact pm.map _
    rw [← eu]
    have : ∀ {zs : List V}, (∀ y ∈ zs, y ∈ ys) → RepDs K H ((zs.map (toI H)).map .im) zs [] := by
      intro zs
      induction zs with
      | nil => intro _; exact .nil
      | cons z zs ih =>
        intro h
        obtain ⟨i, hi, ri⟩ := key z (h z List.mem_cons_self)
        rw [← (toI_of hk hi ri).1] at ri
        exact (List.append_nil ([] : List Addr)) ▸ RepDs.cons (.im ri) (ih fun y hy => h y (List.mem_cons_of_mem _ hy))
    exact this fun _ h => h
theorem pu_sorted : PuN K (rSortedG K) sortedH := by
  intro O H O' H' rs vs G r Q e lv gr w p
  unfold sortedH at e
  split at e <;> first | cases e | skip
  rename_i a
  split at e <;> first | cases e | skip
  rename_i l hl
  have hk : okS l = true := by
    by_cases hk : okS l = true
    · exact hk
    · rw [if_neg hk] at e; cases e
  rw [if_pos hk] at e
  cases e
  obtain ⟨v, F, rfl, k⟩ := one_ok w
  have kr := k.rep
  generalize a.d = d at kr hl
  cases d with
  | lst m =>
    obtain ⟨b, xs, G, rfl, rfl, h3, h4⟩ := kr.lst_inv
    exact ⟨b, rfl, .inl ⟨xs, .inl (.of h3), scont_of (h4.dims hl) hk lv gr p⟩⟩
  | im i =>
    cases i with
    | tup m =>
      cases hl
      obtain ⟨b, xs, rfl, h3, h4⟩ := kr.im_inv.tup_inv
      exact ⟨b, rfl, .inl ⟨xs, .inr (.of h3), scont_of h4 hk lv gr p⟩⟩
    | _ => cases hl
  | dic t m =>
    have hl2 : m.map (·.1) = l := Option.some.inj hl
    cases kr with
    | @dicK _ b kvs G r e1 e2 =>
      refine ⟨b, rfl, .inr (.inl ⟨kvs, r, scont_of (l := l) ?_ hk lv gr p⟩)⟩
      rw [← hl2, e1.1]
      have : ∀ kvs : List (Key × V), RepIs K H' (kvs.map fun p => keyI p.1) (kvs.map fun p => kV p.1) := fun kvs => by
        induction kvs with
        | nil => exact .nil
        | cons q r ih => exact .cons .key' ih
      exact this kvs
    | @dicT _ b kvs G r e1 e2 =>
      refine ⟨b, rfl, .inr (.inr ⟨kvs, r, fun bs hbs => scont_of (l := l) ?_ hk lv gr p⟩)⟩
      rw [← hl2, e1.1]
      have hks : ∀ k : List Key, RepIs K H' (k.map keyI) (k.map kV) := fun k => by
        induction k with
        | nil => exact .nil
        | cons q r ih => exact .cons .key' ih
      have : ∀ {kvs : List (List Key × V)} {bs : List Addr}, IsKeys H' kvs bs → RepIs K H' (kvs.map fun p => tkI p.1) (bs.map V.ref) := by
        intro kvs bs h
        unfold IsKeys at h
        induction h with
        | nil => exact .nil
        | cons h t ih => exact .cons (.tup h (hks _)) ih
      exact this hbs
  | scr m => cases hl
  | tpl m => cases hl
end
end Wv

set_option Elab.async false
set_option linter.all false
set_option maxRecDepth 100000
namespace Wv
open PySem PySem.Spec PyProof.Rows L2

/-! ## sum, min, max of a list or a tuple -/
def rSumA (K : PySem.W.Frag) : List V → Hp → VK → Prop := fun vs H Q => ∃ (a : Addr) (ns : List Int), vs = [V.ref a] ∧ (SqL K H a (ns.map V.int) ∨ SqT K H a (ns.map V.int)) ∧ Q (.int ns.sum) H
/-- the first of the least (mx: of the greatest) -/
def bestI (mx : Bool) (a : Im) (l : List Im) : Im := l.foldl (fun a y => if (if mx then ltI a y else ltI y a) = true then y else a) a
def rBest (K : PySem.W.Frag) (mx : Bool) : List V → Hp → VK → Prop := fun vs H Q => ∃ (a : Addr) (xs : List V) (i : Im) (l : List Im), vs = [V.ref a] ∧ (SqL K H a xs ∨ SqT K H a xs) ∧ RepIs K H (i :: l) xs ∧ okS (i :: l) = true ∧ ∀ x, x ∈ xs → RepI K H (bestI mx i l) x → Q x H
def imsIn : Dt → Option (List Im)
  | .lst l => dimOf l
  | .im (.tup l) => some l
  | _ => none
def imInts : List Im → Option (List Int)
  | [] => some []
  | .int i :: r => (imInts r).map (i :: ·)
  | _ => none
def sumH : List Vl → R Vl
  | [a] => match (imsIn a.d).bind imInts with
    | some ns => .ok (vI ns.sum)
    | none => .no
  | _ => .no
def bestH (mx : Bool) : List Vl → R Vl
  | [a] => match imsIn a.d with
    | some (i :: l) => if okS (i :: l) = true then .ok (.o (.im (bestI mx i l))) else .no
    | _ => .no
  | _ => .no
theorem pdIs_map : ∀ l : List Im, pdIs l = l.map pdI
  | [] => rfl
  | i :: r => by rw [pdIs, pdIs_map r, List.map_cons]
theorem pdI_row (ns : List Int) : pdI (rowI ns) = .tuple (ns.map .int) := by
  unfold rowI
  rw [pdI, pdIs_map, List.map_map]
  rfl
theorem lexI_lt : ∀ a b : List Int, lexI a b = decide (a < b)
  | [], [] => by simp [lexI]
  | [], _ :: _ => by simp [lexI]
  | _ :: _, [] => by simp [lexI]
  | x :: r, y :: s => by
    unfold lexI
    by_cases h : x = y
    · rw [if_pos h, lexI_lt r s]; simp [h, List.cons_lt_cons_iff]
    · rw [if_neg h]; simp [h, List.cons_lt_cons_iff]
theorem dataLt_rows (a b : List Int) : PySem.W.dataLt (.tuple (a.map .int)) (.tuple (b.map .int)) = lexI a b := by
  rw [lexI_lt, ← PySem.W.dataLt_ints]
  rfl
/-- two that are ordered alike -/
theorem okS_two {l : List Im} (h : okS l = true) : ∀ x ∈ l, ∀ y ∈ l, (x = .int (imInt x) ∧ y = .int (imInt y)) ∨ (x = rowI (imK x) ∧ y = rowI (imK y)) := fun x hx y hy => by
  exact (okS_cases h).imp (fun h => ⟨isInt_eq (h x hx), isInt_eq (h y hy)⟩) fun h => ⟨(h x hx).1, (h y hy).1⟩
theorem okS_lt {l : List Im} (h : okS l = true) {x y : Im} (hx : x ∈ l) (hy : y ∈ l) : PySem.W.dataLt (pdI x) (pdI y) = ltI x y := by
  rcases okS_two h x hx y hy with ⟨e1, e2⟩ | ⟨e1, e2⟩
  · rw [e1, e2]
    show PySem.W.dataLt (.int _) (.int _) = lexI [_] [_]
    rw [PySem.W.dataLt_int, lexI_one]
  · generalize imK x = a at e1
    generalize imK y = b at e2
    subst e1 e2
    rw [pdI_row, pdI_row, dataLt_rows]
    show _ = lexI ((a.map Im.int).map imInt) ((b.map Im.int).map imInt)
    have : ∀ l : List Int, (l.map Im.int).map imInt = l := fun l => by rw [List.map_map]; exact (List.map_congr_left fun _ _ => rfl).trans (List.map_id l)
    rw [this, this]
theorem alike_rows : ∀ a b : List Int, PySem.W.alikeAll (a.map .int) (b.map .int) = true
  | [], _ => by simp [PySem.W.alikeAll]
  | _ :: _, [] => by simp [PySem.W.alikeAll]
  | x :: r, y :: s => by simp [PySem.W.alikeAll, PySem.W.alike, alike_rows r s]
theorem okS_alike {l : List Im} (h : okS l = true) : PySem.W.AlikeAll (l.map pdI) := by
  refine ⟨fun x hx y hy => ?_, fun x hx => ?_⟩
  · obtain ⟨i, hi, rfl⟩ := List.mem_map.mp hx
    obtain ⟨j, hj, rfl⟩ := List.mem_map.mp hy
    rcases okS_two h i hi j hj with ⟨e1, e2⟩ | ⟨e1, e2⟩
    · rw [e1, e2]; rfl
    · rw [e1, e2, pdI_row, pdI_row]
      show PySem.W.alikeAll _ _ = true
      exact alike_rows _ _
  · obtain ⟨i, hi, rfl⟩ := List.mem_map.mp hx
    rcases okS_two h i hi i hi with ⟨e1, _⟩ | ⟨e1, _⟩
    · rw [e1]; simp [pdI]
    · rw [e1, pdI_row]; simp
theorem depth_row : ∀ a : List Int, PyData.depthAll (a.map .int) = 0
  | [] => rfl
  | x :: r => by simp [PyData.depthAll, PyData.depth, depth_row r]
theorem okS_depth {l : List Im} (h : okS l = true) : PyData.depthAll (l.map pdI) ≤ 1 := by
  have key : ∀ i ∈ l, PyData.depth (pdI i) ≤ 1 := fun i hi => by
    rcases okS_two h i hi i hi with ⟨e1, _⟩ | ⟨e1, _⟩
    · rw [e1]; simp [pdI, PyData.depth]
    · rw [e1, pdI_row]; simp [PyData.depth, depth_row]
  have : ∀ m : List Im, (∀ i ∈ m, PyData.depth (pdI i) ≤ 1) → PyData.depthAll (m.map pdI) ≤ 1 := by
    intro m
    induction m with
    | nil => intro _; simp [PyData.depthAll]
    | cons i r ih =>
      intro hm
      rw [List.map_cons, PyData.depthAll]
      exact Nat.max_le.mpr ⟨hm i List.mem_cons_self, ih fun j hj => hm j (List.mem_cons_of_mem _ hj)⟩
  exact this l key
theorem lay_row : ∀ a : List Int, PyData.canLayAll0 (a.map .int) = true
  | [] => rfl
  | x :: r => by simp [PyData.canLayAll0, PyData.canLay0, lay_row r]
theorem okS_lay {l : List Im} (h : okS l = true) : ∀ i ∈ l, PyData.canLay0 (pdI i) = true := fun i hi => by
  rcases okS_two h i hi i hi with ⟨e1, _⟩ | ⟨e1, _⟩
  · rw [e1]; rfl
  · rw [e1, pdI_row]
    show PyData.canLayAll0 _ = true
    exact lay_row _
theorem okS_inj {l : List Im} (h : okS l = true) {x y : Im} (hx : x ∈ l) (hy : y ∈ l) (e : pdI x = pdI y) : x = y := by
  rcases okS_two h x hx y hy with ⟨e1, e2⟩ | ⟨e1, e2⟩
  · rw [e1, e2] at e
    rw [e1, e2]
    have e : PyData.int _ = PyData.int _ := e
    injection e with e
    rw [e]
  · rw [e1, e2, pdI_row, pdI_row] at e
    injection e with e
    have : imK x = imK y := by
      have : ∀ {a b : List Int}, a.map PyData.int = b.map PyData.int → a = b := by
        intro a
        induction a with
        | nil => intro b e; cases b with
          | nil => rfl
          | cons _ _ => cases e
        | cons x r ih => intro b e; cases b with
          | nil => cases e
          | cons y s =>
            rw [List.map_cons, List.map_cons] at e
            injection e with e1 e2
            injection e1 with e1
            rw [e1, ih e2]
      exact this e
    rw [e1, e2, this]
theorem best_mem (mx : Bool) : ∀ (l : List Im) (a : Im), bestI mx a l ∈ a :: l
  | [], a => List.mem_singleton.mpr rfl
  | y :: r, a => by
    show bestI mx (if (if mx then ltI a y else ltI y a) = true then y else a) r ∈ _
    have := best_mem mx r (if (if mx then ltI a y else ltI y a) = true then y else a)
    rcases List.mem_cons.mp this with h | h
    · rw [h]
      by_cases c : (if mx then ltI a y else ltI y a) = true
      · rw [if_pos c]; exact List.mem_cons_of_mem _ List.mem_cons_self
      · rw [if_neg c]; exact List.mem_cons_self
    · exact List.mem_cons_of_mem _ (List.mem_cons_of_mem _ h)
theorem best_min {l0 : List Im} (h : okS l0 = true) : ∀ (l : List Im) (a : Im), a ∈ l0 → (∀ y ∈ l, y ∈ l0) → pdI (bestI false a l) = PySem.W.minD (pdI a) (l.map pdI) ∧ pdI (bestI true a l) = PySem.W.maxD (pdI a) (l.map pdI)
  | [], a, _, _ => ⟨rfl, rfl⟩
  | y :: r, a, ha, hl => by
    have hy := hl y List.mem_cons_self
    have hr : ∀ z ∈ r, z ∈ l0 := fun z hz => hl z (List.mem_cons_of_mem _ hz)
    refine ⟨?_, ?_⟩
    · show pdI (bestI false (if ltI y a = true then y else a) r) = PySem.W.minD (if PySem.W.dataLt (pdI y) (pdI a) = true then pdI y else pdI a) (r.map pdI)
      rw [okS_lt h hy ha]
      split
      · exact (best_min h r y hy hr).1
      · exact (best_min h r a ha hr).1
    · show pdI (bestI true (if ltI a y = true then y else a) r) = PySem.W.maxD (if PySem.W.dataLt (pdI a) (pdI y) = true then pdI y else pdI a) (r.map pdI)
      rw [okS_lt h ha hy]
      split
      · exact (best_min h r y hy hr).2
      · exact (best_min h r a ha hr).2
section
variable {X : Cx} {K : PySem.W.Frag}
theorem RepIs.at' {H : Hp} {l : List Im} {vs : List V} {i : Nat} {v : V} (h : RepIs K H l vs) (e : vs[i]? = some v) : ∃ d, l[i]? = some d ∧ RepI K H d v := by
  obtain ⟨hi, rfl⟩ := List.getElem?_eq_some_iff.mp e
  have hl : i < l.length := by rw [h.len]; exact hi
  obtain ⟨w, h1, h2⟩ := h.at (List.getElem?_eq_getElem hl)
  rw [e] at h1; cases h1
  exact ⟨_, List.getElem?_eq_getElem hl, h2⟩
theorem cr_sumA (hc : X.calm = true) : CallR X (.builtin "sum") (rSumA X.K) := by
  intro pins s σ H vs us Q I r h
  obtain ⟨a, ns, rfl, hs | hs, q⟩ := h
  · exact cr_sum hc pins s σ H _ us Q I r ⟨a, ns, rfl, hs, q⟩
  · obtain ⟨its, rv, ht, _⟩ := I.tuple hs
    rw [Vals.ref1 r]
    obtain ⟨xs, e⟩ := rv.ints.allInts.items
    have hn : numsOf (intItems xs).toList = ns := by rw [← e]; exact rv.ints.numsOf
    rw [nums_intItems] at hn
    rw [e] at ht
    refine PySem.W.ktm_sumG (I.ok.hd hc) ht fun h' tk t' hk => ?_
    have : preSum (numAt xs) xs.size = ns.sum := by rw [preSum_eq, List.take_of_length_le (by simp), hn]
    rw [this]
    exact ⟨.int _, H, I.kept hk, ⟨_, rfl⟩, q⟩
theorem cr_best (hc : X.calm = true) (hu : X.A.units + 65 < cLine) (mx : Bool) : CallR X (.builtin (if mx then "max" else "min")) (rBest X.K mx) := by
  intro pins s σ H vs us Q I r h
  obtain ⟨a, xs, i, l, rfl, hs, rp, hk, q⟩ := h
  rw [Vals.ref1 r]
  have dp : DpAll X.K H xs ((i :: l).map pdI) := by rw [← pdIs_map]; exact rp.dp
  have hd := okS_depth hk
  have fin : ∀ {its : List Value}, Vals xs its → ∃ as, ReadsAll s.heap its ((i :: l).map pdI) as ∧ ∀ (b : PyData) (j : Nat) v h' tk bs, b = pdI (bestI mx i l) → its[j]? = some v → Reads h' v b bs → (∀ b o, s.heap.get? b = some o → h'.get? b = some o) → EP X pins σ Q v { s with heap := h', toks := tk } := by
    intro its rv
    obtain ⟨as, rd⟩ := Dp.readsAll I _ _ _ dp rv
    refine ⟨as, rd, fun b j v h' tk bs eb hj hr k => ?_⟩
    obtain ⟨x, hx, rx⟩ : ∃ x, xs[j]? = some x ∧ RelV x v := by
      have hl := rv.length
      obtain ⟨hj', rfl⟩ := List.getElem?_eq_some_iff.mp hj
      have hx : j < xs.length := by omega
      obtain ⟨u, hu, ru⟩ := rv.get (List.getElem?_eq_getElem hx)
      rw [hj] at hu; cases hu
      exact ⟨_, List.getElem?_eq_getElem hx, ru⟩
    obtain ⟨d, hd, rd'⟩ := rp.at' hx
    have hdm : d ∈ i :: l := List.mem_of_getElem? hd
    obtain ⟨as', r'⟩ := Dp.reads I _ _ _ rd'.dp rx
    have e1 : pdI d = b := (PySem.Reads.unique (PyProof.Rows.Reads.keeps k r') _ _ hr).1
    rw [eb] at e1
    have e2 := okS_inj hk hdm (best_mem mx l i) e1
    subst e2
    exact ⟨x, H, I.kept k, rx, q x (List.mem_of_getElem? hx) rd'⟩
  have al := okS_alike hk
  rw [List.map_cons] at al hd
  have hb := best_min hk l i List.mem_cons_self fun y hy => List.mem_cons_of_mem _ hy
  have hA : X.A.units + 1 + PyData.depthAll (pdI i :: l.map pdI) < cLine := by omega
  rcases hs with hs | hs
  · obtain ⟨its, rv, hl, _⟩ := I.list hs
    obtain ⟨as, rd, fin⟩ := fin rv
    rw [List.map_cons] at rd
    cases mx with
    | true => exact PySem.W.max_list_data (I.ok.hd hc) hl.isList (by simpa using rd) al hA fun j v h' tk bs hj hr k => fin _ j v h' tk bs hb.2.symm (by simpa using hj) hr k
    | false => exact PySem.W.min_list_data (I.ok.hd hc) hl.isList (by simpa using rd) al hA fun j v h' tk bs hj hr k => fin _ j v h' tk bs hb.1.symm (by simpa using hj) hr k
  · obtain ⟨its, rv, hl, _⟩ := I.tuple hs
    obtain ⟨as, rd, fin⟩ := fin rv
    rw [List.map_cons] at rd
    cases mx with
    | true => exact PySem.W.max_tuple_data (I.ok.hd hc) hl (by simpa using rd) al hA fun j v h' tk bs hj hr k => fin _ j v h' tk bs hb.2.symm (by simpa using hj) hr k
    | false => exact PySem.W.min_tuple_data (I.ok.hd hc) hl (by simpa using rd) al hA fun j v h' tk bs hj hr k => fin _ j v h' tk bs hb.1.symm (by simpa using hj) hr k
theorem imInts_eq : ∀ {l : List Im} {ns : List Int}, imInts l = some ns → l = ns.map .int
  | [], _, h => by cases h; rfl
  | i :: r, ns, h => by
    cases i <;> first | cases h | skip
    simp only [imInts, Option.map_eq_some_iff] at h
    obtain ⟨m, e, rfl⟩ := h
    rw [imInts_eq e, List.map_cons]
theorem imsIn_of {O O' : Ow} {H H' : Hp} {a : Vl} {v : V} {F : List Addr} {l : List Im} (k : VlOk K O H O' H' a v F) (e : imsIn a.d = some l) : ∃ b xs, v = .ref b ∧ (SqL K H' b xs ∨ SqT K H' b xs) ∧ RepIs K H' l xs := by
  have kr := k.rep
  generalize a.d = d at kr e
  cases d with
  | lst m =>
    obtain ⟨b, xs, G, rfl, rfl, h3, h4⟩ := kr.lst_inv
    exact ⟨b, xs, rfl, .inl (.of h3), h4.dims e⟩
  | im i =>
    cases i with
    | tup m =>
      cases e
      obtain ⟨b, xs, rfl, h3, h4⟩ := kr.im_inv.tup_inv
      exact ⟨b, xs, rfl, .inr (.of h3), h4⟩
    | _ => cases e
  | _ => cases e
theorem pu_sum : PuN K (rSumA K) sumH := by
  intro O H O' H' rs vs G r Q e lv gr w p
  unfold sumH at e
  split at e <;> first | cases e | skip
  split at e <;> cases e
  rename_i ns hn
  obtain ⟨l, h1, h2⟩ := Option.bind_eq_some_iff.mp hn
  obtain ⟨v, F, rfl, k⟩ := one_ok w
  obtain ⟨b, xs, rfl, h3, h4⟩ := imsIn_of k h1
  obtain rfl := imInts_eq h2
  have : xs = ns.map V.int := by
    have : ∀ {ns : List Int} {vs : List V}, RepIs K H' (ns.map .int) vs → vs = ns.map V.int := by
      intro ns
      induction ns with
      | nil => intro vs h; cases h; rfl
      | cons n r ih => intro vs h; cases h with | cons a b => rw [a.int_inv, ih b, List.map_cons]
    exact this h4
  subst this
  exact ⟨b, ns, rfl, h3, p _ H' [] (Ext.refl _) (.imm .int)⟩
theorem pu_best (mx : Bool) : PuN K (rBest K mx) (bestH mx) := by
  intro O H O' H' rs vs G r Q e lv gr w p
  unfold bestH at e
  split at e <;> first | cases e | skip
  split at e <;> first | cases e | skip
  rename_i i l hl
  have hk : okS (i :: l) = true := by
    by_cases hk : okS (i :: l) = true
    · exact hk
    · rw [if_neg hk] at e; cases e
  rw [if_pos hk] at e
  cases e
  obtain ⟨v, F, rfl, k⟩ := one_ok w
  obtain ⟨b, xs, rfl, h3, h4⟩ := imsIn_of k hl
  exact ⟨b, xs, i, l, rfl, h3, h4, hk, fun x _ rx => p x H' [] (Ext.refl _) (.imm rx)⟩
end
end Wv

set_option Elab.async false
set_option linter.all false
set_option maxRecDepth 100000
namespace Wv
open PySem PySem.Spec PyProof.Rows L2

/-! ## calls of built-ins -/
section
variable {X : Cx} {q : Bool} {g : Fa} {e e2 : Expr} {es : List Expr} {p pos : Pos} {x : Str} {id : String} {r : List V → Hp → VK → Prop} {h : List Vl → R Vl}
/-- what is to be seen of a call's text -/
structure BS (X : Cx) (x : Str) (e : Expr) (es : List Expr) (pos : Pos) : Prop where
  gl : Gl X x
  mg : X.mg x = none
  star : starEach (e :: es) X.env = (false, eval e X.env) :: starEach es X.env
  plain : (backTo pos (starEach es X.env)).any (·.1) = false
theorem e_b (cr : CallR X (.builtin id) r) (pu : PuN X.K r h) (hb : bootBuiltins x = some (.builtin id)) (hn : x ≠ "__name__") (hd : (x == ("__debug__" : Str)) = false) (b : BS X x e es pos) (ha : PA X (e :: es) (TAs X.K q g)) :
    PE X (.Call (.Name x p) (e :: es) [] pos) (TEs X.K q (naM g h)) :=
  (pe_callB cr b.gl b.mg hb ha hn hd b.star b.plain).imp fun _ _ _ w => TAs.fin pu w
theorem e_ty {T : String} (cr : CallR X (.type T) r) (pu : PuN X.K r h) (hb : bootBuiltins x = some (.type T)) (hn : x ≠ "__name__") (hd : (x == ("__debug__" : Str)) = false) (b : BS X x e es pos) (ha : PA X (e :: es) (TAs X.K q g)) :
    PE X (.Call (.Name x p) (e :: es) [] pos) (TEs X.K q (naM g h)) :=
  (pe_callTy cr b.gl b.mg hb ha hn hd b.star b.plain).imp fun _ _ _ w => TAs.fin pu w
theorem e_len (b : BS X "len" e [] pos) (ha : PA X [e] (TAs X.K q g)) : PE X (.Call (.Name "len" p) [e] [] pos) (TEs X.K q (naM g lenH)) := e_b cr_lenD pu_len PySem.boot_len (by decide) (by decide) b ha
theorem e_abs (b : BS X "abs" e [] pos) (ha : PA X [e] (TAs X.K q g)) : PE X (.Call (.Name "abs" p) [e] [] pos) (TEs X.K q (naM g absH)) := e_b call_abs pu_abs boot_abs (by decide) (by decide) b ha
theorem e_sorted (hc : X.calm = true) (b : BS X "sorted" e [] pos) (ha : PA X [e] (TAs X.K q g)) : PE X (.Call (.Name "sorted" p) [e] [] pos) (TEs X.K q (naM g sortedH)) := e_b (call_sortedG hc) pu_sorted boot_sorted (by decide) (by decide) b ha
theorem e_sum (hc : X.calm = true) (b : BS X "sum" e [] pos) (ha : PA X [e] (TAs X.K q g)) : PE X (.Call (.Name "sum" p) [e] [] pos) (TEs X.K q (naM g sumH)) := e_b (cr_sumA hc) pu_sum boot_sum (by decide) (by decide) b ha
theorem e_max1 (hc : X.calm = true) (hu : X.A.units + 65 < cLine) (b : BS X "max" e [] pos) (ha : PA X [e] (TAs X.K q g)) : PE X (.Call (.Name "max" p) [e] [] pos) (TEs X.K q (naM g (bestH true))) := e_b (cr_best hc hu true) (pu_best true) boot_max (by decide) (by decide) b ha
theorem e_min1 (hc : X.calm = true) (hu : X.A.units + 65 < cLine) (b : BS X "min" e [] pos) (ha : PA X [e] (TAs X.K q g)) : PE X (.Call (.Name "min" p) [e] [] pos) (TEs X.K q (naM g (bestH false))) := e_b (cr_best hc hu false) (pu_best false) boot_min (by decide) (by decide) b ha
theorem e_max2 (hc : X.calm = true) (b : BS X "max" e [e2] pos) (ha : PA X [e, e2] (TAs X.K q g)) : PE X (.Call (.Name "max" p) [e, e2] [] pos) (TEs X.K q (naM g max2H)) := e_b (call_max2 hc) (pu_two (g := fun i j => if j > i then j else i)) boot_max (by decide) (by decide) b ha
theorem e_min2 (hc : X.calm = true) (b : BS X "min" e [e2] pos) (ha : PA X [e, e2] (TAs X.K q g)) : PE X (.Call (.Name "min" p) [e, e2] [] pos) (TEs X.K q (naM g min2H)) := e_b (call_min2 hc) (pu_two (g := fun i j => if j < i then j else i)) boot_min (by decide) (by decide) b ha
theorem e_any (hc : X.calm = true) (b : BS X "any" e [] pos) (ha : PA X [e] (TAs X.K q g)) : PE X (.Call (.Name "any" p) [e] [] pos) (TEs X.K q (naM g (anyH false))) := e_b (cr_any hc) (pu_any false) boot_any (by decide) (by decide) b ha
theorem e_all (hc : X.calm = true) (b : BS X "all" e [] pos) (ha : PA X [e] (TAs X.K q g)) : PE X (.Call (.Name "all" p) [e] [] pos) (TEs X.K q (naM g (anyH true))) := e_b (cr_all hc) (pu_any true) boot_all (by decide) (by decide) b ha
theorem e_intC (b : BS X "int" e [] pos) (ha : PA X [e] (TAs X.K q g)) : PE X (.Call (.Name "int" p) [e] [] pos) (TEs X.K q (naM g intH)) := e_ty call_int1 pu_int boot_int (by decide) (by decide) b ha
theorem e_list (b : BS X "list" e [] pos) (ha : PA X [e] (TAs X.K q g)) : PE X (.Call (.Name "list" p) [e] [] pos) (TEs X.K q (naM g listH)) := e_ty call_list_of pu_list boot_list (by decide) (by decide) b ha
theorem e_tuple (b : BS X "tuple" e [] pos) (ha : PA X [e] (TAs X.K q g)) : PE X (.Call (.Name "tuple" p) [e] [] pos) (TEs X.K q (naM g tupleH)) := e_ty call_tuple_of pu_tuple boot_tuple (by decide) (by decide) b ha
end
end Wv

set_option Elab.async false
set_option linter.all false
set_option maxRecDepth 100000
namespace Wv
open PySem PySem.Spec PyProof.Rows L2

/-! ## isinstance -/
def isiM (T : String) (f : Fe) : Fe := u1M f (isiH T)
def isiTs : List String := ["bool", "int", "str", "tuple", "list", "dict"]
section
variable {X : Cx} {K : PySem.W.Frag} {q : Bool} {f : Fe} {a : Expr} {p p2 pos : Pos} {y : Str}
theorem RepD.tyOf {H : Hp} {d : Dt} {v : V} {F : List Addr} (h : RepD K H d v F) {t : String} (e : tyName d = some t) : TyX K H v (.type t) ∧ t ∈ ["NoneType", "bool", "int", "str", "tuple", "list"] := by
  cases d with
  | im i =>
    have h := h.im_inv
    cases h <;> cases e
    · exact ⟨.base .non, by simp⟩
    · exact ⟨.base (.bl _), by simp⟩
    · exact ⟨.base (.int _), by simp⟩
    · exact ⟨.base (.str _), by simp⟩
    · rename_i h1 h2; exact ⟨.base (.tup h1), by simp⟩
  | lst l =>
    cases e
    obtain ⟨b, xs, G, rfl, rfl, h3, h4⟩ := h.lst_inv
    exact ⟨.base (.lst h3), by simp⟩
  | _ => cases e
theorem pu_isi {T : String} (hT : T ∈ isiTs) : PuN K (fun vs H Q => ∀ x, vs = [x] → rIsi K [x, .ty T] H Q) (isiH T) := by
  intro O H O' H' rs vs G r Q e lv gr w p x hv
  unfold isiH at e
  split at e <;> first | cases e | skip
  rename_i a
  split at e <;> cases e
  rename_i t ht
  obtain ⟨v, F, rfl, k⟩ := one_ok w
  cases hv
  obtain ⟨h1, h2⟩ := k.rep.tyOf ht
  exact ⟨x, .ty T, .type t, .type T, isSub t T, rfl, .ty T, h1, kit_ty (isi_tab t h2 T hT), p _ H' [] (Ext.refl _) (.imm .bl)⟩
theorem e_isi {T : String} (hT : T ∈ isiTs) (hb : bootBuiltins y = some (.type T)) (hny : y ≠ "__name__") (hdy : (y == ("__debug__" : Str)) = false) (hgy : Gl X y) (hmy : X.mg y = none) (ha : PE X a (TEs X.K q f))
    (b : BS X "isinstance" a [.Name y p2] pos) (hs : starEach [.Name y p2] X.env = (false, eval (.Name y p2) X.env) :: starEach [] X.env) : PE X (.Call (.Name "isinstance" p) [a, .Name y p2] [] pos) (TEs X.K q (isiM T f)) :=
  (pe_callB call_isi b.gl b.mg boot_isinstance (pa_cons ha (pa_cons (pe_bltn hgy hmy hb (show RelV (.ty T) (.type T) from rfl) hny hdy) pa_nil hs) b.star) (by decide) (by decide) b.star b.plain).imp fun _ _ _ w => w.one (pu_isi hT)
end

/-! ## {k: v, ..} -/
/-- pairs of a display, put into a new dict -/
def dispM (t : Bool) : List (Fe × Fe) → Ev → R (List (Im × Dt) × Ev)
  | [], ρ => .ok ([], ρ)
  | (f, g) :: r, ρ => (f ρ).bind fun p => match p.1 with
    | .o (.im k) => if fits t k = true then (g p.2).bind fun q => match q.1 with
      | .o (.im d) => (dispM t r q.2).bind fun z => .ok ((k, .im d) :: z.1, z.2)
      | _ => .no
      else .no
    | _ => .no
/-- {k: v}: one pair of immutables -/
def disp1H : List Vl → R Vl
  | [.o (.im k), .o (.im d)] => if fits false k = true then .ok (.o (.dic false [(k, .im d)])) else .no
  | _ => .no
section
variable {X : Cx} {K : PySem.W.Frag} {q1 q2 : Bool} {f g : Fe} {a b : Expr} {pos : Pos}
theorem merge_one {k : Key} {v : V} : mergeK [] [(k, v)] = [(k, v)] := rfl
end
end Wv

set_option Elab.async false
set_option linter.all false
set_option maxRecDepth 100000
namespace Wv
open PySem PySem.Spec PyProof.Rows L2

/-! ## d.update(e), both with ints or texts as keys -/
def rUpd : V → List V → Hp → VK → Prop := fun x vs H Q => ∃ d b kvs more, x = .ref d ∧ vs = [V.ref b] ∧ d ≠ b ∧ H d = some (.dK kvs) ∧ Rd H b (.dK more) ∧ kvs.length + more.length ≤ sizeLine ∧ Q .non (upd H d (.dK (mergeK kvs more)))
def putAll {α : Type} (l : List (Im × α)) (m : List (Im × α)) : List (Im × α) := m.foldl (fun acc p => put acc p.1 p.2) l
def allIm (m : List (Im × Dt)) : Bool := m.all fun p => p.2.isIm
def updH : Hm
  | .dic false l, [r] => match r.d with
    | .dic false m => if r.isB = false ∧ allIm m = true ∧ l.length + m.length ≤ SZ then .ok (.dic false (putAll l m), vN) else .no
    | _ => .no
  | _, _ => .no
theorem mt_upd {X : Cx} : MtM X "dict.update" rUpd := by
  intro pins s σ H x vs v us Q I rx rv h
  obtain ⟨d, b, kvs, more, rfl, rfl, hne, hd, hb, hz, q⟩ := h
  cases rx
  obtain ⟨u, rfl, ru⟩ := rv.one
  cases ru
  obtain ⟨z1, lo1, vs1, r1, d1⟩ := dk_of I.hok hd
  obtain ⟨z2, lo2, vs2, r2, d2⟩ := dk_rd I.hok hb
  have l1 : kvs.length = vs1.length := Paired.length r1
  have l2 : more.length = vs2.length := Paired.length r2
  refine call_meetsIn PySem.F.slot_dict_update d1.typeIs PySem.F.entry_dict_update (PySem.F.args_dict_update_2 _ _) (meets_dict_update (mixKind X.prog X.w) d b hne lo2) ⟨vs1, vs2, d1, d2, by omega, fun h' dd' _ hs => ?_⟩
  refine ⟨.non, _, ?_, rfl, q⟩
  have hl : (mergeK kvs more).length ≤ sizeLine := Nat.le_trans (length_mergeK more kvs) hz
  have he : ∃ q, h'.get? d = some q := let ⟨q, _, _, hq, _⟩ := dd'; ⟨q, hq⟩
  exact d_write I (by rw [hd]; exact True.intro) hs he (dk_new hl lo1 (KV.merge r2 r1) dd')
section
variable {K : PySem.W.Frag} {H : Hp}
theorem putAll_rel : ∀ {m : List (Im × Dt)} {more : List (Key × V)} {l : List (Im × Dt)} {kvs : List (Key × V)} {G : List Addr}, m.map (·.1) = more.map (fun p => keyI p.1) → RepDs K H (m.map (·.2)) (more.map (·.2)) [] →
    l.map (·.1) = kvs.map (fun p => keyI p.1) → (l.map (·.1)).Nodup → RepDs K H (l.map (·.2)) (kvs.map (·.2)) G → G.Nodup →
    ∃ G', (putAll l m).map (·.1) = (mergeK kvs more).map (fun p => keyI p.1) ∧ ((putAll l m).map (·.1)).Nodup ∧ RepDs K H ((putAll l m).map (·.2)) ((mergeK kvs more).map (·.2)) G' ∧ G'.Nodup ∧ ∀ x ∈ G', x ∈ G
  | [], [], _, _, G, _, _, e, n, r, ng => ⟨G, e, n, r, ng, fun _ h => h⟩
  | [], _ :: _, _, _, _, e, _, _, _, _, _ => by cases e
  | _ :: _, [], _, _, _, e, _, _, _, _, _ => by cases e
  | p :: m, q :: more, l, kvs, G, e, h, e1, n1, r1, ng => by
    rw [List.map_cons, List.map_cons] at e
    injection e with e2 e3
    rw [List.map_cons, List.map_cons] at h
    generalize hF : ([] : List Addr) = F at h
    cases h with
    | @cons _ _ v vs F' G0 a b =>
      obtain ⟨rfl, rfl⟩ := List.append_eq_nil_iff.mp hF.symm
      obtain ⟨G1, k1, k2, k3, k4, k5⟩ := put_rel (fun _ _ => keyI_inj) (k := q.1) a .nil e1 n1 r1 ng fun x _ z => nomatch z
      obtain ⟨G2, j1, j2, j3, j4, j5⟩ := putAll_rel e3 b k1 k2 k3 k4
      have el : putAll l (p :: m) = putAll (put l (keyI q.1) p.2) m := by
        show putAll (put l p.1 p.2) m = _
        rw [e2]
      refine ⟨G2, ?_, ?_, ?_, j4, fun x hx => (k5 x (j5 x hx)).resolve_right fun z => nomatch z⟩
      · rw [el]; exact j1
      · rw [el]; exact j2
      · rw [el]; exact j3
theorem RepDs.allIm' {m : List (Im × Dt)} {vs : List V} {F : List Addr} (h : RepDs K H (m.map (·.2)) vs F) (a : allIm m = true) : F = [] :=
  h.ims (by
    unfold allIm at a
    rw [List.all_map]
    exact a)
theorem mu_upd : MuN K rUpd updH := by
  intro O H O' H' e w E rs vs G e' r Q eq re nd mt k dj p
  unfold updH at eq
  split at eq <;> first | cases eq | skip
  rename_i l r0
  split at eq <;> first | cases eq | skip
  rename_i m hm
  by_cases hl0 : r0.isB = false ∧ allIm m = true ∧ l.length + m.length ≤ SZ
  · rw [if_pos hl0] at eq; cases eq
    obtain ⟨hB, hl⟩ := hl0
    · obtain ⟨v, F, rfl, k1⟩ := one_ok k
      have kr := k1.rep
      rw [hm] at kr
      cases re with
      | @dicK _ a kvs G0 r1 e1 r2 =>
        have nd' := List.nodup_cons.mp nd
        obtain ⟨hmu, i, hi⟩ := mt a List.mem_cons_self
        have hH := rd_mut r1 hmu
        cases kr with
        | @dicK _ b more G1 s1 f1 s2 =>
          have hG1 := s2.allIm' hl.1
          subst hG1
          have hne : a ≠ b := by
            rintro rfl
            cases r0 with
            | o d => have := (k1.2.2 a List.mem_cons_self).1; rw [hi] at this; cases this
            | s d => have := k1.2 a List.mem_cons_self; rw [hi] at this; cases this
            | b d => cases hB
          have l1 : l.length = kvs.length := by have := congrArg List.length e1.1; simpa using this
          have l2 : m.length = more.length := by have := congrArg List.length f1.1; simpa using this
          obtain ⟨G', k1', k2, k3, k4, k5⟩ := putAll_rel f1.1 s2 e1.1 e1.2 r2 nd'.2
          have na : a ∉ G' := fun z => nd'.1 (k5 a z)
          refine ⟨a, b, kvs, more, rfl, rfl, hne, hH, s1, by rw [← l1, ← l2]; exact hl.2, p a _ (a :: G') _ List.mem_cons_self trivial (.dicK (.inl upd_same) ⟨k1', k2⟩ (k3.keepU na (by rw [hH]; trivial))) (List.nodup_cons.mpr ⟨na, k4⟩) (fun x hx => ?_) .non⟩
          rcases List.mem_cons.mp hx with rfl | hx
          · exact .inl List.mem_cons_self
          · exact .inl (List.mem_cons_of_mem _ (k5 x hx))
  · rw [if_neg hl0] at eq; cases eq
end
section
variable {X : Cx} {i : Nat} {g : Fp} {qc : Bool} {c : Fa} {o e : Expr} {apos cpos : Pos}
theorem e_update (ho : PE X o (TPs X.K i g)) (ha : PA X [e] (TAs X.K qc c)) (ms : MS X o "update" apos e [] cpos) : PE X (.Call (.Attribute o "update" apos) [e] [] cpos) (TEs X.K false (muM i g "dict" qc c updH)) :=
  e_mu F.plainAttrs_dict F.slot_dict_update F.type_dict_update mt_upd mu_upd ho ha ms
end

/-! ## {k: v} -/
def disp1M (q2 : Bool) (f g : Fe) : Fe := b2M q2 f g fun rs => match rs with
  | [.o (.im k), .o (.im d)] => if fits false k = true then .ok (.o (.dic false [(k, .im d)])) else .no
  | _ => .no
section
variable {X : Cx} {K : PySem.W.Frag} {q1 q2 : Bool} {f g : Fe} {a b : Expr} {pos : Pos}
end
end Wv

set_option Elab.async false
set_option linter.all false
set_option maxRecDepth 100000
set_option pp.maxSteps 200
namespace Wv
open PySem PySem.Spec PyProof.Rows L2

/-! ## {k: v for ..}, of either kind of keys -/
def emp (t : Bool) : HO := if t = true then .dT [] else .dK []
theorem emp_ok {t : Bool} {P : Program} {w : World} {H : Hp} (h : Heap) (hb : sysModules < h.objs.size) : ObjOk P w H (h.push { cls := .type "dict", data := .dict #[] }) h.objs.size (emp t) := by
  cases t with
  | true => exact dt_empty h hb
  | false => exact dk_empty h hb
theorem d_dictSetG {X : Cx} {pins : List (Addr × Obj)} {σ : St} {H H' : Hp} {s : Shared} {E : Value → Shared → Prop} {D : Addr} {y v : V} {u r : Value} {Q : Unit → Shared → Prop} (hu : X.A.units + 1 < cLine) (I : Inv X pins σ H s) (g : DPut H D y v H')
    (ry : RelV y u) (rv : RelV v r) (h : ∀ s', Inv X pins σ H' s' → Q () s') : wpAny (model X.prog X.w) X.A (dictSet D u r) Q E s := by
  rcases g with ⟨kvs, k, e, rfl, l, rfl⟩ | ⟨kvs, k, b, e, rfl, eb, l, rfl⟩
  · exact d_dictSet I e l ry rv h
  · cases (show u = Value.ref b from ry)
    obtain ⟨z, hd, xs, rel, dd⟩ := dt_of I.hok e
    have hz : xs.length ≤ sizeLine := by rw [← Paired.length rel]; exact z
    have hl : (putK kvs k v).length ≤ sizeLine := by have := length_putK kvs k v; omega
    refine wpAny_dictSet_heap (hsz := hz) (show X.A.units < cLine by omega) (key_of I.hok eb) dd fun h' dd' hs => h _ ?_
    obtain ⟨q, es, ep, hq, h2, h3, h4, _, h5⟩ := dd'
    refine d_write I (by rw [e]; exact True.intro) hs ⟨q, hq⟩ ⟨hl, hd, _, (rel.put k eb rv).keeps fun c ys ec => ?_, q, es, ep, hq, h2, h3, h4, h5⟩
    rw [upd_ne (ne_of ec e (fun z => nomatch z))]
    exact ec
def tDg (t : Bool) (wi : TI) (g : TG) (tt : TT) (tk tv : TE) (vs : List Nat) : TE := fun σ H Q => wi σ H fun J H1 => ∀ D, H1 D = none → ∃ W : Nat → Nat → Hp → Prop, (∃ m, W 0 m (upd H1 D (emp t))) ∧ ∀ i m H, W i m H →
  (J.stop i H ∧ Q (.ref D) H) ∨ (J.go i H ∧ ∃ Nx : Hp → Prop, (∀ H', Nx H' → ∃ m', m' < m ∧ W (i + 1) m' H') ∧ ∀ x H', J.yld i H x H' → g x (wipe σ vs) H' fun σ2 H2 => wipe σ2 vs = wipe σ vs ∧ tt σ2 H2 fun b H3 =>
    if b = true then tk σ2 H3 fun y H4 => tv σ2 H4 fun z H5 => ∃ H6, DPut H5 D y z H6 ∧ Nx H6 else Nx H3)
section
variable {X : Cx} {t : Bool}
theorem dcg_core {pins : List (Addr × Obj)} {s : Shared} {σ : St} {H : Hp} {Q : VK} {kx vx tg iter : Expr} {ifs : List Expr} {scope : Scope} {own : List (Str × Nat)} {pos pos' : Pos} {wi : TI} {g : TG} {tt : TT} {tk tv : TE} {use : Option (Value → Sem Unit)} {Qf : Value → Shared → Prop}
    (hu : X.A.units + 1 < cLine) (hc : X.calm = true) (hN : X.N.Nodup) (I : Inv X pins σ H s) (hi : PI X tg iter wi) (ok : BlkOk X.N X.env.scope scope own)
    (hg : ∀ (s : Shared) (H : Hp) (C : Addr) (cl : List (Str × Addr)) (fp : List Addr), PG (X.blk s H scope (compEnvC scope cl C X.env) fp) tg g) (ht : ∀ (s : Shared) (H : Hp) (C : Addr) (cl : List (Str × Addr)) (fp : List Addr), PTs (X.blk s H scope (compEnvC scope cl C X.env) fp) ifs tt)
    (hk : ∀ (s : Shared) (H : Hp) (C : Addr) (cl : List (Str × Addr)) (fp : List Addr), PE (X.blk s H scope (compEnvC scope cl C X.env) fp) kx tk)
    (he : ∀ (s : Shared) (H : Hp) (C : Addr) (cl : List (Str × Addr)) (fp : List Addr), PE (X.blk s H scope (compEnvC scope cl C X.env) fp) vx tv) (hs : ∀ x, foldedSetIterable iter X.env x = pure x)
    (h : tDg t wi g tt tk tv (own.map (·.2)) σ H Q)
    (hRR : ∀ D C s' m H', Inv X pins σ H' s' → Q (.ref D) H' → s'.heap.Ns C m → FpOk X pins H' C → compPost (model X.prog X.w) X.A X.xe use Qf (.ref D) C (.ok .next) s') :
    wpAny (model X.prog X.w) X.A (comprehension (.DictComp kx vx [⟨tg, iter, ifs, 0⟩] scope pos) scope X.env pos' newDict false (eval iter X.env) use) Qf X.xe s := by
  have hfree : ∀ y ∈ scope.names, y.2 = .free → ∃ c, X.env.cells.lookup y.1 = some c := fun y hy e => by
    rcases ok.free y hy e with k | k
    · exact I.ok.has _ (.inl k)
    · exact I.ok.has _ (.inr k)
  refine wpAny_comprehension_free (use := use) rfl hs (closure_ok hfree) ok.kind (fun y hy e => by rw [ok.uniq y hy, e])
    (thn (hi.run pins s σ H _ I h) fun xv s1 hx => thn hx fun itv s2 h2 => ?_)
  obtain ⟨it, fp, tn, J, H2, e, I2, T, st2, f2, q⟩ := h2
  subst e
  refine wpAny_newObj_type (newEnv_comp ?_)
  generalize hD : s2.heap.objs.size = D
  have hDn : H2 D = none := I2.hok.fresh (Nat.le_of_eq hD)
  obtain ⟨W, ⟨m0, w0⟩, turn⟩ := q D hDn
  -- the new list
  generalize hs3 : ({ s2 with heap := s2.heap.push { cls := .type "dict", data := .dict #[] } } : Shared) = s3
  have I3 : Inv X pins σ (upd H2 D (emp t)) s3 := by
    rw [← hs3]
    refine I2.laid (t' := s2.toks) (fun b o e => Heap.get?_push_of_some _ e) (Nat.le_of_eq hD) ?_
    rw [← hD]
    exact emp_ok s2.heap I2.big
  have h3 : s3.heap = s2.heap.push { cls := .type "dict", data := .dict #[] } := by rw [← hs3]
  have sz : ∀ b ∈ fp, b < s2.heap.objs.size := fun b hb => by
    obtain ⟨o, e, _⟩ := T.obj _ _ st2 b hb
    exact Heap.lt_size e
  have f3 : ∀ b ∈ fp, FpOk X pins (upd H2 D (emp t)) b ∧ b < s3.heap.objs.size := fun b hb => by
    have hlt := sz b hb
    refine ⟨⟨?_, (f2 b hb).2⟩, by rw [h3, Heap.size_push]; exact Nat.lt_succ_of_lt hlt⟩
    rw [upd_ne (by rw [← hD]; exact Nat.ne_of_lt hlt)]
    exact (f2 b hb).1
  have st3 : tn 0 s3.heap := T.keep _ _ _ st2 fun b _ o e => by rw [h3]; exact Heap.get?_push_of_some _ e
  have I4 := block_start I3 ok hN f3
  have pg := hg s3 (upd H2 D (emp t)) s3.heap.objs.size (cellsFrom (s3.heap.objs.size + 1) scope.names (cloFrom X.env.cells scope.names [])) fp
  have pt := ht s3 (upd H2 D (emp t)) s3.heap.objs.size (cellsFrom (s3.heap.objs.size + 1) scope.names (cloFrom X.env.cells scope.names [])) fp
  have pk := hk s3 (upd H2 D (emp t)) s3.heap.objs.size (cellsFrom (s3.heap.objs.size + 1) scope.names (cloFrom X.env.cells scope.names [])) fp
  have pe := he s3 (upd H2 D (emp t)) s3.heap.objs.size (cellsFrom (s3.heap.objs.size + 1) scope.names (cloFrom X.env.cells scope.names [])) fp
  show codeAny _ _ (.compStart (.DictComp kx vx [⟨tg, iter, ifs, 0⟩] scope pos) 0 (.ref it) (.ref D) (compEnvC scope (cellsFrom (s3.heap.objs.size + 1) scope.names (cloFrom X.env.cells scope.names [])) s3.heap.objs.size X.env)) (compPost (model X.prog X.w) X.A X.xe use Qf (.ref D) s3.heap.objs.size) { s3 with heap := pushCells (s3.heap.push { cls := .type "dict", data := .dict #[] }) scope.names }
  have nfp : ∀ b ∈ fp, (upd H2 D (emp t)) b = none := fun b hb => (f3 b hb).1.1
  generalize hce : compEnvC scope (cellsFrom (s3.heap.objs.size + 1) scope.names (cloFrom X.env.cells scope.names [])) s3.heap.objs.size X.env = ce at I4 pg pt pk pe ⊢
  have cL : ce.locals = s3.heap.objs.size := by subst hce; rfl
  generalize hH3 : upd H2 D (emp t) = H3 at I3 I4 pg pt pk pe w0 nfp f3
  generalize hs4 : ({ s3 with heap := pushCells (s3.heap.push { cls := .type "dict", data := .dict #[] }) scope.names } : Shared) = s4 at I4 ⊢
  have st4 : tn 0 s4.heap := T.keep _ _ _ st3 fun b _ o e => by rw [← hs4]; exact pushCells_keeps _ _ _ _ (Heap.get?_push_of_some _ e)
  have stat : ∀ {σ' : St} {H' : Hp} {s' : Shared}, Inv (X.blk s3 H3 scope ce fp) [] σ' H' s' → (∀ b ∈ fp, H' b = none) → ∀ b ∈ fp, FpOk (X.blk s3 H3 scope ce fp) [] H' b := fun {σ' H' s'} I' hn b hb =>
    ⟨hn b hb, (I'.ok.exf b hb).1, I'.ok.exfs b hb, .inl hb, fun x c e => (I'.ok.exf b hb).2 x c e, fun p hp => absurd (show p ∈ ([] : List (Addr × Obj)) ++ [] from hp) (by simp)⟩
  have loop : codeAny (model X.prog X.w) X.A (.compLoop (.DictComp kx vx [⟨tg, iter, ifs, 0⟩] scope pos) 0 (.ref it) (.ref D) ce) (compPost (model X.prog X.w) X.A X.xe use Qf (.ref D) s3.heap.objs.size) s4 := by
    refine compLoop_anyD (fun n s' => ∃ i H', Inv (X.blk s3 H3 scope ce fp) [] (wipe σ (own.map (·.2))) H' s' ∧ tn i s'.heap ∧ (∀ b ∈ fp, H' b = none) ∧ W i n H') ?_ m0 ⟨0, H3, I4, st4, nfp, w0⟩
    rintro n s5 ⟨i, H5, I5, st5, n5, w5⟩
    rcases turn i n H5 w5 with ⟨stop, qq⟩ | ⟨go, Nx, hNx, step⟩
    · have td := T.done (X.blk s3 H3 scope ce fp) rfl rfl rfl hc i [] s5 _ H5 (fun _ _ => False) I5 (stat I5 n5) st5 stop
      refine thnF td fun r s6 ⟨hr, I6⟩ => ?_
      subst hr
      -- back in the def's context
      have I7 : Inv X pins σ H5 s6 := I3.call' (ch := fp) I6.os I6.base I6.hok I6.bare fun b hb => ⟨(f3 b hb).1.2.2.2.1, (f3 b hb).1.2.1, (f3 b hb).1.2.2.2.2.1, (f3 b hb).1.2.2.2.2.2⟩
      have nC : H5 s3.heap.objs.size = none := by
        have z : H5 ce.locals = none := I6.free
        rw [cL] at z
        exact z
      obtain ⟨m, hn, _⟩ := I6.loc
      have hn : s6.heap.Ns ce.locals m := hn
      rw [cL] at hn
      exact hRR D s3.heap.objs.size s6 m H5 I7 qq hn (I3.fpOk (Nat.le_refl _) nC)
    · have ti := T.item (X.blk s3 H3 scope ce fp) rfl rfl rfl hc i [] s5 _ H5 (fun _ _ => False) I5 (stat I5 n5) st5 go
      refine thnF ti fun r s6 ⟨u, hr, h6⟩ => ?_
      subst hr
      refine thnF h6 fun _ s7 ⟨x, H7, I7, r7, y7, st7, n7⟩ => ?_
      have I7' := I7.pinned (stat I7 n7) (T.obj _ _ st7)
      refine thnF (pg.run _ s7 _ H7 x u _ I7' r7 (step x H7 y7)) fun _ s8 ⟨σ8, H8, I8, hw8, q8⟩ => ?_
      refine thnF (pt.run _ s8 σ8 H8 _ I8 q8) fun b s9 ⟨H9, I9, q9⟩ => ?_
      -- the turn's end
      have fin : ∀ {s' : Shared} {H' : Hp}, Inv (X.blk s3 H3 scope ce fp) ([] ++ pinsAt fp s7.heap) σ8 H' s' → Nx H' → ∃ m, m < n ∧ ∃ i H', Inv (X.blk s3 H3 scope ce fp) [] (wipe σ (own.map (·.2))) H' s' ∧ tn i s'.heap ∧ (∀ b ∈ fp, H' b = none) ∧ W i m H' := fun {s' H'} I' nx => by
        obtain ⟨m', hm, w'⟩ := hNx H' nx
        have pin' : ∀ b ∈ fp, ∀ o, s7.heap.get? b = some o → s'.heap.get? b = some o ∧ H' b = none := fun b hb o e =>
          let z := I'.pin (b, o) (List.mem_append_right _ (List.mem_append_right _ (mem_pinsAt hb e)))
          ⟨z.1, z.2.1⟩
        have hl : (wipe σ (own.map (·.2))).length = σ8.length := by rw [← hw8, wipe_length]
        refine ⟨m', hm, i + 1, H', (I'.unpinned (pins := [])).weak hl (fun j v e => ?_), T.keep _ _ _ st7 fun b hb o e => (pin' b hb o e).1, fun b hb => ?_, w'⟩
        · rw [← hw8] at e
          exact (wipe_some e).1
        · obtain ⟨o, e, _⟩ := T.obj _ _ st7 b hb
          exact (pin' b hb o e).2
      cases b with
      | false =>
        simp only [Bool.false_eq_true, if_false] at q9 ⊢
        exact fin I9 q9
      | true =>
        simp only [if_true] at q9 ⊢
        refine thnF (pk.run _ s9 σ8 H9 _ I9 q9) fun z s10 ⟨yk, H10, I10, r10, q10⟩ => ?_
        refine thnF (pe.run _ s10 σ8 H10 _ I10 q10) fun z2 s11 ⟨yv, H11, I11, r11, H6, g6, nx⟩ => ?_
        exact d_dictSetG (X := X.blk s3 H3 scope ce fp) hu I11 g6 r10 r11 fun s12 I12 => fin I12 nx
  exact codeAny_compStart_dict loop (T.self X.A 0 _ _ _ st4 loop)
theorem pe_dg {kx vx tg iter : Expr} {ifs : List Expr} {scope : Scope} {own : List (Str × Nat)} {pos : Pos} {wi : TI} {g : TG} {tt : TT} {tk tv : TE} (hu : X.A.units + 1 < cLine) (hc : X.calm = true) (hN : X.N.Nodup) (hi : PI X tg iter wi) (ok : BlkOk X.N X.env.scope scope own)
    (hg : ∀ (s : Shared) (H : Hp) (C : Addr) (cl : List (Str × Addr)) (fp : List Addr), PG (X.blk s H scope (compEnvC scope cl C X.env) fp) tg g) (ht : ∀ (s : Shared) (H : Hp) (C : Addr) (cl : List (Str × Addr)) (fp : List Addr), PTs (X.blk s H scope (compEnvC scope cl C X.env) fp) ifs tt)
    (hk : ∀ (s : Shared) (H : Hp) (C : Addr) (cl : List (Str × Addr)) (fp : List Addr), PE (X.blk s H scope (compEnvC scope cl C X.env) fp) kx tk)
    (he : ∀ (s : Shared) (H : Hp) (C : Addr) (cl : List (Str × Addr)) (fp : List Addr), PE (X.blk s H scope (compEnvC scope cl C X.env) fp) vx tv) (hs : ∀ x, foldedSetIterable iter X.env x = pure x := by intro _; rfl) :
    PE X (.DictComp kx vx [⟨tg, iter, ifs, 0⟩] scope pos) (tDg t wi g tt tk tv (own.map (·.2))) := by
  refine ⟨fun pins s σ H Q I h => ?_⟩
  rw [arm_eval_DictComp]
  refine dcg_core hu hc hN I hi ok hg ht hk he hs h fun D C s' m H' I' q hn f => ⟨m, hn, fun h'' sb => ?_⟩
  obtain ⟨f0, f1, f2, f3, f4, f5⟩ := f
  exact ⟨.ref D, H', I'.turned (t' := s'.toks) (fun b o hb e => (sb.2 b hb).trans e) f0 f1 f3 f4 f5, rfl, q⟩
end
end Wv

set_option Elab.async false
set_option linter.all false
set_option maxRecDepth 100000
namespace Wv
open PySem PySem.Spec PyProof.Rows L2

/-! ## dict comprehensions, by value: unchangeable values -/
def dcL (tk : Bool) (l : Bool) (own : List Nat) (t : Tgt) (T : Ft) (f g : Fe) : List Itm → Ev → List (Im × Dt) → R (List (Im × Dt) × Ev)
  | [], ρ, acc => .ok (acc, ρ)
  | it :: r, ρ, acc => (tgM l t it ρ).bind fun ρa => (T ρa).bind fun b => if b.1 = true then (f b.2).bind fun p => (g p.2).bind fun q => match p.1, q.1 with
      | .o (.im k), .o (.im d) => if fits tk k = true ∧ acc.length < SZ then dcL tk l own t T f g r (wipeE own q.2) (put acc k (.im d)) else .no
      | _, _ => .no
    else dcL tk l own t T f g r (wipeE own b.2) acc
def dcM (tk : Bool) (own : List Nat) (src : Fi) (t : Tgt) (T : Ft) (f g : Fe) : Fe := fun ρ => (src ρ).bind fun z =>
  (dcL tk (!z.2.1.isEmpty) own t T f g z.1 (wipeE own (lockE z.2.1 z.2.2)) []).bind fun p => .ok (.o (.dic tk p.1), mergeC (own ++ z.2.1) 0 z.2.2 p.2)
section
variable {K : PySem.W.Frag} {O O' O1 O2 : Ow} {H H' H1 H2 : Hp} {σ : St} {ρ ρ' : Ev}
theorem emp_mut {t : Bool} : Mut (some (emp t)) := by cases t <;> trivial
theorem emp_rep {t : Bool} {D : Addr} : RepD K (upd H D (emp t)) (.dic t []) (.ref D) [D] := by
  cases t with
  | true => exact .dicT (kvs := []) (.inl upd_same) ⟨rfl, .nil⟩ .nil
  | false => exact .dicK (kvs := []) (.inl upd_same) ⟨rfl, .nil⟩ .nil
theorem mut_ext {D : Addr} (x : Ext H H') (l : H D ≠ none) (m : Mut (H D)) : Mut (H' D) := by
  obtain ⟨o, e⟩ := Option.ne_none_iff_exists'.mp l
  rw [x D o e]; rw [e] at m; exact m
theorem at_fr {D : Addr} {d : Dt} (s : SR K O H σ ρ) (f : Fr O H O' H') (h : RepD K H d (.ref D) [D]) (m : Mut (H D)) (o : O D = .no) : RepD K H' d (.ref D) [D] ∧ Mut (H' D) ∧ O' D = .no ∧ H' D ≠ none := by
  have l := h.live D List.mem_cons_self
  obtain ⟨u, e⟩ := Option.ne_none_iff_exists'.mp l
  have k := f.keep D u e fun i => by rw [o]; simp
  refine ⟨f.rep s h fun a ha i => ?_, by rw [k]; rw [e] at m; exact m, f.no D l o, by rw [k]; simp⟩
  obtain rfl := List.mem_singleton.mp ha
  rw [o]; simp
theorem put_step {tk : Bool} {D : Addr} {ds : List (Im × Dt)} {k d : Im} {y z : V} (h : RepD K H (.dic tk ds) (.ref D) [D]) (m : Mut (H D)) (hk : fits tk k = true) (hl : ds.length < SZ) (hy : RepI K H k y) (hz : RepI K H d z) :
    ∃ H6, DPut H D y z H6 ∧ ∃ o, H6 = upd H D o ∧ Mut (some o) ∧ RepD K (upd H D o) (.dic tk (put ds k (.im d))) (.ref D) [D] := by
  have w : VlsOk K (fun _ => Tg.sl 0) H (fun _ => Tg.sl 0) H [.o (.im k), .o (.im d)] [y, z] ([] ++ ([] ++ [])) := .own (.imm hy) (.own (.imm hz) .nil fun _ z => nomatch z) fun _ z => nomatch z
  have := mu_setD (K := K) (fun _ => Tg.sl 0) H (fun _ => Tg.sl 0) H (.dic tk ds) (.ref D) [D] [.o (.im k), .o (.im d)] [y, z] ([] ++ ([] ++ [])) (.dic tk (put ds k (.im d))) vN
    (fun _ H6 => ∃ o, H6 = upd H D o ∧ Mut (some o) ∧ RepD K (upd H D o) (.dic tk (put ds k (.im d))) (.ref D) [D]) (show (if fits tk k = true ∧ ds.length < SZ then R.ok (Dt.dic tk (put ds k (.im d)), vN) else .no) = _ from if_pos ⟨hk, hl⟩) h (List.nodup_cons.mpr ⟨by simp, .nil⟩) (fun x hx => ⟨by obtain rfl := List.mem_singleton.mp hx; exact m, 0, rfl⟩) w (fun _ _ z => nomatch z)
    (fun a o E' v ha hm r nd sub _ => by
      obtain rfl := List.mem_singleton.mp ha
      refine ⟨o, rfl, hm, ?_⟩
      have : E' = [a] := by
        have all : ∀ x ∈ E', x = a := fun x hx => (sub x hx).elim (fun z => List.mem_singleton.mp z) fun z => nomatch z
        have ne : E' ≠ [] := by cases r <;> simp
        match E', nd, all, ne with
        | [x], _, all, _ => rw [all x List.mem_cons_self]
        | x :: y :: r, nd, all, _ =>
          rw [List.nodup_cons] at nd
          exact absurd (by rw [all x List.mem_cons_self, all y (List.mem_cons_of_mem _ List.mem_cons_self)]; exact List.mem_cons_self) nd.1
      rw [this] at r
      exact r) y z rfl
  obtain ⟨a, H', e, g, o, q⟩ := this
  cases e
  exact ⟨H', g, o, q⟩
theorem tDg_of {own : List Nat} {src : Fi} {t : Tgt} {T : Ft} {f g : Fe} {tk : Bool} {q1 q2 q3 q4 : Bool} {Q : VK} (ht : ∀ i ∈ t.slots, i ∈ own)
    (w : TEs K (q1 && (q2 && (q3 && q4))) (dcM tk own src t T f g) σ H Q) : tDg tk (TIs K q1 src) (gT K t) (TTs K q2 T) (TEs K q3 f) (TEs K q4 g) own σ H Q := by
  obtain ⟨O, ρ, r, ρ', sr, e, p⟩ := w
  unfold dcM at e
  obtain ⟨⟨items, xs, ρ1⟩, e1, e⟩ := R.bind_eq e
  obtain ⟨⟨dsF, ρF⟩, e2, e⟩ := R.bind_eq e
  cases e
  simp only at e2 p
  refine ⟨O, ρ, items, xs, ρ1, sr, e1, fun J H1 O1 B s1 f1 u1 tB S D hD => ?_⟩
  generalize hL : own ++ xs = L at *
  have sb : SR K (lockT L O1) H1 (L2.wipe σ own) (wipeE own (lockE xs ρ1)) := by rw [← hL]; exact s1.lock own xs
  -- what is walked is lent, or stands still
  have bok : BOk (!xs.isEmpty) (lockT L O1) B := fun a ha => by
    cases xs with
    | nil =>
      rcases tB a ha with z | ⟨x, hx, _⟩
      · rw [lockT_stl (.inr z)]; exact z
      · cases hx
    | cons x r =>
      show Stl _
      rcases tB a ha with z | ⟨y, hy, z⟩
      · rw [lockT_stl (.inr z)]; exact .inr z
      · exact .inl (lockT_sl z (by rw [← hL]; exact List.mem_append_right _ hy))
  have ob1 : lockT L O1 D = .no := by
    cases z : lockT L O1 D with
    | no => rfl
    | _ => exact absurd hD (sb.live D (by rw [z]; simp))
  refine ⟨fun i m H2 => m = items.length - i ∧ i ≤ items.length ∧ ∃ O2 ρ2 ds, SR K O2 H2 (L2.wipe σ own) ρ2 ∧ Fr (lockT L O1) H1 O2 H2 ∧ RepD K H2 (.dic tk ds) (.ref D) [D] ∧ Mut (H2 D) ∧ O2 D = .no ∧
      dcL tk (!xs.isEmpty) own t T f g (items.drop i) ρ2 ds = .ok (dsF, ρF) ∧ (q2 = true → (q3 && q4) = true → ρ2 = wipeE own (lockE xs ρ1) ∧ Qu (lockT L O1) H1 O2 H2),
    ⟨items.length, by simp, Nat.zero_le _, lockT L O1, _, [], sb.ext (Ext.upd hD), Fr.ext (Ext.upd hD), emp_rep, by rw [upd_same]; exact emp_mut, ob1, by simpa using e2, fun _ _ => ⟨rfl, Qu.of (Ext.upd hD)⟩⟩, ?_⟩
  rintro i m H2 ⟨rfl, hi, O2, ρ2, ds, s2, f2, hD2, mD2, oD2, e3, u2⟩
  have kp2 := kp_of (L := L) sb f2 bok.stl
  by_cases hlt : i < items.length
  · -- a turn
    refine .inr ⟨S.go i H2 hlt kp2, _, fun H' z => ⟨items.length - (i + 1), by omega, z⟩, fun x H3 hy => ?_⟩
    obtain ⟨itm, hitm⟩ : ∃ itm, items[i]? = some itm := ⟨items[i], List.getElem?_eq_getElem hlt⟩
    obtain ⟨x3, w3⟩ := S.yld i H2 x H3 itm kp2 hy hitm
    have hdrop : items.drop i = itm :: items.drop (i + 1) := by
      rw [List.drop_eq_getElem_cons hlt]
      rw [List.getElem?_eq_getElem hlt] at hitm
      rw [Option.some.inj hitm]
    rw [hdrop] at e3
    obtain ⟨ρa, e4, e3⟩ := R.bind_eq (show (tgM (!xs.isEmpty) t itm ρ2).bind _ = .ok (dsF, ρF) from e3)
    have s3 := s2.ext x3
    have f3 := f2.trans (Fr.ext (O := O2) x3) s2.sl_live
    refine tg_ok s3 e4 w3 (bok.fr f3) fun σ4 O4 s4 f4 k4 st4 => ?_
    have wp : L2.wipe σ4 own = L2.wipe σ own := by
      rw [(st4.mono ht).wipe]
      exact (wipe_sto (vs := own) (σ := σ)).wipe
    refine ⟨wp, ?_⟩
    obtain ⟨⟨b, ρb⟩, e5, e3⟩ := R.bind_eq e3
    simp only at e3
    have f14 := f3.trans f4 s3.sl_live
    have l2 : H2 D ≠ none := hD2.live D List.mem_cons_self
    have hD3 := hD2.ext x3
    have l3 : H3 D ≠ none := hD3.live D List.mem_cons_self
    have mD3 : Mut (H3 D) := mut_ext x3 l2 mD2
    have hD4 := hD3
    have oD4 : O4 D = .no := by
      have : O2 D = .no := oD2
      rw [f4.no D l3 this]
    have qput : q2 = true → (q3 && q4) = true → Qu (lockT L O1) H1 O4 H3 := fun z1 z2 => by
      have z := (u2 z1 z2).2
      refine ⟨z.ext.trans x3, fun a n => ?_⟩
      have z2 := z.own a n
      rw [k4 a fun i hi q => ?_, z2]
      rw [z2] at q
      rcases lockT_cases L O1 a with ⟨h1, _⟩ | ⟨h1, h2⟩
      · rw [h1] at q; cases q
      · rw [h1] at q
        exact h2 i (by rw [← hL]; exact List.mem_append_left _ (ht i hi)) q
    have qenv : ∀ ρ', q2 = true → (q3 && q4) = true → ρ' = ρa → wipeE own ρ' = wipeE own (lockE xs ρ1) := fun ρ' z1 z2 z3 => by
      obtain ⟨y1, _⟩ := u2 z1 z2
      obtain ⟨h1, h2⟩ := tgM_at e4
      subst z3
      rw [wipeE_same h1 fun j hj => h2 j fun z => hj (ht j z), y1]
      exact wipeE_same wipeE_len fun j hj => wipeE_out hj
    refine ⟨O4, ρa, b, ρb, s4, e5, fun H5 O5 s5 f5 u5 => ?_⟩
    have f15 := f14.trans f5 s4.sl_live
    obtain ⟨hD5, mD5, oD5, l5⟩ := at_fr s4 f5 hD4 mD3 oD4
    cases b with
    | false =>
      rw [if_neg (by simp)] at e3
      refine (if_neg (by simp)).mpr ⟨rfl, hlt, O5, _, ds, ?_, f15, hD5, mD5, oD5, e3, fun z1 z2 => ?_⟩
      · have := s5.wipe own
        rw [wp] at this
        exact this
      · exact ⟨qenv ρb z1 z2 (u5 z1).1, (qput z1 z2).trans (u5 z1).2⟩
    | true =>
      rw [if_pos rfl] at e3
      obtain ⟨⟨r6, ρc⟩, e6, e3⟩ := R.bind_eq e3
      obtain ⟨⟨r7, ρd⟩, e7, e3⟩ := R.bind_eq e3
      simp only at e3
      split at e3 <;> first | cases e3 | skip
      rename_i k d _
      have hk : fits tk k = true ∧ ds.length < SZ := by
        by_cases hk : fits tk k = true ∧ ds.length < SZ
        · exact hk
        · rw [if_neg hk] at e3; cases e3
      rw [if_pos hk] at e3
      refine (if_pos rfl).mpr ⟨O5, ρb, _, ρc, s5, e6, fun y H6 O6 F s6 f6 u6 w6 => ⟨O6, ρc, _, ρd, s6, e7, fun z H7 O7 F7 s7 f7 u7 w7 => ?_⟩⟩
      obtain ⟨hD6, mD6, oD6, l6⟩ := at_fr s5 f6 hD5 mD5 oD5
      obtain ⟨hD7, mD7, oD7, l7⟩ := at_fr s6 f7 hD6 mD6 oD6
      have f17 := (f15.trans f6 s5.sl_live).trans f7 s6.sl_live
      have hy : RepI K H7 k y := w6.1.im_inv.keep (s6.ktup f7)
      have hz : RepI K H7 d z := w7.1.im_inv
      obtain ⟨H8, g8, o8, rfl, m8, r8⟩ := put_step hD7 mD7 hk.1 hk.2 hy hz
      refine ⟨_, g8, rfl, hlt, O7, _, put ds k (.im d), ?_, f17.atD hD, r8, by rw [upd_same]; exact m8, oD7, e3, fun z1 z2 => ?_⟩
      · have := (s7.atD (o := o8) oD7 mD7).wipe own
        rw [wp] at this
        exact this
      · have z3 := z2
        rw [Bool.and_eq_true] at z3
        exact ⟨qenv ρd z1 z2 ((u7 z3.2).1.trans ((u6 z3.1).1.trans (u5 z1).1)), ((((qput z1 z2).trans (u5 z1).2).trans (u6 z3.1).2).trans (u7 z3.2).2).atD hD⟩
  · -- the end
    obtain rfl : i = items.length := by omega
    refine .inl ⟨S.stop H2 kp2, ?_⟩
    rw [List.drop_length] at e3
    cases e3
    obtain ⟨s9, st9⟩ := s1.free s2 (fun i hi => by rw [← hL]; exact List.mem_append_left _ hi) f2
    have f9 := Fr.free s1.sl_live f2
    refine p _ H2 _ [D] s9 (f1.trans f9 s1.sl_live) (fun z => ?_) ?_
    · simp only [Bool.and_eq_true] at z
      obtain ⟨y1, y2⟩ := u2 z.2.1 (by rw [Bool.and_eq_true]; exact z.2.2)
      obtain ⟨y3, y4⟩ := u1 z.1
      refine ⟨by rw [y1, ← hL, merge_quiet, y3], y4.ext.trans y2.ext, fun a n => ?_⟩
      have n1 := f1.live a n
      by_cases c : ∃ k ∈ L, O1 a = .sl k
      · obtain ⟨k, hk, e⟩ := c
        rw [freeT_sl e hk, ← e, y4.own a n]
      · have c' : ∀ k ∈ L, O1 a ≠ .sl k := fun k hk e => c ⟨k, hk, e⟩
        rw [freeT_ne c', y2.own a n1, lockT_ne c', y4.own a n]
    · have hD0 : H D = none := by
        cases z : H D with
        | none => rfl
        | some o => exact absurd hD (f1.live D (by rw [z]; simp))
      have fe : ∀ a, O2 a = .no → (freeT L O1 O2 a = .no) := fun a h => by
        rw [freeT_ne fun k hk z => ?_, h]
        rw [f2.lk a (lockT_sl z hk)] at h; cases h
      refine ⟨hD2, List.nodup_cons.mpr ⟨by simp, .nil⟩, fun a ha => ?_⟩
      obtain rfl := List.mem_singleton.mp ha
      exact ⟨fe _ oD2, mD2, .inl hD0⟩
end
end Wv

set_option Elab.async false
set_option linter.all false
set_option maxRecDepth 100000
namespace Wv
open PySem PySem.Spec PyProof.Rows L2
section
variable {X : Cx} {vp : List Nat} {q q1 q2 q3 q4 tk : Bool} {f k : Fe} {T : Ft} {src : Fi} {t : Tgt} {own : List (Str × Nat)} {kx vx tg iter : Expr} {ifs : List Expr} {scope : Scope} {pos : Pos}
/-- y = {k: v for ..} on one line -/
theorem ps_setDg {i : Nat} {y : Str} {py spos : Pos} {wi : TI} {g : TG} {tt : TT} {tk' tv : TE} {t : Bool} (hu : X.A.units + 1 < cLine) (hc : X.calm = true) (hN : X.N.Nodup) (hy : X.N[i]? = some y) (hyl : X.env.scope.names.lookup y = some .local)
    (hsw : swapsWith (.DictComp kx vx [⟨tg, iter, ifs, 0⟩] scope pos) (some (.Name y py)) spos.line X.env = pure true) (hi : PI X tg iter wi) (ok : BlkOk X.N X.env.scope scope own)
    (hg : ∀ (s : Shared) (H : Hp) (C : Addr) (cl : List (Str × Addr)) (fp : List Addr), PG (X.blk s H scope (compEnvC scope cl C X.env) fp) tg g)
    (ht : ∀ (s : Shared) (H : Hp) (C : Addr) (cl : List (Str × Addr)) (fp : List Addr), PTs (X.blk s H scope (compEnvC scope cl C X.env) fp) ifs tt)
    (hk : ∀ (s : Shared) (H : Hp) (C : Addr) (cl : List (Str × Addr)) (fp : List Addr), PE (X.blk s H scope (compEnvC scope cl C X.env) fp) kx tk')
    (he : ∀ (s : Shared) (H : Hp) (C : Addr) (cl : List (Str × Addr)) (fp : List Addr), PE (X.blk s H scope (compEnvC scope cl C X.env) fp) vx tv) (hs : ∀ x, foldedSetIterable iter X.env x = pure x) :
    PS X (.Assign [.Name y py] (.DictComp kx vx [⟨tg, iter, ifs, 0⟩] scope pos) spos) (tAsg (tDg t wi g tt tk' tv (own.map (·.2))) (gName i)) := by
  refine ⟨fun pins s σ H D I h => ?_⟩
  rw [exec_Assign_Name_used _ _ _ _ hsw]
  refine wpAny_bind (wpAny_standAt (wpAny_bind ?_))
  show wpAny _ X.A (do let _ ← comprehension (.DictComp kx vx [⟨tg, iter, ifs, 0⟩] scope pos) scope X.env (firstIterPos [⟨tg, iter, ifs, 0⟩] pos) newDict false (eval iter X.env) (some (assign (.Name y py) X.env))) _ _ s
  have h : tDg t wi g tt tk' tv (own.map (·.2)) σ H (fun x H1 => gName i x σ H1 D.nx) := h
  refine wpAny_bind (thn (dcg_core (Qf := fun _ s' => SP X pins D .next s') hu hc hN I hi ok hg ht hk he hs h fun L C s' m H' I' q hn f => ?_) fun _ s' hq => wpAny_pure (wpAny_pure hq))
  show wpAny _ _ (assign (.Name y py) X.env (.ref L)) _ _ _
  refine wpAny_assign_Name (store_ok2 (v := V.ref L) I' hN hy (.inl hyl) rfl (fun s2 I2 ⟨a, sb, ha⟩ => ?_) (.inr hyl))
  obtain ⟨f0, f1, f2, f3, f4, f5⟩ := f
  have haC : C ≠ a := by
    rcases ha with z | z
    · rw [z]; exact f1
    · exact fun e => f4 y a z e.symm
  refine ⟨m, hn.sameBut sb haC, fun h3 sb3 => ?_⟩
  exact ⟨_, H', I2.turned (t' := s2.toks) (fun b o hb e => (sb3.2 b hb).trans e) f0 f1 f3 f4 f5, q⟩
theorem sw_dict {gs : List Comprehension} {py : Pos} {y : Str} {l : Nat} {env : Env} (hk : env.scope.kind = .function) (hy : env.scope.names.lookup y = some .local) (hl : (py.line == pos.line) = true)
    (ha : (scope.names.any fun (n, k) => n == y && (k == .local || k == .cell)) = false) : swapsWith (.DictComp kx vx gs scope pos) (some (.Name y py)) l env = pure true := by
  have ky : env.kindOf y = some .local := hy
  have hb : env.blockKind = .function := by unfold Env.blockKind; rw [hk]; rfl
  unfold swapsWith
  simp only [hb, ky, ha, Expr.pos, hl]
  rfl
theorem e_dc (hu : X.A.units + 1 < cLine) (hc : X.calm = true) (hN : X.N.Nodup) (hi : PI X tg iter (TIs X.K q1 src)) (ok : BlkOk X.N X.env.scope scope own) (ht : ∀ i ∈ t.slots, i ∈ own.map (·.2))
    (hg : ∀ (s : Shared) (H : Hp) (C : Addr) (cl : List (Str × Addr)) (fp : List Addr), PG (X.blk s H scope (compEnvC scope cl C X.env) fp) tg (gT X.K t))
    (hT : ∀ (s : Shared) (H : Hp) (C : Addr) (cl : List (Str × Addr)) (fp : List Addr), PTs (X.blk s H scope (compEnvC scope cl C X.env) fp) ifs (TTs X.K q2 T))
    (hk : ∀ (s : Shared) (H : Hp) (C : Addr) (cl : List (Str × Addr)) (fp : List Addr), PE (X.blk s H scope (compEnvC scope cl C X.env) fp) kx (TEs X.K q3 f))
    (he : ∀ (s : Shared) (H : Hp) (C : Addr) (cl : List (Str × Addr)) (fp : List Addr), PE (X.blk s H scope (compEnvC scope cl C X.env) fp) vx (TEs X.K q4 k)) (hs : ∀ x, foldedSetIterable iter X.env x = pure x) :
    PE X (.DictComp kx vx [⟨tg, iter, ifs, 0⟩] scope pos) (TEs X.K (q1 && (q2 && (q3 && q4))) (dcM tk (own.map (·.2)) src t T f k)) :=
  (pe_dg hu hc hN hi ok hg hT hk he hs).imp fun σ H Q w => tDg_of ht w
theorem s_setDc {i : Nat} {y : Str} {py spos : Pos} (hu : X.A.units + 1 < cLine) (hc : X.calm = true) (hN : X.N.Nodup) (hy : X.N[i]? = some y) (hyl : X.env.scope.names.lookup y = some .local)
    (hsw : swapsWith (.DictComp kx vx [⟨tg, iter, ifs, 0⟩] scope pos) (some (.Name y py)) spos.line X.env = pure true) (hi : PI X tg iter (TIs X.K q1 src)) (ok : BlkOk X.N X.env.scope scope own) (ht : ∀ i ∈ t.slots, i ∈ own.map (·.2))
    (hg : ∀ (s : Shared) (H : Hp) (C : Addr) (cl : List (Str × Addr)) (fp : List Addr), PG (X.blk s H scope (compEnvC scope cl C X.env) fp) tg (gT X.K t))
    (hT : ∀ (s : Shared) (H : Hp) (C : Addr) (cl : List (Str × Addr)) (fp : List Addr), PTs (X.blk s H scope (compEnvC scope cl C X.env) fp) ifs (TTs X.K q2 T))
    (hk : ∀ (s : Shared) (H : Hp) (C : Addr) (cl : List (Str × Addr)) (fp : List Addr), PE (X.blk s H scope (compEnvC scope cl C X.env) fp) kx (TEs X.K q3 f))
    (he : ∀ (s : Shared) (H : Hp) (C : Addr) (cl : List (Str × Addr)) (fp : List Addr), PE (X.blk s H scope (compEnvC scope cl C X.env) fp) vx (TEs X.K q4 k)) (hs : ∀ x, foldedSetIterable iter X.env x = pure x) (hv : vp.contains i = false) :
    PS X (.Assign [.Name y py] (.DictComp kx vx [⟨tg, iter, ifs, 0⟩] scope pos) spos) (TSs X.K vp (setM i (dcM tk (own.map (·.2)) src t T f k))) :=
  (ps_setDg hu hc hN hy hyl hsw hi ok hg hT hk he hs).imp fun D σ H ⟨O, ρ, u, s, e, p⟩ => by
    unfold setM at e
    obtain ⟨⟨r, ρ1⟩, e1, e⟩ := R.bind_eq e
    obtain ⟨ρ2, e2, e⟩ := R.bind_eq e
    cases e
    refine tDg_of (tk := tk) (q1 := q1) (q2 := q2) (q3 := q3) (q4 := q4) ht ⟨O, ρ, r, ρ1, s, e1, fun v H' O' F s' f' _ w => ?_⟩
    obtain ⟨O2, s2, f2⟩ := s'.store f' w e2
    exact p _ H' O2 s2 f2 (KeepS.set hv)
end

/-! ## {k: v} of one pair, ints or texts as keys -/
def disp1D (f g : Fe) : Fe := fun ρ => (f ρ).bind fun p => (g p.2).bind fun q => match p.1, q.1 with
  | .o (.im k), .o (.im d) => if fits false k = true then .ok (.o (.dic false [(k, .im d)]), q.2) else .no
  | _, _ => .no
section
variable {X : Cx} {K : PySem.W.Frag} {q1 q2 : Bool} {f g : Fe} {a b : Expr} {pos : Pos}
theorem TEs.disp1 {σ : St} {H : Hp} {Q : VK} (w : TEs K (q1 && q2) (disp1D f g) σ H Q) : tDisp [(TEs K q1 f, TEs K q2 g)] σ H Q := by
  obtain ⟨O, ρ, r, ρ', s, e, post⟩ := w
  unfold disp1D at e
  obtain ⟨⟨r1, ρ1⟩, e1, e⟩ := R.bind_eq e
  obtain ⟨⟨r2, ρ2⟩, e2, e⟩ := R.bind_eq e
  split at e <;> first | cases e | skip
  rename_i k d h1 h2
  have h1 : r1 = .o (.im k) := h1
  have h2 : r2 = .o (.im d) := h2
  subst h1 h2
  by_cases hk : fits false k = true
  · rw [if_pos hk] at e
    cases e
    intro p hp
    have s' := s.ext (Ext.upd (o := .dK []) hp)
    have op : O p = .no := by
      cases z : O p with
      | no => rfl
      | _ => exact absurd hp (s.live p (by rw [z]; simp))
    refine ⟨O, ρ, _, ρ1, s', e1, fun y H1 O1 F1 s1 f1 u1 w1 => ⟨O1, ρ1, _, _, s1, e2, fun z H2 O2 F2 s2 f2 u2 w2 => ?_⟩⟩
    have f12 := f1.trans f2 s1.sl_live
    have hp2 : H2 p = some (.dK []) := f12.keep p _ upd_same fun i => by rw [op]; simp
    have op2 : O2 p = .no := f12.no p (by rw [upd_same]; simp) op
    obtain ⟨j, hj⟩ := Option.isSome_iff_exists.mp (show (keyOf k).isSome = true from hk)
    obtain rfl := keyOf_some hj
    have hy : RepI K H2 (keyI j) y := w1.1.im_inv.keep (s1.ktup f2)
    obtain rfl := hy.key
    refine ⟨hp2, [(j, z)], rfl, by simp, ?_⟩
    have fe : Fr O H O2 H2 := (Fr.ext (O := O) (Ext.upd (o := .dK []) hp)).trans f12 s'.sl_live
    have mp : Mut (H2 p) := by rw [hp2]; trivial
    refine post (.ref p) _ O2 [p] (s2.atD op2 mp) (fe.atD hp) (fun z => ?_) ⟨.dicK (.inl upd_same) ⟨rfl, by simp⟩ ?_, List.nodup_cons.mpr ⟨by simp, .nil⟩, fun a ha => ?_⟩
    · rw [Bool.and_eq_true] at z
      exact ⟨(u2 z.2).1.trans (u1 z.1).1, (((Qu.of (Ext.upd (o := .dK []) hp)).trans (u1 z.1).2).trans (u2 z.2).2).atD hp⟩
    · have hz : RepI K (upd H2 p (.dK (mergeK [] [(j, z)]))) d z := w2.1.im_inv.keep fun a o e n => by
        rw [upd_ne]
        · exact e
        · rintro rfl; rw [hp2] at e; cases e; exact n trivial
      exact (List.append_nil ([] : List Addr)) ▸ RepDs.cons (.im hz) .nil
    · obtain rfl := List.mem_singleton.mp ha
      exact ⟨op2, by rw [upd_same]; trivial, .inl hp⟩
  · rw [if_neg hk] at e; cases e
theorem e_disp1 (ha : PE X a (TEs X.K q1 f)) (hb : PE X b (TEs X.K q2 g)) : PE X (.Dict [some a] [b] pos) (TEs X.K (q1 && q2) (disp1D f g)) :=
  (pe_disp (pps_cons ha hb pps_nil) rfl rfl (by simp) (by simp)).imp fun _ _ _ w => w.disp1
end
end Wv

set_option Elab.async false
set_option linter.all false
set_option maxRecDepth 100000
/-! enumerate over a tuple -/
namespace PySem
open AutoSeq1 (wpAny_loadPart')
set_option maxHeartbeats 1000000 in
theorem meets_enumerate_newT' (l : Addr) (items : Array Value) (o : Obj) (hc : o.cls = .type "tuple") (n : Nat) (hd : o.data = .seq items n) :
    Meets (Builtin.«enumerate.__new__» ⟨[.type "enumerate", .ref l], []⟩) (fun _ R s => s.heap.get? l = some o ∧
      R (.ok (.ret (.ref (s.heap.push { cls := .type "tuple_iterator", data := .fields #[.ref l, .int 0 0] }).objs.size)))
        { s with heap := (s.heap.push { cls := .type "tuple_iterator", data := .fields #[.ref l, .int 0 0] }).push { cls := .type "enumerate", data := .fields #[.none, .bool false, .ref s.heap.objs.size, rawInt 0, .none, .none] } }) :=
  .of_wp fun prog w A R s h => by
    obtain ⟨hp, g, d, tk, os⟩ := s; obtain ⟨hl, h⟩ := h
    have hsub := sub_enumerate
    have hL : Heap.IsTuple (Shared.heap ⟨hp, g, d, tk, os⟩) l items := ⟨_, hl, hc, n, hd⟩
    wp_walk using wpAny_loadPart' hl
    refine wpAny_stack_any fun st => wpAny_pure ?_
    split
    · rename_i c _ _ _ _ _
      cases (c == Value.type "enumerate")
      · wp_walk using wpAny_loadPart' hl, wpAny_pyIter_tuple hL
        exact ⟨_, rfl, h⟩
      · wp_walk using wpAny_loadPart' hl, wpAny_pyIter_tuple hL
        exact ⟨_, rfl, h⟩
    · wp_walk using wpAny_loadPart' hl, wpAny_pyIter_tuple hL
      exact ⟨_, rfl, h⟩
section
variable {prog : Program} {w : World} {A : Around} {E : Value → Shared → Prop} {s : Shared}
theorem call_enumerate_tuple' {l : Addr} {items : Array Value} {Q : Value → Shared → Prop} (hL : s.heap.IsTuple l items)
    (h : ∀ h', IsEnum h' (s.heap.objs.size + 1) s.heap.objs.size 0 .none → h'.IsTupleIter s.heap.objs.size l 0 → h'.objs.size = s.heap.objs.size + 2 →
      (∀ b o, s.heap.get? b = some o → h'.get? b = some o) → Q (.ref (s.heap.objs.size + 1)) { s with heap := h' }) :
    wpAny (model prog w) A (call (.type "enumerate") [.ref l]) Q E s := by
  obtain ⟨o, hl, hc, n, hd⟩ := hL
  refine callType_new F.called_enumerate (by decide) (F.typeCall_enumerate_1 _) (F.newCall_enumerate_1 _) (fun obj => F.args_object_init_2 obj _) F.entry_enumerate_new
    (meets_enumerate_newT' l items o hc n hd) ⟨hl, ?_⟩
  have hz : (s.heap.push { cls := .type "tuple_iterator", data := .fields #[.ref l, .int 0 0] }).objs.size = s.heap.objs.size + 1 := Heap.size_push ..
  show _ ∧ _
  rw [hz]
  have he : IsEnum ((s.heap.push { cls := .type "tuple_iterator", data := .fields #[.ref l, .int 0 0] }).push
      { cls := .type "enumerate", data := .fields #[.none, .bool false, .ref s.heap.objs.size, rawInt 0, .none, .none] }) (s.heap.objs.size + 1) s.heap.objs.size 0 .none := by
    have := Heap.get?_push_size (s.heap.push { cls := .type "tuple_iterator", data := .fields #[.ref l, .int 0 0] })
      (o := { cls := .type "enumerate", data := .fields #[.none, .bool false, .ref s.heap.objs.size, rawInt 0, .none, .none] }) rfl
    rw [hz] at this; exact this
  refine ⟨⟨_, he, rfl⟩, h _ he ⟨_, Heap.get?_push_of_some _ (Heap.get?_push_size _ rfl), rfl, rfl⟩ (by rw [Heap.size_push, hz]) fun b o x => Heap.get?_push_of_some _ (Heap.get?_push_of_some _ x)⟩
theorem wpAny_pyNext_enum_endT {e it l : Addr} {i : Nat} {j : Int} {items : Array Value} {old : Value} {Q : Option Value → Shared → Prop} (hh : A.handled = none)
    (he : IsEnum s.heap e it j old) (hit : s.heap.IsTupleIter it l i) (hl : s.heap.IsTuple l items) (hx : items[i]? = none)
    (hQ : ∀ h', Heap.ExtBut it s.heap h' → Q none { s with heap := h' }) : wpAny (model prog w) A (pyNext (.ref e)) Q E s := by
  have hT : s.TypeIs (.ref e) "enumerate" := ⟨_, he, rfl⟩
  unfold pyNext
  refine wpAny_bind (wpAny_attempt (wpAny_callSpecial?_slot (name := Str.ofString "__next__") hT F.slot_enumerate_next
    (wpAny_call_entry F.slot_enumerate_next hT F.entry_enumerate_next ?_ (F.args_enumerate_next_1 _))))
  show wpAny _ _ (field (.ref e) 2 >>= _) _ _ _
  refine wpAny_bind (wpAny_field he rfl (x := .ref it) rfl ?_)
  refine wpAny_bind (wpAny_nextOf_tuple_end hh hit hl hx fun h' x he' hx' => ?_)
  obtain ⟨o, ho, hc⟩ := hx'
  refine wpAny_bind (wpAny_isInstance (T := "StopIteration") (b := true) ⟨o, ho, hc⟩ isSubtype_stop ?_)
  exact wpAny_pure (hQ _ he')
end
end PySem
namespace Wv
open PySem PySem.Spec PyProof.Rows L2
/-- the tuple at a, each item in a new pair -/
def IteT (K : PySem.W.Frag) (a : Addr) : It :=
  ⟨fun i H => ∃ (xs : List V) (x : V), SqT K H a xs ∧ xs[i]? = some x, fun i H v H' => ∃ T x, v = .ref T ∧ H T = none ∧ H' = upd H T (.tup [.int (i : Nat), x]) ∧ ∀ xs, SqT K H a xs → xs[i]? = some x, fun i H => ∃ xs : List V, SqT K H a xs ∧ xs.length ≤ i⟩
theorem turn_enumT {P : Program} {w : World} {K : PySem.W.Frag} {elts : List Expr} {kk : Nat} {tpos : Pos} (a e it : Addr) (hai : a ≠ it) (hae : a ≠ e) :
    Turn P w K (.Tuple elts kk tpos) (IteT K a) [e, it] e (fun i h => (∃ old, IsEnum h e it ((i : Nat) : Int) old) ∧ h.IsTupleIter it a i ∧ e ≠ it) where
  mem := by simp
  obj := fun i h st b hb => by
    obtain ⟨⟨old, he⟩, ⟨o, ho, hc, hd⟩, _⟩ := st
    have e' : b = e ∨ b = it := by simpa using hb
    rcases e' with z | z
    · rw [z]; exact ⟨_, he, fun v q => nomatch q⟩
    · rw [z]; exact ⟨o, ho, fun v q => by rw [hd] at q; cases q⟩
  keep := fun i h h' st k => let ⟨⟨old, he⟩, hi, hne⟩ := st; ⟨⟨old, k e (by simp) _ he⟩, hi.at fun o q => k it (by simp) o q, hne⟩
  item := by
    intro X hP hw hK hc i pins s σ H E I hf st hg
    subst hP hw hK
    obtain ⟨⟨old, he⟩, hit, hne⟩ := st
    obtain ⟨xs, x, hq, hx⟩ := hg
    obtain ⟨its, rv, p, hz⟩ := I.tuple hq
    obtain ⟨u, hu, ru⟩ := rv.get hx
    have hel : e < s.heap.objs.size := Heap.lt_size he
    have hil : it < s.heap.objs.size := by obtain ⟨_, q, _⟩ := hit; exact Heap.lt_size q
    have hgi : its[i]? = some u := hu
    have hlt : i < its.toArray.size := by
      have := List.getElem?_eq_some_iff.mp hgi
      simpa using this.1
    refine wpAny_pyNext_enum_itemD (PySem.Draws.tuple (A := X.A.in1) (show X.A.in1.handled = none from I.ok.hd hc) it a hai its.toArray) he (show s.heap.IsTupleIter it a i ∧ s.heap.IsTuple a its.toArray from ⟨hit, p⟩) hlt hne (by simp [hne, Ne.symm hae]) fun x' h' tk hP ho hit' hT hsz hk => ?_
    have hx' : x' = u := by
      have hP : its.toArray[i]? = some x' := hP
      rw [List.getElem?_toArray, hgi] at hP
      exact (Option.some.inj hP).symm
    subst hx'
    refine ⟨_, rfl, wpAny_letOwnedTupleGo_enum (s := { s with heap := h', toks := tk + 1 }) ho fun h'' he' sb => ?_⟩
    have hT2 : h''.get? s.heap.objs.size = some { cls := .type "tuple", data := .seq #[.int i tk, x'] } := (sb.2 _ (Nat.ne_of_gt hel)).trans hT
    have new : ObjOk X.prog X.w (upd H s.heap.objs.size (.tup [.int (i : Nat), x])) h'' s.heap.objs.size (.tup [.int (i : Nat), x]) :=
      ⟨by show 2 ≤ sizeLine; decide, [.int i tk, x'], .cons ⟨_, rfl⟩ (.cons ru .nil), ⟨_, hT2, rfl, _, rfl⟩⟩
    have I1 : Inv X pins σ (upd H s.heap.objs.size (.tup [.int (i : Nat), x])) { s with heap := h'', toks := tk + 1 } :=
      I.turnedNew (ch := [e, it]) (fun b ob hb q => (sb.2 b (fun z => hb (by simp [z]))).trans (hk b ob (fun z => hb (by simp [z])) (fun z => hb (by simp [z])) q)) hf (Nat.le_refl _) new
    refine ⟨.ref s.heap.objs.size, _, I1, rfl, ⟨_, x, rfl, I.hok.fresh (Nat.le_refl _), rfl, fun ys hy => by rw [I.tuple_inj hy hq]; exact hx⟩, ⟨⟨x', ?_⟩, hit'.1.at fun o q => (sb.2 it (Ne.symm hne)).trans q, hne⟩, fun b hb => ?_⟩
    · have e1 : ((i + 1 : Nat) : Int) = (i : Int) + 1 := by omega
      rw [e1]; exact he'
    · have hb' : b < s.heap.objs.size := by
        have e' : b = e ∨ b = it := by simpa using hb
        rcases e' with z | z
        · rw [z]; exact hel
        · rw [z]; exact hil
      rw [upd_ne (Nat.ne_of_lt hb')]
      exact (hf b hb).1
  done := by
    intro X hP hw hK hc i pins s σ H E I hf st hg
    subst hP hw hK
    obtain ⟨⟨old, he⟩, hit, hne⟩ := st
    obtain ⟨xs, hq, hx⟩ := hg
    obtain ⟨its, rv, p, hz⟩ := I.tuple hq
    obtain ⟨f0, f1, f2, f3, f4, f5⟩ := hf it (by simp)
    have hl := rv.length
    have hT : s.TypeIs (.ref e) "enumerate" := ⟨_, he, rfl⟩
    have hnone : its.toArray[i]? = none := by simp; omega
    refine wpAny_pyNext_enum_endT (I.ok.hd hc) he hit p hnone fun h' eb => ⟨rfl, I.turned (t' := s.toks) (fun b o hb q => eb b o hb q) f0 f1 f3 f4 f5⟩
  self := fun A i s Q E st h => let ⟨⟨_, he⟩, _⟩ := st; wpAny_pyIter_enum he h
def iEnumA (K : PySem.W.Frag) (ta : TA) : TI := fun σ H R => ta σ H fun vs H1 => ∃ a xs, vs = [.ref a] ∧ ((SqL K H1 a xs ∧ R (Ite K a) H1) ∨ (SqT K H1 a xs ∧ R (IteT K a) H1))
theorem pi_enumA {X : Cx} {e : Expr} {ta : TA} {p pos tpos : Pos} {elts : List Expr} {kk : Nat} (hg : Gl X "enumerate") (hm : X.mg "enumerate" = none) (ha : PA X [e] ta) (hs : starEach [e] X.env = [(false, eval e X.env)] := by rfl) :
    PI X (.Tuple elts kk tpos) (.Call (.Name "enumerate" p) [e] [] pos) (iEnumA X.K ta) := by
  refine ⟨fun pins s σ H R I h => ?_⟩
  refine Call_ (ld_blt I hg hm boot_enumerate (PyProof.Rows.callWith_type1 (thn (ha.run pos pins s σ H _ I h) fun us s1 ⟨vs, H1, I1, r1, q1⟩ => ?_) hs rfl))
  obtain ⟨a, xs, ex, q1⟩ := q1
  subst ex
  cases r1 with
  | cons r rr =>
    cases rr
    cases r
    have fr : ∀ b ∈ [s1.heap.objs.size + 1, s1.heap.objs.size], FpOk X pins H1 b := fun b hb => by
      have e' : b = s1.heap.objs.size + 1 ∨ b = s1.heap.objs.size := by simpa using hb
      have hle : s1.heap.objs.size ≤ b := by
        rcases e' with z | z
        · rw [z]; exact Nat.le_add_right _ _
        · rw [z]; exact Nat.le_refl _
      exact I1.fpOk hle (I1.hok.fresh hle)
    rcases q1 with ⟨hq, q⟩ | ⟨hq, q⟩
    · obtain ⟨its, rv, p', hz⟩ := I1.list hq
      refine call_enumerate_list p'.isList fun h' he hit hsz hk => wpAny_pyIter_enum he ?_
      have I2 : Inv X pins σ H1 { s1 with heap := h' } := I1.kept (t' := s1.toks) hk
      exact ⟨s1.heap.objs.size + 1, [s1.heap.objs.size + 1, s1.heap.objs.size], _, _, H1, rfl, I2, turn_enum a (s1.heap.objs.size + 1) s1.heap.objs.size, ⟨⟨.none, he⟩, hit, Nat.succ_ne_self _⟩, fr, q⟩
    · obtain ⟨its, rv, p', hz⟩ := I1.tuple hq
      obtain ⟨o1, ho1, _⟩ := id p'
      have hlt : a < s1.heap.objs.size := Heap.lt_size ho1
      refine call_enumerate_tuple' (show s1.heap.IsTuple a its.toArray from p') fun h' he hit hsz hk => wpAny_pyIter_enum he ?_
      have I2 : Inv X pins σ H1 { s1 with heap := h' } := I1.kept (t' := s1.toks) hk
      exact ⟨s1.heap.objs.size + 1, [s1.heap.objs.size + 1, s1.heap.objs.size], _, _, H1, rfl, I2, turn_enumT a (s1.heap.objs.size + 1) s1.heap.objs.size (Nat.ne_of_lt hlt) (Nat.ne_of_lt (Nat.lt_succ_of_lt hlt)), ⟨⟨.none, he⟩, hit, Nat.succ_ne_self _⟩, fr, q⟩
end Wv

set_option Elab.async false
set_option linter.all false
set_option maxRecDepth 100000
namespace Wv
open PySem PySem.Spec PyProof.Rows L2

/-! ## over enumerate(list), zip(.., ..) -/
section
variable {K : PySem.W.Frag} {O O' O1 O2 : Ow} {H H' H1 H2 : Hp} {σ : L2.St} {ρ ρ' : Ev}
theorem SR.laidAll {G : List Addr} (s : SR K O' H' σ ρ') (f : Fr O H O' H') (hG : ∀ a ∈ G, O' a = .no ∧ H' a ≠ none ∧ (H a = none ∨ ∃ i, O a = .sl i)) :
    SR K (still O' G) H' σ ρ' ∧ Fr O H (still O' G) H' ∧ (Qu O H O' H' → Qu O H (still O' G) H') := by
  have ne : ∀ a, O' a ≠ .no → a ∉ G := fun a h z => h (hG a z).1
  have nt : ∀ {a}, a ∉ G → still O' G a = O' a := fun h => by unfold Wv.still; rw [if_neg h]
  refine ⟨⟨fun i x e => ?_, fun a i e => ?_, fun a e => ?_, s.len⟩, ⟨f.keep, fun a n e => ?_, fun a e => ?_, fun a e => ?_, fun a e => ?_, f.live⟩, fun u => ⟨u.ext, fun a n => ?_⟩⟩
  · have h := s.slot i x e
    cases x with
    | e => trivial
    | o d => obtain ⟨v, F', h1, h2, h3, h4⟩ := h; exact ⟨v, F', h1, h2, h3, fun a ha => by rw [nt (ne a (by rw [h4 a ha]; simp)), h4 a ha]⟩
    | s d => obtain ⟨v, F', h1, h2, h4⟩ := h; exact ⟨v, F', h1, h2, fun a ha => by rw [nt (ne a (by rw [h4 a ha]; simp)), h4 a ha]⟩
    | l d => obtain ⟨v, F', h1, h2, h4⟩ := h; exact ⟨v, F', h1, h2, fun a ha => by rw [nt (ne a (h4 a ha).ne_no)]; exact h4 a ha⟩
  · unfold Wv.still at e; split at e
    · cases e
    · exact s.own a i e
  · unfold Wv.still at e; split at e
    · rename_i ha; exact (hG a ha).2.1
    · exact s.live a e
  · have q := f.no a n e
    rw [nt fun ha => ?_, q]
    rcases (hG a ha).2.2 with z | ⟨j, z⟩
    · exact n z
    · rw [e] at z; cases z
  · have q := f.fz a e
    unfold Wv.still; split
    · rfl
    · exact q
  · have q := f.lk a e
    rw [nt (ne a (by rw [q]; simp)), q]
  · unfold Wv.still at e; split at e
    · cases e
    · exact f.lk' a e
  · rw [nt fun ha => ?_, u.own a n]
    obtain ⟨z1, _, z2⟩ := hG a ha
    rcases z2 with z | ⟨j, z⟩
    · exact n z
    · rw [u.own a n, z] at z1; cases z1
theorem VlsOk.laid {rs : List Vl} {vs : List V} {G : List Addr} (w : VlsOk K O H O' H' rs vs G) (s : SR K O' H' σ ρ') (f : Fr O H O' H') (hb : ∀ r ∈ rs, r.isB = false) :
    ∃ O2, SR K O2 H' σ ρ' ∧ Fr O H O2 H' ∧ (∃ F, RepDs K H' (rs.map Vl.d) vs F ∧ ∀ a ∈ F, O2 a = .fz) ∧ (Qu O H O' H' → Qu O H O2 H') := by
  have al := w.own_all.2
  have lv : ∀ a ∈ G, H' a ≠ none := fun a ha z => by have := (al a ha).2.1; rw [z] at this; exact this
  obtain ⟨s2, f2, q2⟩ := s.laidAll (G := G) f fun a ha => ⟨(al a ha).1, lv a ha, (al a ha).2.2⟩
  refine ⟨_, s2, f2, ?_, q2⟩
  have key : ∀ {rs : List Vl} {vs : List V} {G' : List Addr}, VlsOk K O H O' H' rs vs G' → (∀ r ∈ rs, r.isB = false) → (∀ a ∈ G', a ∈ G) → ∃ F, RepDs K H' (rs.map Vl.d) vs F ∧ ∀ a ∈ F, Wv.still O' G a = .fz := by
    intro rs vs G' w
    induction w with
    | nil => intro _ _; exact ⟨[], .nil, fun _ z => nomatch z⟩
    | @own d v F rs vs G1 a b c ih =>
      intro hb hs
      obtain ⟨F1, h1, h2⟩ := ih (fun r hr => hb r (List.mem_cons_of_mem _ hr)) fun x hx => hs x (List.mem_append_right _ hx)
      refine ⟨F ++ F1, .cons a.1 h1, fun x hx => (List.mem_append.mp hx).elim (fun z => ?_) (h2 x)⟩
      unfold Wv.still; rw [if_pos (hs x (List.mem_append_left _ z))]
    | @shr d v F rs vs G1 a b ih =>
      intro hb hs
      obtain ⟨F1, h1, h2⟩ := ih (fun r hr => hb r (List.mem_cons_of_mem _ hr)) hs
      refine ⟨F ++ F1, .cons a.1 h1, fun x hx => (List.mem_append.mp hx).elim (fun z => ?_) (h2 x)⟩
      unfold Wv.still
      split
      · rfl
      · exact a.2 x z
    | bor a b ih => intro hb _; cases hb _ List.mem_cons_self
  exact key w hb fun _ h => h
/-- pairs with their places -/
def enItems (l : List Dt) : List Itm := l.zipIdx.map fun p => .two (.im (.int (p.2 : Nat))) p.1
theorem enItems_at {l : List Dt} {i : Nat} {itm : Itm} (h : (enItems l)[i]? = some itm) : ∃ d, l[i]? = some d ∧ itm = .two (.im (.int i)) d := by
  unfold enItems at h
  rw [List.getElem?_map, List.getElem?_zipIdx] at h
  simp only [Option.map_map, Option.map_eq_some_iff] at h
  obtain ⟨d, h1, h2⟩ := h
  exact ⟨d, h1, by rw [← h2]; simp⟩
theorem enItems_len {l : List Dt} : (enItems l).length = l.length := by unfold enItems; simp
theorem src_enum {a : Addr} {l : List Dt} {vs : List V} {G : List Addr} (h : H a = some (.lst vs)) (r : RepDs K H l vs G) (z : vs.length ≤ sizeLine) : Src K (Ite K a) H (a :: G) (enItems l) where
  go := fun i H1 hi k => by
    rw [enItems_len, r.len] at hi
    exact ⟨vs, vs[i], .of (by rw [k.at_ a List.mem_cons_self, h]), List.getElem?_eq_getElem hi⟩
  stop := fun H1 k => ⟨vs, .of (by rw [k.at_ a List.mem_cons_self, h]), by rw [enItems_len, r.len]; exact Nat.le_refl _⟩
  yld := fun i H1 x H' itm k y e => by
    obtain ⟨T, w, rfl, hT, rfl, y⟩ := y
    obtain ⟨d, hd, rfl⟩ := enItems_at e
    have x2 : Ext H1 (upd H1 T (.tup [.int (i : Nat), w])) := Ext.upd hT
    refine ⟨x2, ?_⟩
    obtain ⟨v, F, h1, h2, h3⟩ := r.at hd
    have := y vs (.of (by rw [k.at_ a List.mem_cons_self, h]))
    rw [h1] at this; cases this
    have h4 := (h2.keep k.tup fun b hb => k.at_ b (List.mem_cons_of_mem _ (h3.subset hb))).ext x2
    exact ⟨T, .int (i : Nat), w, [], F, rfl, upd_same, .im .int, h4, (fun _ z => nomatch z), fun b hb => List.mem_cons_of_mem _ (h3.subset hb)⟩
  len := by rw [enItems_len, r.len]; exact z
theorem src_enumT {a : Addr} {l : List Im} {vs : List V} (h : H a = some (.tup vs)) (r : RepIs K H l vs) (z : vs.length ≤ sizeLine) : Src K (IteT K a) H [] (enItems (l.map .im)) where
  go := fun i H1 hi k => by
    rw [enItems_len, List.length_map, r.len] at hi
    exact ⟨vs, vs[i], .of (k.tup a _ h Mut.tup), List.getElem?_eq_getElem hi⟩
  stop := fun H1 k => ⟨vs, .of (k.tup a _ h Mut.tup), by rw [enItems_len, List.length_map, r.len]; exact Nat.le_refl _⟩
  yld := fun i H1 x H' itm k y e => by
    obtain ⟨T, w, rfl, hT, rfl, y⟩ := y
    obtain ⟨d, hd, rfl⟩ := enItems_at e
    have x2 : Ext H1 (upd H1 T (.tup [.int (i : Nat), w])) := Ext.upd hT
    refine ⟨x2, ?_⟩
    rw [List.getElem?_map] at hd
    obtain ⟨i1, hi1, rfl⟩ := Option.map_eq_some_iff.mp hd
    obtain ⟨v, h1, h2⟩ := r.at hi1
    have := y vs (.of (k.tup a _ h Mut.tup))
    rw [h1] at this; cases this
    exact ⟨T, .int (i : Nat), w, [], [], rfl, upd_same, .im .int, .im ((h2.keep k.tup).ext x2), (fun _ z => nomatch z), fun _ z => nomatch z⟩
  len := by rw [enItems_len, List.length_map, r.len]; exact z
def zpItems (l m : List Dt) : List Itm := (l.zip m).map fun p => .two p.1 p.2
theorem zpItems_at {l m : List Dt} {i : Nat} {itm : Itm} (h : (zpItems l m)[i]? = some itm) : ∃ d e, l[i]? = some d ∧ m[i]? = some e ∧ itm = .two d e := by
  unfold zpItems at h
  rw [List.getElem?_map] at h
  obtain ⟨⟨d, e⟩, h1, h2⟩ := Option.map_eq_some_iff.mp h
  obtain ⟨h3, h4⟩ := List.getElem?_zip_eq_some.mp h1
  exact ⟨d, e, h3, h4, h2.symm⟩
theorem zpItems_len {l m : List Dt} : (zpItems l m).length = min l.length m.length := by unfold zpItems; simp
theorem src_zip {a b : Addr} {l m : List Dt} {vs ws : List V} {G G' : List Addr} (h : H a = some (.lst vs)) (h' : H b = some (.lst ws)) (r : RepDs K H l vs G) (r' : RepDs K H m ws G') (z : vs.length ≤ sizeLine) :
    Src K (Itz K a b) H ((a :: G) ++ (b :: G')) (zpItems l m) where
  go := fun i H1 hi k => by
    rw [zpItems_len, r.len, r'.len] at hi
    exact ⟨vs, ws, vs[i]'(by omega), ws[i]'(by omega), .of (by rw [k.at_ a (by simp), h]), .of (by rw [k.at_ b (by simp), h']), List.getElem?_eq_getElem (by omega), List.getElem?_eq_getElem (by omega)⟩
  stop := fun H1 k => ⟨vs, ws, .of (by rw [k.at_ a (by simp), h]), .of (by rw [k.at_ b (by simp), h']), by rw [zpItems_len, r.len, r'.len]; omega⟩
  yld := fun i H1 x H' itm k y e => by
    obtain ⟨T, w, w', rfl, hT, rfl, y, y'⟩ := y
    obtain ⟨d, d', hd, hd', rfl⟩ := zpItems_at e
    have x2 : Ext H1 (upd H1 T (.tup [w, w'])) := Ext.upd hT
    refine ⟨x2, ?_⟩
    obtain ⟨v, F, h1, h2, h3⟩ := r.at hd
    obtain ⟨v', F', g1, g2, g3⟩ := r'.at hd'
    have e1 := y vs (.of (by rw [k.at_ a (by simp), h]))
    rw [h1] at e1; cases e1
    have e2 := y' ws (.of (by rw [k.at_ b (by simp), h']))
    rw [g1] at e2; cases e2
    have m1 : ∀ c ∈ F, c ∈ (a :: G) ++ (b :: G') := fun c hc => List.mem_append_left _ (List.mem_cons_of_mem _ (h3.subset hc))
    have m2 : ∀ c ∈ F', c ∈ (a :: G) ++ (b :: G') := fun c hc => List.mem_append_right _ (List.mem_cons_of_mem _ (g3.subset hc))
    exact ⟨T, w, w', F, F', rfl, upd_same, (h2.keep k.tup fun c hc => k.at_ c (m1 c hc)).ext x2, (g2.keep k.tup fun c hc => k.at_ c (m2 c hc)).ext x2, m1, m2⟩
  len := by rw [zpItems_len, r.len]; omega
theorem src_zipT {a b : Addr} {l m : List Im} {vs ws : List V} (h : H a = some (.tup vs)) (h' : H b = some (.tup ws)) (r : RepIs K H l vs) (r' : RepIs K H m ws) (z : vs.length ≤ sizeLine) :
    Src K (RZ.ItzT K a b) H [] (zpItems (l.map .im) (m.map .im)) where
  go := fun i H1 hi k => by
    rw [zpItems_len, List.length_map, List.length_map, r.len, r'.len] at hi
    exact ⟨vs, ws, vs[i]'(by omega), ws[i]'(by omega), .of (k.tup a _ h Mut.tup), .of (k.tup b _ h' Mut.tup), List.getElem?_eq_getElem (by omega), List.getElem?_eq_getElem (by omega)⟩
  stop := fun H1 k => ⟨vs, ws, .of (k.tup a _ h Mut.tup), .of (k.tup b _ h' Mut.tup), by rw [zpItems_len, List.length_map, List.length_map, r.len, r'.len]; omega⟩
  yld := fun i H1 x H' itm k y e => by
    obtain ⟨T, w, w', rfl, hT, rfl, y, y'⟩ := y
    obtain ⟨d, d', hd, hd', rfl⟩ := zpItems_at e
    have x2 : Ext H1 (upd H1 T (.tup [w, w'])) := Ext.upd hT
    refine ⟨x2, ?_⟩
    rw [List.getElem?_map] at hd hd'
    obtain ⟨i1, hi1, rfl⟩ := Option.map_eq_some_iff.mp hd
    obtain ⟨i2, hi2, rfl⟩ := Option.map_eq_some_iff.mp hd'
    obtain ⟨v, h1, h2⟩ := r.at hi1
    obtain ⟨v', g1, g2⟩ := r'.at hi2
    have e1 := y vs (.of (k.tup a _ h Mut.tup))
    rw [h1] at e1; cases e1
    have e2 := y' ws (.of (k.tup b _ h' Mut.tup))
    rw [g1] at e2; cases e2
    exact ⟨T, w, w', [], [], rfl, upd_same, .im ((h2.keep k.tup).ext x2), .im ((g2.keep k.tup).ext x2), (fun _ z => nomatch z), (fun _ z => nomatch z)⟩
  len := by rw [zpItems_len, List.length_map, r.len]; omega
end
def enM (f : Fe) : Fi := fun ρ => (f ρ).bind fun p => if p.1.isB = true then .no else match p.1.d with
  | .lst l => .ok (enItems l, [], p.2)
  | .im (.tup l) => .ok (enItems (l.map .im), [], p.2)
  | _ => .no
def zpM (q2 : Bool) (f g : Fe) : Fi := fun ρ => (acM q2 f (acM true g anM) ρ).bind fun q => match q.1 with
  | [a, b] => if (a.isB || b.isB) = true then .no else match a.d, b.d with
    | .lst l, .lst m => .ok (zpItems l m, [], q.2)
    | .im (.tup l), .im (.tup m) => .ok (zpItems (l.map .im) (m.map .im), [], q.2)
    | _, _ => .no
  | _ => .no
section
variable {X : Cx} {q q1 q2 : Bool} {f g : Fe} {e e2 : Expr} {p pos tpos : Pos} {elts : List Expr} {kk : Nat}
theorem _root_.L2.PA.sz {es : List Expr} {t : TA} (h : PA X es t) : PA X es fun σ H Q => t σ H fun v H' => SzOk H' → Q v H' :=
  ⟨fun pos pins s σ H Q I q => thn (h.run pos pins s σ H _ I q) fun u s' ⟨v, H', I', r, w⟩ => ⟨v, H', I', r, w (sz_of I')⟩⟩
theorem i_enum (hg : Gl X "enumerate") (hm : X.mg "enumerate" = none) (he : PE X e (TEs X.K q f)) (hs : starEach [e] X.env = (false, eval e X.env) :: starEach [] X.env) (hs' : starEach [e] X.env = [(false, eval e X.env)]) :
    PI X (.Tuple elts kk tpos) (.Call (.Name "enumerate" p) [e] [] pos) (TIs X.K q (enM f)) :=
  (pi_enumA hg hm (pa_cons he pa_nil hs).sz hs').imp fun σ H Rr ⟨O, ρ, items, xs, ρ', s, e, pp⟩ => by
    unfold enM at e
    obtain ⟨⟨r, ρ1⟩, e1, e⟩ := R.bind_eq e
    simp only at e
    by_cases hb : r.isB = true
    · rw [if_pos hb] at e; cases e
    rw [if_neg hb] at e
    have hb : r.isB = false := by simpa using hb
    split at e <;> cases e
    · rename_i l hl
      refine ⟨O, ρ, r, _, s, e1, fun v H' O' F s' f' u' w sz => ?_⟩
      obtain ⟨O2, s2, f2, w2, w3, w4⟩ := w.laid s' f' hb
      have hl : r.d = .lst l := hl
      rw [hl] at w2
      obtain ⟨a, vs, G, rfl, rfl, h1, h2⟩ := w2.lst_inv
      exact ⟨a, vs, rfl, .inl ⟨.of h1, pp _ H' O2 (a :: G) s2 f2 (fun z => ⟨(u' z).1, w4 (u' z).2⟩) (fun b hb => .inl (w3 b hb)) (src_enum h1 h2 (sz a vs (.inl h1)))⟩⟩
    · rename_i l hl
      refine ⟨O, ρ, r, _, s, e1, fun v H' O' F s' f' u' w sz => ?_⟩
      obtain ⟨O2, s2, f2, w2, w3, w4⟩ := w.laid s' f' hb
      have hl : r.d = .im (.tup l) := hl
      rw [hl] at w2
      obtain ⟨a, vs, rfl, h1, h2⟩ := w2.im_inv.tup_inv
      exact ⟨a, vs, rfl, .inr ⟨.of h1, pp _ H' O2 [] s2 f2 (fun z => ⟨(u' z).1, w4 (u' z).2⟩) (fun _ z => nomatch z) (src_enumT h1 h2 (sz a vs (.inr h1)))⟩⟩
theorem i_zip (hg : Gl X "zip") (hm : X.mg "zip" = none) (ha : PA X [e, e2] (TAs X.K q (acM q2 f (acM true g anM)))) (hs : starEach [e, e2] X.env = (false, eval e X.env) :: starEach [e2] X.env) (hpl : (backTo pos (starEach [e2] X.env)).any (·.1) = false) :
    PI X (.Tuple elts kk tpos) (.Call (.Name "zip" p) [e, e2] [] pos) (TIs X.K q (zpM q2 f g)) :=
  (RZ.pi_zipA hg hm ha.sz hs hpl).imp fun σ H Rr ⟨O, ρ, items, xs, ρ', s, e, pp⟩ => by
    unfold zpM at e
    obtain ⟨⟨rs, ρ1⟩, e1, e⟩ := R.bind_eq e
    split at e <;> first | cases e | skip
    rename_i a b hab
    have hab : rs = [a, b] := hab
    subst hab
    by_cases hb : (a.isB || b.isB) = true
    · rw [if_pos hb] at e; cases e
    rw [if_neg hb] at e
    have hb : (a.isB || b.isB) = false := by simpa using hb
    rw [Bool.or_eq_false_iff] at hb
    have which : (∃ l m, a.d = .lst l ∧ b.d = .lst m ∧ R.ok (zpItems l m, ([] : List Nat), ρ1) = R.ok (items, xs, ρ')) ∨ ∃ l m, a.d = .im (.tup l) ∧ b.d = .im (.tup m) ∧ R.ok (zpItems (l.map .im) (m.map .im), ([] : List Nat), ρ1) = R.ok (items, xs, ρ') := by
      split at e <;> first | cases e | skip
      · rename_i l m h1 h2; exact .inl ⟨l, m, h1, h2, rfl⟩
      · rename_i l m h1 h2; exact .inr ⟨l, m, h1, h2, rfl⟩
    refine ⟨O, ρ, [a, b], ρ1, s, e1, fun vs H' O' G s' f' u' w sz => ?_⟩
    obtain ⟨O2, s2, f2, ⟨F, w2, w3⟩, w4⟩ := w.laid s' f' fun r hr => by
      rcases List.mem_cons.mp hr with rfl | hr
      · exact hb.1
      · rw [List.mem_singleton.mp hr]; exact hb.2
    cases w2 with
    | @cons _ _ v _ F1 _ r1 r2 =>
      cases r2 with
      | @cons _ _ v2 _ F2 _ r2 r3 =>
        cases r3
        rcases which with ⟨l, m, h1, h2, e⟩ | ⟨l, m, h1, h2, e⟩
        · cases e
          rw [h1] at r1
          rw [h2] at r2
          obtain ⟨x, vs, G1, rfl, rfl, g1, g2⟩ := r1.lst_inv
          obtain ⟨y, ws, G2, rfl, rfl, k1, k2⟩ := r2.lst_inv
          refine ⟨x, y, vs, ws, rfl, .inl ⟨.of g1, .of k1, pp _ H' O2 _ s2 f2 (fun z => ⟨(u' z).1, w4 (u' z).2⟩) (fun b hb => .inl (w3 b (by simpa using hb))) (src_zip g1 k1 g2 k2 (sz x vs (.inl g1)))⟩⟩
        · cases e
          rw [h1] at r1
          rw [h2] at r2
          obtain ⟨x, vs, rfl, g1, g2⟩ := r1.im_inv.tup_inv
          obtain ⟨y, ws, rfl, k1, k2⟩ := r2.im_inv.tup_inv
          exact ⟨x, y, vs, ws, rfl, .inr ⟨.of g1, .of k1, pp _ H' O2 [] s2 f2 (fun z => ⟨(u' z).1, w4 (u' z).2⟩) (fun b hb => nomatch hb) (src_zipT g1 k1 g2 k2 (sz x vs (.inr g1)))⟩⟩
end
end Wv

set_option Elab.async false
set_option linter.all false
set_option maxRecDepth 100000
namespace Wv
open PySem PySem.Spec PyProof.Rows L2

/-! ## [.. for .. for ..] -/
def lc2I (own1 : List Nat) (t : Tgt) (T : Ft) (f : Fe) : List Itm → Ev → List Dt → R (List Dt × Ev)
  | [], ρ, acc => .ok (acc, ρ)
  | it :: r, ρ, acc => (tgM false t it ρ).bind fun ρa => (T ρa).bind fun b => if b.1 = true then (f b.2).bind fun p => match p.1 with
      | .o d => if acc.length < SZ then lc2I own1 t T f r (wipeE own1 p.2) (acc ++ [d]) else .no
      | _ => .no
    else lc2I own1 t T f r (wipeE own1 b.2) acc
def lc2L (l : Bool) (own own1 : List Nat) (t : Tgt) (T : Ft) (src1 : Fi) (t1 : Tgt) (T1 : Ft) (f : Fe) : List Itm → Ev → List Dt → R (List Dt × Ev)
  | [], ρ, acc => .ok (acc, ρ)
  | it :: r, ρ, acc => (tgM l t it ρ).bind fun ρa => (T ρa).bind fun b => if b.1 = true then (src1 b.2).bind fun z => if z.2.1.isEmpty = true then
      (lc2I own1 t1 T1 f z.1 (wipeE own1 z.2.2) acc).bind fun p => lc2L l own own1 t T src1 t1 T1 f r (wipeE own p.2) p.1 else .no
    else lc2L l own own1 t T src1 t1 T1 f r (wipeE own b.2) acc
def lc2M (own own1 : List Nat) (src : Fi) (t : Tgt) (T : Ft) (src1 : Fi) (t1 : Tgt) (T1 : Ft) (f : Fe) : Fe := fun ρ => (src ρ).bind fun z =>
  (lc2L (!z.2.1.isEmpty) own own1 t T src1 t1 T1 f z.1 (wipeE own (lockE z.2.1 z.2.2)) []).bind fun p => .ok (.o (.lst p.1), mergeC (own ++ z.2.1) 0 z.2.2 p.2)
/-- the owner map with the new list told apart -/
def mkD (D : Addr) (O : Ow) : Ow := fun a => if a = D then .sl 0 else O a
section
variable {K : PySem.W.Frag} {O O' O1 O2 : Ow} {H H' H1 H2 : Hp} {σ σ2 : L2.St} {ρ ρ' ρ2 : Ev} {D : Addr}
theorem mkD_ne {a : Addr} (h : a ≠ D) : mkD D O a = O a := by unfold mkD; rw [if_neg h]
theorem SR.mkD (s : SR K O H σ ρ) (o : O D = .no) (m : Mut (H D)) (l : H D ≠ none) : SR K (Wv.mkD D O) H σ ρ where
  slot := fun i x h => by
    have w := s.slot i x h
    have ne : ∀ {a : Addr}, O a ≠ .no → a ≠ D := fun h e => h (by rw [e, o])
    cases x with
    | e => trivial
    | o d => obtain ⟨v, F, g1, g2, g3, g4⟩ := w; exact ⟨v, F, g1, g2, g3, fun a ha => by rw [mkD_ne (ne (by rw [g4 a ha]; simp)), g4 a ha]⟩
    | s d => obtain ⟨v, F, g1, g2, g4⟩ := w; exact ⟨v, F, g1, g2, fun a ha => by rw [mkD_ne (ne (by rw [g4 a ha]; simp)), g4 a ha]⟩
    | l d => obtain ⟨v, F, g1, g2, g4⟩ := w; exact ⟨v, F, g1, g2, fun a ha => by rw [mkD_ne (ne (g4 a ha).ne_no)]; exact g4 a ha⟩
  own := fun a i e => by
    by_cases c : a = D
    · subst c; exact m
    · rw [mkD_ne c] at e; exact s.own a i e
  live := fun a e => by
    by_cases c : a = D
    · subst c; exact l
    · rw [mkD_ne c] at e; exact s.live a e
  len := s.len
theorem Fr.mkD (f : Fr O H O' H') (o : O D = .no) (o' : O' D = .no) : Fr (Wv.mkD D O) H (Wv.mkD D O') H' where
  keep := fun a u e n => by
    by_cases c : a = D
    · subst c; exact absurd (by unfold Wv.mkD; rw [if_pos rfl]) (n 0)
    · exact f.keep a u e fun i z => n i (by rw [mkD_ne c]; exact z)
  no := fun a n e => by
    by_cases c : a = D
    · subst c; unfold Wv.mkD at e; rw [if_pos rfl] at e; cases e
    · rw [mkD_ne c] at e ⊢; exact f.no a n e
  fz := fun a e => by
    by_cases c : a = D
    · subst c; unfold Wv.mkD at e; rw [if_pos rfl] at e; cases e
    · rw [mkD_ne c] at e ⊢; exact f.fz a e
  lk := fun a e => by
    by_cases c : a = D
    · subst c; unfold Wv.mkD at e; rw [if_pos rfl] at e; cases e
    · rw [mkD_ne c] at e ⊢; exact f.lk a e
  lk' := fun a e => by
    by_cases c : a = D
    · subst c; unfold Wv.mkD at e; rw [if_pos rfl] at e; cases e
    · rw [mkD_ne c] at e ⊢; exact f.lk' a e
  live := f.live
theorem Fr.updD {o : HO} : Fr (Wv.mkD D O) H (Wv.mkD D O) (upd H D o) where
  keep := fun a u e n => by
    by_cases c : a = D
    · subst c; exact absurd (by unfold Wv.mkD; rw [if_pos rfl]) (n 0)
    · rw [upd_ne c]; exact e
  no := fun _ _ h => h
  fz := fun _ h => h
  lk := fun _ h => h
  lk' := fun _ h => h
  live := fun a n => by
    by_cases c : a = D
    · subst c; rw [upd_same]; simp
    · rw [upd_ne c]; exact n
theorem inner_of {Lk : Ow} {vs1 : List Nat} {t1 : Tgt} {T1 : Ft} {f : Fe} {q2 q3 : Bool} {Pq : Prop} {J : It} {B : List Addr} {items : List Itm} {ds dsI : List Dt} {acc : List V} {G : List Addr} {ρI : Ev} {Nx : Hp → Prop} (ht : ∀ i ∈ t1.slots, i ∈ vs1) (hD : H1 D = none)
    (s2 : SR K O2 H2 σ2 ρ2) (f2 : Fr Lk H1 O2 H2) (hLk : ∀ a i, i ∈ vs1 → Lk a ≠ .sl i) (hD2 : H2 D = some (.lst acc)) (oD2 : O2 D = .no) (va : VlsOk K Lk H1 O2 H2 (ds.map .o) acc G) (hDG : D ∉ G)
    (S : Src K J H2 B items) (bok : BOk false O2 B) (e : lc2I vs1 t1 T1 f items (wipeE vs1 ρ2) ds = .ok (dsI, ρI)) (qu : Pq ∧ q2 = true → q3 = true → Qu Lk H1 O2 H2)
    (hNx : ∀ H' O' acc' G', SR K O' H' (L2.wipe σ2 vs1) ρI → Fr Lk H1 O' H' → H' D = some (.lst acc') → O' D = .no → VlsOk K Lk H1 O' H' (dsI.map .o) acc' G' → D ∉ G' → (Pq ∧ q2 = true → q3 = true → ρI = wipeE vs1 ρ2 ∧ Qu Lk H1 O' H') → Nx H') :
    ∃ W1 : Nat → Nat → Hp → Prop, (∃ m, W1 0 m H2) ∧ ∀ j k H, W1 j k H →
      (J.stop j H ∧ Nx H) ∨ (J.go j H ∧ ∃ Nx1 : Hp → Prop, (∀ H', Nx1 H' → ∃ k', k' < k ∧ W1 (j + 1) k' H') ∧ ∀ x H', J.yld j H x H' → gT K t1 x (L2.wipe σ2 vs1) H' fun σ3 H5 => L2.wipe σ3 vs1 = L2.wipe σ2 vs1 ∧ TTs K q2 T1 σ3 H5 fun b H6 =>
        if b = true then TEs K q3 f σ3 H6 fun y H7 => ∃ acc, H7 D = some (.lst acc) ∧ acc.length < sizeLine ∧ Nx1 (upd H7 D (.lst (acc ++ [y]))) else Nx1 H6) := by
  have hB : ∀ a ∈ B, a ≠ D := fun a ha z => by
    have := bok.stl a ha
    rw [z, oD2] at this
    rcases this with h | h <;> cases h
  have sD : SR K (Wv.mkD D O2) H2 σ2 ρ2 := s2.mkD oD2 (by rw [hD2]; trivial) (by rw [hD2]; simp)
  have bD : BOk false (Wv.mkD D O2) B := fun a ha => by rw [mkD_ne (hB a ha)]; exact bok a ha
  refine ⟨fun i m H3 => m = items.length - i ∧ i ≤ items.length ∧ ∃ O3 ρ3 ds acc G, SR K O3 H3 (L2.wipe σ2 vs1) ρ3 ∧ Fr Lk H1 O3 H3 ∧ Fr (Wv.mkD D O2) H2 (Wv.mkD D O3) H3 ∧ H3 D = some (.lst acc) ∧ O3 D = .no ∧ VlsOk K Lk H1 O3 H3 (ds.map .o) acc G ∧ D ∉ G ∧
      lc2I vs1 t1 T1 f (items.drop i) ρ3 ds = .ok (dsI, ρI) ∧ (Pq ∧ q2 = true → q3 = true → ρ3 = wipeE vs1 ρ2 ∧ Qu Lk H1 O3 H3),
    ⟨items.length, by simp, Nat.zero_le _, O2, _, ds, acc, G, s2.wipe vs1, f2, Fr.refl, hD2, oD2, va, hDG, by simpa using e, fun z1 z2 => ⟨rfl, qu z1 z2⟩⟩, ?_⟩
  rintro i m H3 ⟨rfl, hi, O3, ρ3, ds, acc, G, s3, f3, fD3, hD3, oD3, va, hDG, e3, u3⟩
  have kp3 : Kp B H2 H3 := kp_of (L := []) sD fD3 bD.stl
  have sl3 : ∀ a i, Wv.mkD D O3 a = .sl i → H3 a ≠ none := (s3.mkD oD3 (by rw [hD3]; trivial) (by rw [hD3]; simp)).sl_live
  by_cases hlt : i < items.length
  · refine .inr ⟨S.go i H3 hlt kp3, _, fun H' z => ⟨items.length - (i + 1), by omega, z⟩, fun x H4 hy => ?_⟩
    obtain ⟨itm, hitm⟩ : ∃ itm, items[i]? = some itm := ⟨items[i], List.getElem?_eq_getElem hlt⟩
    obtain ⟨x4, w4⟩ := S.yld i H3 x H4 itm kp3 hy hitm
    have hdrop : items.drop i = itm :: items.drop (i + 1) := by
      rw [List.drop_eq_getElem_cons hlt]
      rw [List.getElem?_eq_getElem hlt] at hitm
      rw [Option.some.inj hitm]
    rw [hdrop] at e3
    obtain ⟨ρa, e4, e3⟩ := R.bind_eq (show (tgM false t1 itm ρ3).bind _ = .ok (dsI, ρI) from e3)
    have s4 := s3.ext x4
    have f4 := f3.trans (Fr.ext (O := O3) x4) s3.sl_live
    have fD4 := fD3.trans (Fr.ext (O := Wv.mkD D O3) x4) sl3
    have bok3 : BOk false O3 B := fun a ha => by
      have := (bD.fr fD3) a ha
      rw [mkD_ne (hB a ha)] at this
      exact this
    refine tg_ok s4 e4 w4 bok3 fun σ5 O5 s5 f5 k5 st5 => ?_
    have wp : L2.wipe σ5 vs1 = L2.wipe σ2 vs1 := by
      rw [(st5.mono ht).wipe]
      exact (wipe_sto (vs := vs1) (σ := σ2)).wipe
    refine ⟨wp, ?_⟩
    obtain ⟨⟨b, ρb⟩, e5, e3⟩ := R.bind_eq e3
    simp only at e3
    have f15 := f4.trans f5 s4.sl_live
    have hD4 : H4 D = some (.lst acc) := x4 D _ hD3
    have oD5 : O5 D = .no := f5.no D (by rw [hD4]; simp) oD3
    have va5 := (va.ext x4).pend s4 f5
    have fD5 := fD4.trans (f5.mkD (D := D) oD3 oD5) fun a i z => (x4.grow a (sl3 a i z))
    have qput : Pq ∧ q2 = true → q3 = true → Qu Lk H1 O5 H4 := fun z1 z2 => by
      have z := (u3 z1 z2).2
      obtain ⟨y1, _⟩ := u3 z1 z2
      refine ⟨z.ext.trans x4, fun a n => ?_⟩
      have z2 := z.own a n
      rw [k5 a fun i hi q => ?_, z2]
      rw [z2] at q
      exact hLk a i (ht i hi) q
    have qenv : ∀ ρ', Pq ∧ q2 = true → q3 = true → ρ' = ρa → wipeE vs1 ρ' = wipeE vs1 ρ2 := fun ρ' z1 z2 z3 => by
      obtain ⟨y1, _⟩ := u3 z1 z2
      obtain ⟨h1, h2⟩ := tgM_at e4
      subst z3
      rw [wipeE_same h1 fun j hj => h2 j fun z => hj (ht j z), y1]
      exact wipeE_same wipeE_len fun j hj => wipeE_out hj
    refine ⟨O5, ρa, b, ρb, s5, e5, fun H6 O6 s6 f6 u6 => ?_⟩
    have f16 := f15.trans f6 s5.sl_live
    have hD6 : H6 D = some (.lst acc) := f6.keep D _ hD4 fun i => by rw [oD5]; simp
    have oD6 : O6 D = .no := f6.no D (by rw [hD4]; simp) oD5
    have va6 := va5.pend s5 f6
    have sl5 : ∀ a i, Wv.mkD D O5 a = .sl i → H4 a ≠ none := (s5.mkD oD5 (by rw [hD4]; trivial) (by rw [hD4]; simp)).sl_live
    have fD6 := fD5.trans (f6.mkD (D := D) oD5 oD6) sl5
    have sl6 : ∀ a i, Wv.mkD D O6 a = .sl i → H6 a ≠ none := (s6.mkD oD6 (by rw [hD6]; trivial) (by rw [hD6]; simp)).sl_live
    cases b with
    | false =>
      rw [if_neg (by simp)] at e3
      refine (if_neg (by simp)).mpr ⟨rfl, hlt, O6, _, ds, acc, G, ?_, f16, fD6, hD6, oD6, va6, hDG, e3, fun z1 z2 => ?_⟩
      · have := s6.wipe vs1
        rw [wp] at this
        exact this
      · exact ⟨qenv ρb z1 z2 (u6 z1.2).1, (qput z1 z2).trans (u6 z1.2).2⟩
    | true =>
      rw [if_pos rfl] at e3
      obtain ⟨⟨r6, ρc⟩, e6, e3⟩ := R.bind_eq e3
      simp only at e3
      split at e3 <;> first | cases e3 | skip
      rename_i d
      have hl : ds.length < SZ := by
        by_cases hl : ds.length < SZ
        · exact hl
        · rw [if_neg hl] at e3; cases e3
      rw [if_pos hl] at e3
      refine (if_pos rfl).mpr ⟨O6, ρb, _, ρc, s6, e6, fun y H7 O7 F s7 f7 u7 w7 => ?_⟩
      have f17 := f16.trans f7 s6.sl_live
      have hD7 : H7 D = some (.lst acc) := f7.keep D _ hD6 fun i => by rw [oD6]; simp
      have oD7 : O7 D = .no := f7.no D (by rw [hD6]; simp) oD6
      have va7 := va6.pend s6 f7
      have fD7 := fD6.trans (f7.mkD (D := D) oD6 oD7) sl6
      have sl7 : ∀ a i, Wv.mkD D O7 a = .sl i → H7 a ≠ none := (s7.mkD oD7 (by rw [hD7]; trivial) (by rw [hD7]; simp)).sl_live
      have fresh : ∀ a, H6 a ≠ none → O6 a = .no → a ∉ F := fun a n o ha => by
        rcases (w7.2.2 a ha).2.2 with z | ⟨j, z⟩
        · exact n z
        · rw [o] at z; cases z
      obtain ⟨G', vn, hG'⟩ := va7.snoc (w7.from f16) fun a ha => fresh a ((va6.owns (l := ds) (ownsOf_map ds)).live a ha) (va6.own_all.2 a ha).1
      have hDG' : D ∉ G' := fun z => (hG' D z).elim hDG (fresh D (by rw [hD6]; simp) oD6)
      have hmD : Mut (H7 D) := by rw [hD7]; trivial
      refine ⟨acc, hD7, ?_, rfl, hlt, O7, _, ds ++ [d], acc ++ [y], G', ?_, f17.atD hD, fD7.trans Fr.updD sl7, upd_same, oD7, vn.atD hDG' hmD, hDG', e3, fun z1 z2 => ?_⟩
      · have := va.len
        rw [List.length_map] at this
        rw [← this]; exact hl
      · have := (s7.atD (o := .lst (acc ++ [y])) oD7 hmD).wipe vs1
        rw [wp] at this
        exact this
      · exact ⟨qenv ρc z1 z2 ((u7 z2).1.trans (u6 z1.2).1), (((qput z1 z2).trans (u6 z1.2).2).trans (u7 z2).2).atD hD⟩
  · obtain rfl : i = items.length := by omega
    refine .inl ⟨S.stop H3 kp3, ?_⟩
    rw [List.drop_length] at e3
    cases e3
    exact hNx H3 O3 acc G s3 f3 hD3 oD3 va hDG u3
theorem wipe_wipe {own own1 : List Nat} {σ : L2.St} (h : ∀ i ∈ own1, i ∈ own) : L2.wipe (L2.wipe σ own1) own = L2.wipe σ own := ((wipe_sto (vs := own1) (σ := σ)).mono h).wipe
theorem wipeE_wipeE {own own1 : List Nat} {ρ : Ev} (h : ∀ i ∈ own1, i ∈ own) : wipeE own (wipeE own1 ρ) = wipeE own ρ := wipeE_same wipeE_len fun j hj => wipeE_out fun z => hj (h j z)
theorem tLc2_of {own own1 : List Nat} {src src1 : Fi} {t t1 : Tgt} {T T1 : Ft} {f : Fe} {q1 q2 q4 q5 q6 : Bool} {Q : VK} (ht : ∀ i ∈ t.slots, i ∈ own) (ht1 : ∀ i ∈ t1.slots, i ∈ own1) (h1o : ∀ i ∈ own1, i ∈ own)
    (w : TEs K (q1 && (q2 && (q4 && (q5 && q6)))) (lc2M own own1 src t T src1 t1 T1 f) σ H Q) : tLc2 (TIs K q1 src) (gT K t) (TTs K q2 T) (TIs K q4 src1) (gT K t1) (TTs K q5 T1) (TEs K q6 f) own own1 σ H Q := by
  obtain ⟨O, ρ, r, ρ', sr, e, p⟩ := w
  unfold lc2M at e
  obtain ⟨⟨items, xs, ρ1⟩, e1, e⟩ := R.bind_eq e
  obtain ⟨⟨dsF, ρF⟩, e2, e⟩ := R.bind_eq e
  cases e
  simp only at e2 p
  refine ⟨O, ρ, items, xs, ρ1, sr, e1, fun J H1 O1 B s1 f1 u1 tB S D hD => ?_⟩
  generalize hL : own ++ xs = L at *
  have sb : SR K (lockT L O1) H1 (L2.wipe σ own) (wipeE own (lockE xs ρ1)) := by rw [← hL]; exact s1.lock own xs
  -- what is walked is lent, or stands still
  have bok : BOk (!xs.isEmpty) (lockT L O1) B := fun a ha => by
    cases xs with
    | nil =>
      rcases tB a ha with z | ⟨x, hx, _⟩
      · rw [lockT_stl (.inr z)]; exact z
      · cases hx
    | cons x r =>
      show Stl _
      rcases tB a ha with z | ⟨y, hy, z⟩
      · rw [lockT_stl (.inr z)]; exact .inr z
      · exact .inl (lockT_sl z (by rw [← hL]; exact List.mem_append_right _ hy))
  have ob1 : lockT L O1 D = .no := by
    cases z : lockT L O1 D with
    | no => rfl
    | _ => exact absurd hD (sb.live D (by rw [z]; simp))
  refine ⟨fun i m H2 => m = items.length - i ∧ i ≤ items.length ∧ ∃ O2 ρ2 ds acc G, SR K O2 H2 (L2.wipe σ own) ρ2 ∧ Fr (lockT L O1) H1 O2 H2 ∧ H2 D = some (.lst acc) ∧ O2 D = .no ∧ VlsOk K (lockT L O1) H1 O2 H2 (ds.map .o) acc G ∧ D ∉ G ∧
      lc2L (!xs.isEmpty) own own1 t T src1 t1 T1 f (items.drop i) ρ2 ds = .ok (dsF, ρF) ∧ (q2 = true → (q4 && (q5 && q6)) = true → ρ2 = wipeE own (lockE xs ρ1) ∧ Qu (lockT L O1) H1 O2 H2),
    ⟨items.length, by simp, Nat.zero_le _, lockT L O1, _, [], [], [], sb.ext (Ext.upd hD), Fr.ext (Ext.upd hD), upd_same, ob1, .nil, by simp, by simpa using e2, fun _ _ => ⟨rfl, Qu.of (Ext.upd hD)⟩⟩, ?_⟩
  rintro i m H2 ⟨rfl, hi, O2, ρ2, ds, acc, G, s2, f2, hD2, oD2, va, hDG, e3, u2⟩
  have kp2 := kp_of (L := L) sb f2 bok.stl
  by_cases hlt : i < items.length
  · -- a turn
    refine .inr ⟨S.go i H2 hlt kp2, _, fun H' z => ⟨items.length - (i + 1), by omega, z⟩, fun x H3 hy => ?_⟩
    obtain ⟨itm, hitm⟩ : ∃ itm, items[i]? = some itm := ⟨items[i], List.getElem?_eq_getElem hlt⟩
    obtain ⟨x3, w3⟩ := S.yld i H2 x H3 itm kp2 hy hitm
    have hdrop : items.drop i = itm :: items.drop (i + 1) := by
      rw [List.drop_eq_getElem_cons hlt]
      rw [List.getElem?_eq_getElem hlt] at hitm
      rw [Option.some.inj hitm]
    rw [hdrop] at e3
    obtain ⟨ρa, e4, e3⟩ := R.bind_eq (show (tgM (!xs.isEmpty) t itm ρ2).bind _ = .ok (dsF, ρF) from e3)
    have s3 := s2.ext x3
    have f3 := f2.trans (Fr.ext (O := O2) x3) s2.sl_live
    refine tg_ok s3 e4 w3 (bok.fr f3) fun σ4 O4 s4 f4 k4 st4 => ?_
    have wp : L2.wipe σ4 own = L2.wipe σ own := by
      rw [(st4.mono ht).wipe]
      exact (wipe_sto (vs := own) (σ := σ)).wipe
    refine ⟨wp, ?_⟩
    obtain ⟨⟨b, ρb⟩, e5, e3⟩ := R.bind_eq e3
    simp only at e3
    have f14 := f3.trans f4 s3.sl_live
    have hD4 : H3 D = some (.lst acc) := x3 D _ hD2
    have oD4 : O4 D = .no := by
      have : O2 D = .no := oD2
      rw [f4.no D (by rw [hD4]; simp) this]
    have va4 := (va.ext x3).pend s3 f4
    have qput : q2 = true → (q4 && (q5 && q6)) = true → Qu (lockT L O1) H1 O4 H3 := fun z1 z2 => by
      have z := (u2 z1 z2).2
      refine ⟨z.ext.trans x3, fun a n => ?_⟩
      have z2 := z.own a n
      rw [k4 a fun i hi q => ?_, z2]
      rw [z2] at q
      rcases lockT_cases L O1 a with ⟨h1, _⟩ | ⟨h1, h2⟩
      · rw [h1] at q; cases q
      · rw [h1] at q
        exact h2 i (by rw [← hL]; exact List.mem_append_left _ (ht i hi)) q
    have qenv : ∀ ρ', q2 = true → (q4 && (q5 && q6)) = true → ρ' = ρa → wipeE own ρ' = wipeE own (lockE xs ρ1) := fun ρ' z1 z2 z3 => by
      obtain ⟨y1, _⟩ := u2 z1 z2
      obtain ⟨h1, h2⟩ := tgM_at e4
      subst z3
      rw [wipeE_same h1 fun j hj => h2 j fun z => hj (ht j z), y1]
      exact wipeE_same wipeE_len fun j hj => wipeE_out hj
    refine ⟨O4, ρa, b, ρb, s4, e5, fun H5 O5 s5 f5 u5 => ?_⟩
    have f15 := f14.trans f5 s4.sl_live
    have hD5 : H5 D = some (.lst acc) := f5.keep D _ hD4 fun i => by rw [oD4]; simp
    have oD5 : O5 D = .no := f5.no D (by rw [hD4]; simp) oD4
    have va5 := va4.pend s4 f5
    cases b with
    | false =>
      rw [if_neg (by simp)] at e3
      refine (if_neg (by simp)).mpr ⟨rfl, hlt, O5, _, ds, acc, G, ?_, f15, hD5, oD5, va5, hDG, e3, fun z1 z2 => ?_⟩
      · have := s5.wipe own
        rw [wp] at this
        exact this
      · exact ⟨qenv ρb z1 z2 (u5 z1).1, (qput z1 z2).trans (u5 z1).2⟩
    | true =>
      rw [if_pos rfl] at e3
      obtain ⟨⟨items1, xs1, ρc⟩, e6, e3⟩ := R.bind_eq e3
      simp only at e3
      have hx1 : xs1 = [] := by
        cases xs1 with
        | nil => rfl
        | cons x r => cases e3
      subst hx1
      rw [if_pos (show ([] : List Nat).isEmpty = true from rfl)] at e3
      obtain ⟨⟨dsI, ρI⟩, e7, e3⟩ := R.bind_eq e3
      refine (if_pos rfl).mpr ⟨O5, ρb, items1, [], ρc, s5, e6, fun J1 H6 O6 B1 s6 f6 u6 tB1 S1 => ?_⟩
      have f16 := f15.trans f6 s5.sl_live
      have hD6 : H6 D = some (.lst acc) := f6.keep D _ hD5 fun i => by rw [oD5]; simp
      have oD6 : O6 D = .no := f6.no D (by rw [hD5]; simp) oD5
      have va6 := va5.pend s5 f6
      refine inner_of (Pq := q2 = true ∧ q4 = true) (H1 := H1) (Lk := lockT L O1) ht1 hD s6 f16 (fun a k hk z => ?_) hD6 oD6 va6 hDG S1 (fun a ha => ?_) e7 (fun z1 z2 => ?_) fun H7 O7 acc7 G7 s7 f7 hD7 oD7 va7 hDG7 u7 => ?_
      · rcases lockT_cases L O1 a with ⟨h1, _⟩ | ⟨h1, h2⟩
        · rw [h1] at z; cases z
        · rw [h1] at z
          exact h2 k (by rw [← hL]; exact List.mem_append_left _ (h1o k hk)) z
      · rcases tB1 a ha with z | ⟨x, hx, _⟩
        · exact z
        · cases hx
      · exact (((qput z1.1.1 (by rw [Bool.and_eq_true, Bool.and_eq_true]; exact ⟨z1.1.2, z1.2, z2⟩)).trans (u5 z1.1.1).2)).trans (u6 z1.1.2).2
      · refine ⟨rfl, hlt, O7, _, dsI, acc7, G7, ?_, f7, hD7, oD7, va7, hDG7, e3, fun z1 z2 => ?_⟩
        · have := s7.wipe own
          rw [wipe_wipe h1o, wp] at this
          exact this
        · have z3 := z2
          rw [Bool.and_eq_true, Bool.and_eq_true] at z3
          obtain ⟨y1, y2⟩ := u7 ⟨⟨z1, z3.1⟩, z3.2.1⟩ z3.2.2
          refine ⟨?_, y2⟩
          rw [y1, wipeE_wipeE h1o]
          exact qenv ρc z1 z2 ((u6 z3.1).1.trans (u5 z1).1)
  · -- the end
    obtain rfl : i = items.length := by omega
    refine .inl ⟨S.stop H2 kp2, ?_⟩
    rw [List.drop_length] at e3
    cases e3
    obtain ⟨s9, st9⟩ := s1.free s2 (fun i hi => by rw [← hL]; exact List.mem_append_left _ hi) f2
    have f9 := Fr.free s1.sl_live f2
    refine p _ H2 _ (D :: G) s9 (f1.trans f9 s1.sl_live) (fun z => ?_) ?_
    · simp only [Bool.and_eq_true] at z
      obtain ⟨y1, y2⟩ := u2 z.2.1 (by rw [Bool.and_eq_true, Bool.and_eq_true]; exact z.2.2)
      obtain ⟨y3, y4⟩ := u1 z.1
      refine ⟨by rw [y1, ← hL, merge_quiet, y3], y4.ext.trans y2.ext, fun a n => ?_⟩
      have n1 := f1.live a n
      by_cases c : ∃ k ∈ L, O1 a = .sl k
      · obtain ⟨k, hk, e⟩ := c
        rw [freeT_sl e hk, ← e, y4.own a n]
      · have c' : ∀ k ∈ L, O1 a ≠ .sl k := fun k hk e => c ⟨k, hk, e⟩
        rw [freeT_ne c', y2.own a n1, lockT_ne c', y4.own a n]
    · have oe := va.own_all
      have hD0 : H D = none := by
        cases z : H D with
        | none => rfl
        | some o => exact absurd hD (f1.live D (by rw [z]; simp))
      have fe : ∀ a, O2 a = .no → (freeT L O1 O2 a = .no) := fun a h => by
        rw [freeT_ne fun k hk z => ?_, h]
        rw [f2.lk a (lockT_sl z hk)] at h; cases h
      have ro : RepDs K H2 dsF acc G := va.owns (ownsOf_map dsF)
      refine ⟨.lst hD2 ro, List.nodup_cons.mpr ⟨hDG, oe.1⟩, fun a ha => ?_⟩
      rcases List.mem_cons.mp ha with rfl | ha
      · exact ⟨fe _ oD2, by rw [hD2]; trivial, .inl hD0⟩
      · obtain ⟨c1, c2, c3⟩ := oe.2 a ha
        refine ⟨fe a c1, c2, ?_⟩
        have c4 : H1 a = none ∨ ∃ i, O1 a = .sl i := c3.imp id fun ⟨i, z⟩ => by
          rcases lockT_cases L O1 a with ⟨h1, _⟩ | ⟨h1, _⟩
          · rw [h1] at z; cases z
          · exact ⟨i, by rw [← h1, z]⟩
        by_cases n : H a = none
        · exact .inl n
        · rcases c4 with c4 | ⟨i, c4⟩
          · exact absurd c4 (f1.live a n)
          · refine .inr ?_
            cases q : O a with
            | no => rw [f1.no a n q] at c4; cases c4
            | sl j => exact ⟨j, rfl⟩
            | fz => rw [f1.fz a q] at c4; cases c4
            | lk => rw [f1.lk a q] at c4; cases c4
end
end Wv

set_option Elab.async false
set_option linter.all false
set_option maxRecDepth 100000
namespace Wv
open PySem PySem.Spec PyProof.Rows L2

section
variable {X : Cx} {vp : List Nat} {q1 q2 q4 q5 q6 : Bool} {f : Fe} {T T1 : Ft} {src src1 : Fi} {t t1 : Tgt} {own : List (Str × Nat)} {own1 : List Nat} {elt tg iter tg1 iter1 : Expr} {ifs ifs1 : List Expr} {scope : Scope} {pos : Pos}
theorem e_lc2 (hc : X.calm = true) (hN : X.N.Nodup) (hi : PI X tg iter (TIs X.K q1 src)) (ok : BlkOk X.N X.env.scope scope own) (ht : ∀ i ∈ t.slots, i ∈ own.map (·.2)) (ht1 : ∀ i ∈ t1.slots, i ∈ own1) (h1o : ∀ i ∈ own1, i ∈ own.map (·.2))
    (hg : ∀ (s : Shared) (H : Hp) (C : Addr) (cl : List (Str × Addr)) (fp : List Addr), PG (X.blk s H scope (compEnvC scope cl C X.env) fp) tg (gT X.K t))
    (hT : ∀ (s : Shared) (H : Hp) (C : Addr) (cl : List (Str × Addr)) (fp : List Addr), PTs (X.blk s H scope (compEnvC scope cl C X.env) fp) ifs (TTs X.K q2 T))
    (hi1 : ∀ (s : Shared) (H : Hp) (C : Addr) (cl : List (Str × Addr)) (fp : List Addr), PI (X.blk s H scope (compEnvC scope cl C X.env) fp) tg1 iter1 (TIs X.K q4 src1))
    (hg1 : ∀ (s : Shared) (H : Hp) (C : Addr) (cl : List (Str × Addr)) (fp : List Addr), PG (X.blk s H scope (compEnvC scope cl C X.env) fp) tg1 (gT X.K t1))
    (hT1 : ∀ (s : Shared) (H : Hp) (C : Addr) (cl : List (Str × Addr)) (fp : List Addr), PTs (X.blk s H scope (compEnvC scope cl C X.env) fp) ifs1 (TTs X.K q5 T1))
    (he : ∀ (s : Shared) (H : Hp) (C : Addr) (cl : List (Str × Addr)) (fp : List Addr), PE (X.blk s H scope (compEnvC scope cl C X.env) fp) elt (TEs X.K q6 f)) (hs : ∀ x, foldedSetIterable iter X.env x = pure x) (hs1 : ∀ env x, foldedSetIterable iter1 env x = pure x) :
    PE X (.ListComp elt [⟨tg, iter, ifs, 0⟩, ⟨tg1, iter1, ifs1, 0⟩] scope pos) (TEs X.K (q1 && (q2 && (q4 && (q5 && q6)))) (lc2M (own.map (·.2)) own1 src t T src1 t1 T1 f)) :=
  (pe_lc2 hc hN hi ok h1o hg hT hi1 hg1 hT1 he hs hs1).imp fun σ H Q w => tLc2_of ht ht1 h1o w
theorem s_setLc2 {i : Nat} {y : Str} {py spos : Pos} (hc : X.calm = true) (hN : X.N.Nodup) (hy : X.N[i]? = some y) (hyl : X.env.scope.names.lookup y = some .local)
    (hsw : swapsWith (.ListComp elt [⟨tg, iter, ifs, 0⟩, ⟨tg1, iter1, ifs1, 0⟩] scope pos) (some (.Name y py)) spos.line X.env = pure true)
    (hi : PI X tg iter (TIs X.K q1 src)) (ok : BlkOk X.N X.env.scope scope own) (ht : ∀ i ∈ t.slots, i ∈ own.map (·.2)) (ht1 : ∀ i ∈ t1.slots, i ∈ own1) (h1o : ∀ i ∈ own1, i ∈ own.map (·.2))
    (hg : ∀ (s : Shared) (H : Hp) (C : Addr) (cl : List (Str × Addr)) (fp : List Addr), PG (X.blk s H scope (compEnvC scope cl C X.env) fp) tg (gT X.K t))
    (hT : ∀ (s : Shared) (H : Hp) (C : Addr) (cl : List (Str × Addr)) (fp : List Addr), PTs (X.blk s H scope (compEnvC scope cl C X.env) fp) ifs (TTs X.K q2 T))
    (hi1 : ∀ (s : Shared) (H : Hp) (C : Addr) (cl : List (Str × Addr)) (fp : List Addr), PI (X.blk s H scope (compEnvC scope cl C X.env) fp) tg1 iter1 (TIs X.K q4 src1))
    (hg1 : ∀ (s : Shared) (H : Hp) (C : Addr) (cl : List (Str × Addr)) (fp : List Addr), PG (X.blk s H scope (compEnvC scope cl C X.env) fp) tg1 (gT X.K t1))
    (hT1 : ∀ (s : Shared) (H : Hp) (C : Addr) (cl : List (Str × Addr)) (fp : List Addr), PTs (X.blk s H scope (compEnvC scope cl C X.env) fp) ifs1 (TTs X.K q5 T1))
    (he : ∀ (s : Shared) (H : Hp) (C : Addr) (cl : List (Str × Addr)) (fp : List Addr), PE (X.blk s H scope (compEnvC scope cl C X.env) fp) elt (TEs X.K q6 f)) (hs : ∀ x, foldedSetIterable iter X.env x = pure x) (hs1 : ∀ env x, foldedSetIterable iter1 env x = pure x) (hv : vp.contains i = false) :
    PS X (.Assign [.Name y py] (.ListComp elt [⟨tg, iter, ifs, 0⟩, ⟨tg1, iter1, ifs1, 0⟩] scope pos) spos) (TSs X.K vp (setM i (lc2M (own.map (·.2)) own1 src t T src1 t1 T1 f))) :=
  (ps_setLc2 hc hN hy hyl hsw hi ok h1o hg hT hi1 hg1 hT1 he hs hs1).imp fun D σ H ⟨O, ρ, u, s, e, p⟩ => by
    unfold setM at e
    obtain ⟨⟨r, ρ1⟩, e1, e⟩ := R.bind_eq e
    obtain ⟨ρ2, e2, e⟩ := R.bind_eq e
    cases e
    refine tLc2_of (q1 := q1) (q2 := q2) (q4 := q4) (q5 := q5) (q6 := q6) ht ht1 h1o ⟨O, ρ, r, ρ1, s, e1, fun v H' O' F s' f' _ w => ?_⟩
    obtain ⟨O2, s2, f2⟩ := s'.store f' w e2
    exact p _ H' O2 s2 f2 (KeepS.set hv)
end

/-! ## t[::-1] of a tuple -/
section
variable {prog : Program} {w : World} {A : Around} {E : Value → Shared → Prop} {s : Shared}
theorem adjust_back (n : Nat) : Builtin.Slice.sliceAdjust none none (-1) (n : Int) = ((n : Int) - 1, -1) := by
  unfold Builtin.Slice.sliceAdjust
  simp
theorem places_back (n : Nat) : Builtin.Slice.slicePlaces ((n : Int) - 1) (-1) (-1) = n := by
  unfold Builtin.Slice.slicePlaces
  simp
  omega
theorem fm_congr {α β : Type} {f g : α → Option β} : ∀ {l : List α}, (∀ x ∈ l, f x = g x) → l.filterMap f = l.filterMap g
  | [], _ => rfl
  | a :: l, h => by rw [List.filterMap_cons, List.filterMap_cons, h a List.mem_cons_self, fm_congr fun x hx => h x (List.mem_cons_of_mem _ hx)]
theorem pick_back (xs : Array Value) : ((List.range xs.size).filterMap fun (m : Nat) => xs[(((xs.size : Int) - 1) + (m : Int) * (-1)).toNat]?).toArray = xs.toList.reverse.toArray := by
  have e : ∀ m ∈ List.range xs.size, xs[(((xs.size : Int) - 1) + (m : Int) * (-1)).toNat]? = ((fun i => xs[i]?) ∘ fun k => xs.size - 1 - k) m := fun m hm => by
    rw [List.mem_range] at hm
    show _ = xs[xs.size - 1 - m]?
    have : (((xs.size : Int) - 1) + (m : Int) * (-1)).toNat = xs.size - 1 - m := by omega
    rw [this]
  rw [fm_congr e, ← List.filterMap_map, PySem.W.krv_range, List.filterMap_reverse, PySem.W.krv_all]
theorem getItem_tuple_back {t sl : Addr} {items : Array Value} {vl vu vs : Value} {Q : Value → Shared → Prop} (ht : IsTup s.heap t items) (hs : s.heap.IsSliceOf sl vl vu vs) (pl : IsPart vl none) (pu : IsPart vu none) (ps : IsPart vs (some (-1)))
    (h : Q (.ref s.heap.objs.size) { s with heap := s.heap.push { cls := .type "tuple", data := .seq items.toList.reverse.toArray } }) (hsz : items.size ≤ sizeLine) : wpAny (model prog w) A (getItem (.ref t) (.ref sl)) Q E s := by
  have htake : sizeOk (.seq items.toList.reverse.toArray) := by
    show items.toList.reverse.toArray.size ≤ sizeLine
    simpa using hsz
  obtain ⟨os, hos, hcs, hds⟩ := id hs
  have hTs : s.TypeIs (.ref sl) "slice" := ⟨os, hos, hcs⟩
  unfold getItem
  try with_reducible refine wpAny_holding ?_
  first | refine wpAny_bind (wpAny_pure ?_) | skip
  refine wpAny_bind (wpAny_sequenceKey ht.typeIs (by decide) ?_)
  refine wpAny_bind (wpAny_callSpecial?_slot (name := Str.ofString "__getitem__") ht.typeIs PyProof.Rows.slot_tuple_getitem
    (wpAny_call_entry PyProof.Rows.slot_tuple_getitem ht.typeIs entry_tuple_getitem ?_ (args_tuple_getitem _ _)))
  show wpAny _ _ (Builtin.Tuple.tupleItemsOf (.ref t) >>= _) _ _ s
  refine wpAny_bind (tupleItemsOf_ ht ?_)
  refine wpAny_bind (wpAny_typeOf hTs ?_)
  rw [if_pos (by decide)]
  refine wpAny_bind ?_
  · unfold Builtin.Slice.sliceApplied Builtin.Slice.sliceFields
    refine wpAny_bind (wpAny_bind (wpAny_field hos hds (x := vl) rfl (wpAny_bind (wpAny_field hos hds (x := vu) rfl (wpAny_bind (wpAny_field hos hds (x := vs) rfl (wpAny_pure ?_)))))))
    refine wpAny_bind (HT.slicePart_ ps ?_)
    show wpAny _ _ (if ((-1 : Int) == 0) = true then _ else _) _ _ s
    rw [if_neg (by decide)]
    refine wpAny_bind (HT.slicePart_ pl (wpAny_bind (HT.slicePart_ pu (wpAny_bind (wpAny_pure ?_)))))
    show wpAny _ _ (match Builtin.Slice.sliceAdjust none none (-1) (items.size : Int) with | (lo, hi) => pure (lo, (-1 : Int), Builtin.Slice.slicePlaces lo hi (-1))) _ _ s
    rw [adjust_back]
    show wpAny _ _ (pure ((items.size : Int) - 1, (-1 : Int), Builtin.Slice.slicePlaces ((items.size : Int) - 1) (-1) (-1))) _ _ s
    rw [places_back]
    refine wpAny_pure ?_
    show wpAny _ _ (if (((items.size : Int) - 1) == 0 && (-1 : Int) == 1 && items.size == items.size) = true then _ else _) _ _ s
    rw [if_neg (by simp), pick_back]
    first
      | exact wpAny_bind (m := Builtin.Tuple.tupleExact _) (wpAny_newObj_type (wpAny_pure ⟨_, rfl, wpAny_pure h⟩) htake)
      | exact wpAny_bind (m := Builtin.Tuple.tupleExact _) (wpAny_newObj_type (wpAny_bind (wpAny_pure (wpAny_pure ⟨_, rfl, wpAny_pure h⟩))) htake)
      | exact wpAny_bind (wpAny_bind (m := Builtin.Tuple.tupleExact _) (wpAny_newObj_type (wpAny_pure (wpAny_pure ⟨_, rfl, wpAny_pure h⟩)) htake))
      | exact wpAny_bind (wpAny_bind (m := Builtin.Tuple.tupleExact _) (wpAny_newObj_type (wpAny_pure ⟨_, rfl, wpAny_pure h⟩) htake))
end
end Wv

set_option Elab.async false
set_option linter.all false
set_option maxRecDepth 100000
namespace Wv
open PySem PySem.Spec PyProof.Rows L2

def tRevT (K : PySem.W.Frag) (te : TE) : TE := fun σ H Q => te σ H fun x H1 => ∃ a xs, x = .ref a ∧ SqT K H1 a xs ∧ ∀ p, H1 p = none → Q (.ref p) (upd H1 p (.tup xs.reverse))
section
variable {X : Cx} {q : Bool} {f : Fe} {e : Expr} {k : Nat} {p1 p2 p3 pos : Pos}
theorem pe_revT {te : TE} (he : PE X e te) : PE X (.Subscript e (.Slice none none (some (.UnaryOp .USub (.Constant (.int 1) k p1) p2)) p3) pos) (tRevT X.K te) := by
  refine ⟨fun pins s σ H Q I h => ?_⟩
  refine Subscript_ (thn (he.run pins s σ H _ I h) fun v s1 ⟨x, H1, I1, r1, a, xs, ex, hx, q⟩ => ?_)
  subst ex
  cases r1
  have hst : PO X (some (.UnaryOp .USub (.Constant (.int 1) k p1) p2)) (tPart (tUn (rU fun i => .int (-i)) (tC (.int 1)))) := po_some (pe_un un_neg pe_int)
  refine wpAny_Slice (thn (po_none.run pins s1 σ H1 (fun o H2 => o = none ∧ H2 = H1) I1 ⟨rfl, rfl⟩) fun vl s2 ⟨l, H2, I2, pl, el, e2⟩ => ?_)
  subst el e2
  refine thn (po_none.run pins s2 σ H2 (fun o H3 => o = none ∧ H3 = H2) I2 ⟨rfl, rfl⟩) fun vu s3 ⟨u, H3, I3, pu, eu, e3⟩ => ?_
  subst eu e3
  refine thn (hst.run pins s3 σ H3 (fun o H4 => o = some (-1) ∧ H4 = H3) I3 ⟨1, rfl, -1, rfl, rfl, rfl⟩) fun vs s4 ⟨o, H4, I4, ps, eo, e4⟩ => ?_
  subst eo e4
  have I5 : Inv X pins σ H4 { s4 with heap := s4.heap.push { cls := .type "slice", data := .fields #[vl, vu, vs] } } := I4.kept (t' := s4.toks) fun b ob q => Heap.get?_push_of_some _ q
  obtain ⟨its, r, ht, hz⟩ := I5.tuple hx
  have hlen := r.length
  show wpAny (model X.prog X.w) X.A (subscriptTail e (.Slice none none (some (.UnaryOp .USub (.Constant (.int 1) k p1) p2)) p3) (.ref a) (.ref s4.heap.objs.size)) (EP X pins σ Q) X.xe { s4 with heap := s4.heap.push { cls := .type "slice", data := .fields #[vl, vu, vs] } }
  refine tail_any (ops := [.ref a, .ref s4.heap.objs.size]) ht.typeIs (PyProof.Rows.slot_tuple_getitem.lookup) ?_ (by with_unfolding_all rfl)
  refine getItem_tuple_back ht (Heap.IsSliceOf.new _ vl vu vs) pl pu ps ?_ (by rw [List.size_toArray]; omega)
  refine ⟨.ref _, _, I5.laid (t' := s4.toks) (o := .tup xs.reverse) (fun b ob q => Heap.get?_push_of_some _ q) (Nat.le_refl _) ?_, rfl, q _ (I5.hok.fresh (Nat.le_refl _))⟩
  exact ⟨by rw [List.length_reverse]; exact hz, _, r.reverse, IsTup.new _ _⟩
def revTH : List Vl → R Vl
  | [a] => match a.d with
    | .im (.tup l) => .ok (.o (.im (.tup l.reverse)))
    | _ => .no
  | _ => .no
def revAH : List Vl → R Vl := altH revH revTH
theorem e_revA (he : PE X e (TEs X.K q f)) : PE X (.Subscript e (.Slice none none (some (.UnaryOp .USub (.Constant (.int 1) k p1) p2)) p3) pos) (TEs X.K q (u1M f revAH)) :=
  ((pe_revL he).alt (pe_revT he)).imp fun σ H Q w => by
    rcases TEs.alt (h := revH) (k := revTH) w with w | w
    · exact .inl (w.one (rel := fun x H1 Q => ∃ a xs, x = .ref a ∧ SqL X.K H1 a xs ∧ ∀ p, H1 p = none → Q (.ref p) (upd H1 p (.lst xs.reverse))) (by
        intro O H O' H' rs vs G r Q e lv gr w p x hv
        unfold revH at e
        split at e <;> first | cases e | skip
        rename_i a
        split at e <;> first | cases e | skip
        rename_i l hl
        split at e <;> cases e
        rename_i ha
        obtain ⟨v, F, rfl, k1⟩ := one_ok w
        cases hv
        have kr := k1.rep
        rw [hl] at kr
        obtain ⟨b, xs, G, rfl, rfl, h3, h4⟩ := kr.lst_inv
        obtain rfl := h4.ims ha
        exact ⟨b, xs, rfl, .of h3, fun q hq => p _ _ _ (Ext.upd hq) (newL_im h4.rev lv gr hq)⟩))
    · exact .inr (w.one (rel := fun x H1 Q => ∃ a xs, x = .ref a ∧ SqT X.K H1 a xs ∧ ∀ p, H1 p = none → Q (.ref p) (upd H1 p (.tup xs.reverse))) (by
        intro O H O' H' rs vs G r Q e lv gr w p x hv
        unfold revTH at e
        split at e <;> first | cases e | skip
        rename_i a
        split at e <;> cases e
        rename_i l hl
        obtain ⟨v, F, rfl, k1⟩ := one_ok w
        cases hv
        have kr := k1.rep
        rw [hl] at kr
        obtain ⟨b, xs, rfl, h3, h4⟩ := kr.im_inv.tup_inv
        exact ⟨b, xs, rfl, .of h3, fun q hq => p _ _ [] (Ext.upd hq) (newT_im h4.rev hq)⟩))
end
end Wv

set_option Elab.async false
set_option linter.all false
set_option maxRecDepth 100000
namespace Wv
open PySem PySem.Spec PyProof.Rows L2

/-! ## short forms: what is to be seen of the text is found by itself -/
theorem hu65 {k : Nat} {A : Around} (r : Room k A) : A.units + 65 < cLine := by have := r.un; omega
theorem hu01 {k : Nat} {A : Around} (r : Room k A) : A.units + 1 < cLine := by have := r.un; omega
section
variable {X : Cx} {K : PySem.W.Frag} {vp : List Nat} {x : Str} {pos : Pos} {i : Nat}
theorem rd (i : Nat) (hN : X.N[i]? = some x := by rfl) (hv : Vis X.env.scope x := by first | exact Or.inl rfl | exact Or.inr (Or.inl rfl) | exact Or.inr (Or.inr rfl)) (hd : (x == ("__debug__" : Str)) = false := by decide) (hcd : (x == ("__classdict__" : Str)) = false := by decide) :
    PE X (.Name x pos) (TEs K true (rdM i)) := e_rd hN hv hd hcd
theorem mv (i : Nat) (hN : X.N[i]? = some x := by rfl) (hv : Vis X.env.scope x := by first | exact Or.inl rfl | exact Or.inr (Or.inl rfl) | exact Or.inr (Or.inr rfl)) (hd : (x == ("__debug__" : Str)) = false := by decide) (hcd : (x == ("__classdict__" : Str)) = false := by decide) :
    PE X (.Name x pos) (TEs K false (mvM i)) := e_mv hN hv hd hcd
theorem fz (i : Nat) (hN : X.N[i]? = some x := by rfl) (hv : Vis X.env.scope x := by first | exact Or.inl rfl | exact Or.inr (Or.inl rfl) | exact Or.inr (Or.inr rfl)) (hd : (x == ("__debug__" : Str)) = false := by decide) (hcd : (x == ("__classdict__" : Str)) = false := by decide) :
    PE X (.Name x pos) (TEs K false (fzM i)) := e_fz hN hv hd hcd
theorem pn (i : Nat) (hN : X.N[i]? = some x := by rfl) (hv : Vis X.env.scope x := by first | exact Or.inl rfl | exact Or.inr (Or.inl rfl) | exact Or.inr (Or.inr rfl)) (hd : (x == ("__debug__" : Str)) = false := by decide) (hcd : (x == ("__classdict__" : Str)) = false := by decide) :
    PE X (.Name x pos) (TPs K i (plM i)) := p_name hN hv hd hcd
theorem iln {tg : Expr} (i : Nat) (hN : X.N[i]? = some x := by rfl) (hv : Vis X.env.scope x := by first | exact Or.inl rfl | exact Or.inr (Or.inl rfl) | exact Or.inr (Or.inr rfl)) (hd : (x == ("__debug__" : Str)) = false := by decide) (hcd : (x == ("__classdict__" : Str)) = false := by decide) :
    PI X tg (.Name x pos) (TIs X.K true (slM i)) := i_lent hN hv hd hcd
variable {q q1 q2 q3 : Bool} {f g h : Fe} {a b e e2 : Expr} {es : List Expr} {ga : Fa} {p p2 cpos apos : Pos}
theorem ac (ha : PE X e (TEs X.K q1 f)) (hr : PA X es (TAs X.K q2 ga)) (hs : starEach (e :: es) X.env = (false, eval e X.env) :: starEach es X.env := by rfl) : PA X (e :: es) (TAs X.K (q1 && q2) (acM q2 f ga)) := a_cons ha hr hs
theorem ms {o : Expr} {name : Str} (base : attributeBase o name X.env (eval o X.env) = eval o X.env := by rfl)
    (few : ((backTo cpos (starEach (e :: es) X.env)).all (fun x => !x.1) && (backToKw cpos (keywordEach [] X.env)).all (fun x => x.1.isSome) && decide ((e :: es).length + ([] : List Keyword).length + (if ([] : List Keyword).isEmpty then 0 else 1) < 30)) = true := by rfl)
    (line : (apos.endLine == cpos.line) = true := by rfl) (star : starEach (e :: es) X.env = (false, eval e X.env) :: starEach es X.env := by rfl) (plain : (backTo cpos (starEach es X.env)).any (·.1) = false := by rfl) : MS X o name apos e es cpos := ⟨base, few, line, star, plain⟩
theorem bs (mg : X.mg x = none) (gl : Gl X x := by rfl) (star : starEach (e :: es) X.env = (false, eval e X.env) :: starEach es X.env := by rfl) (plain : (backTo pos (starEach es X.env)).any (·.1) = false := by rfl) : BS X x e es pos := ⟨gl, mg, star, plain⟩
theorem xix (hu : X.A.units + 65 < cLine) (ha : PE X a (TEs X.K q1 f)) (hb : PE X b (TEs X.K q2 g)) (hs : notSlice b = true := by rfl) : PE X (.Subscript a b pos) (TEs X.K (q1 && q2) (b2M q2 f g ixH)) := e_ix ha hb hu hs
theorem pix {gp : Fp} (hu : X.A.units + 65 < cLine) (ha : PE X a (TPs X.K i gp)) (hb : PE X b (TEs X.K true f)) (hs : notSlice b = true := by rfl) : PE X (.Subscript a b pos) (TPs X.K i (plixM i gp f)) :=
  (pe_ix ix_list ha hb (plain_of hs)).imp fun _ _ _ w => w.ix
theorem xin (hu : X.A.units + 65 < cLine) (ha : PE X a (TEs X.K q1 f)) (hb : PE X b (TEs X.K q2 g)) (hm : behindInMarks .In b = false := by rfl) : PE X (.Compare a [.In] [b] pos) (TEs X.K (q1 && q2) (b2M q2 f g (inH false))) := e_in ha hb hu hm
theorem xnotin (hu : X.A.units + 65 < cLine) (ha : PE X a (TEs X.K q1 f)) (hb : PE X b (TEs X.K q2 g)) (hm : behindInMarks .NotIn b = false := by rfl) : PE X (.Compare a [.NotIn] [b] pos) (TEs X.K (q1 && q2) (b2M q2 f g (inH true))) := e_notin ha hb hu hm
theorem tin (hu : X.A.units + 65 < cLine) (ha : PE X a (TEs X.K q1 f)) (hb : PE X b (TEs X.K q2 g)) (hm : behindInMarks .In b = false := by rfl) : PT X (.Compare a [.In] [b] pos) (TTs X.K (q1 && q2) (tbM (b2M q2 f g (inH false)))) := t_in ha hb hu hm
theorem tnotin (hu : X.A.units + 65 < cLine) (ha : PE X a (TEs X.K q1 f)) (hb : PE X b (TEs X.K q2 g)) (hm : behindInMarks .NotIn b = false := by rfl) : PT X (.Compare a [.NotIn] [b] pos) (TTs X.K (q1 && q2) (tbM (b2M q2 f g (inH true)))) := t_notin ha hb hu hm
theorem ttru (ha : PE X a (TEs X.K q f)) (he : plainT a = true := by rfl) : PT X a (TTs X.K q (trM f)) := t_tru ha he
theorem tor {F G : Ft} {rest : List Expr} {b : Expr} (h : PW X (.BoolOp .Or (a :: b :: rest) pos) (TTs X.K q F)) : PT X (.BoolOp .Or (a :: b :: rest) pos) (TTs X.K q F) := h.pt
theorem tand {F G : Ft} {rest : List Expr} {b : Expr} (h : PW X (.BoolOp .And (a :: b :: rest) pos) (TTs X.K q F)) : PT X (.BoolOp .And (a :: b :: rest) pos) (TTs X.K q F) := h.pt
/-! statements -/
theorem sset (i : Nat) {pos' : Pos} (he : PE X e (TEs X.K q f)) (hN : X.N.Nodup) (hi : X.N[i]? = some x := by rfl) (hx : Loc X.env.scope x := by first | exact Or.inl rfl | exact Or.inr rfl) (hs : swapsWith e (some (.Name x pos')) pos.line X.env = pure false := by rfl)
    (hf : X.fn x = true ∨ X.env.scope.names.lookup x = some .local := by first | exact .inl rfl | exact .inr rfl) (hv : vp.contains i = false := by rfl) : PS X (.Assign [.Name x pos'] e pos) (TSs X.K vp (setM i f)) := s_set hN hi hx he hs hf hv
theorem sexpr (he : PE X e (TEs X.K q f)) (hs : swapsWith e none pos.line X.env = pure false := by rfl) : PS X (.Expr e pos) (TSs X.K vp (expM f)) := s_expr he hs
theorem gnm (i : Nat) (hN : X.N.Nodup) (hi : X.N[i]? = some x := by rfl) (hx : Loc X.env.scope x := by first | exact Or.inl rfl | exact Or.inr rfl) (hf : X.fn x = true ∨ X.env.scope.names.lookup x = some .local := by first | exact .inl rfl | exact .inr rfl) : PG X (.Name x pos) (gT X.K (.nm i)) := g_nm hN hi hx hf
theorem gcons (i : Nat) {is : List Nat} (hN : X.N.Nodup) (h : PGs X es (gNms is)) (hi : X.N[i]? = some x := by rfl) (hx : Loc X.env.scope x := by first | exact Or.inl rfl | exact Or.inr rfl) (hf : X.fn x = true ∨ X.env.scope.names.lookup x = some .local := by first | exact .inl rfl | exact .inr rfl) :
    PGs X (.Name x pos :: es) (gNms (i :: is)) := gs_cons hN hi hx hf h
theorem gtup (is : List Nat) {k : Nat} (hc : X.calm = true) (h : PGs X es (gNms is)) (hn : (assignEach es X.env).length = is.length := by rfl) (hst : (assignEach es X.env).findIdx? (·.1) = none := by rfl) : PG X (.Tuple es k pos) (gT X.K (.tp is)) := pg_tup hc h hn hst
theorem ssto {gp : Fp} {fi : Fe} {o ix : Expr} {tpos : Pos} (hu : X.A.units + 65 < cLine) (ho : PE X o (TPs X.K i gp)) (hi : PE X ix (TEs X.K true fi)) (he : PE X e (TEs X.K q f))
    (ha : ∀ v, assign (.Subscript o ix tpos) X.env v = (do let ov ← holding [v] (eval o X.env); let iv ← holding [v, ov] (eval ix X.env); standAt tpos; holding [v, ov, iv] (setItem ov iv v); release [v, ov, iv] []) := by intro _; rfl)
    (hs : swapsWithSole [.Subscript o ix tpos] e pos.line X.env = pure false := by rfl) (hw : swappedStores [.Subscript o ix tpos] e X.env = pure none := by rfl)
    (h1 : (assignEach [.Subscript o ix tpos] X.env).map (·.2) = [assign (.Subscript o ix tpos) X.env] := by rfl) : PS X (.Assign [.Subscript o ix tpos] e pos) (TSs X.K vp (stoM i gp fi f setH)) := s_sto (by omega) ho hi he ha hs hw h1
theorem sasg {t : Tgt} {tg : Expr} (he : PE X e (TEs X.K q f)) (hg : PG X tg (gT X.K t)) (hv : ∀ i ∈ t.slots, i ∉ vp := by decide) (hs : swapsWithSole [tg] e pos.line X.env = pure false := by rfl) (hw : swappedStores [tg] e X.env = pure none := by rfl)
    (h1 : (assignEach [tg] X.env).map (·.2) = [assign tg X.env] := by rfl) : PS X (.Assign [tg] e pos) (TSs X.K vp (asgM t f)) := s_asg he hg hv hs hw h1
theorem spar (i j : Nat) {y : Str} {px py pt : Pos} {kt k2 pt2} (hc : X.calm = true) (hN : X.N.Nodup) (ha : PA X [a, b] (TAs X.K q ga)) (hi : X.N[i]? = some x := by rfl) (hj : X.N[j]? = some y := by rfl) (hij : i ≠ j := by decide)
    (hx : X.env.scope.names.lookup x = some .local := by rfl) (hy : X.env.scope.names.lookup y = some .local := by rfl) (hw : swappedStores [.Tuple [.Name x px, .Name y py] kt pt] (.Tuple [a, b] k2 pt2) X.env = pure (some [x, y]) := by rfl)
    (hs : swapsWithSole [.Tuple [.Name x px, .Name y py] kt pt] (.Tuple [a, b] k2 pt2) pos.line X.env = pure false := by rfl) (hv : ∀ i' ∈ [i, j], vp.contains i' = false := by decide) :
    PS X (.Assign [.Tuple [.Name x px, .Name y py] kt pt] (.Tuple [a, b] k2 pt2) pos) (TSs X.K vp (parM [i, j] ga)) := s_par hc hN hi hj hij hx hy ha hw hs hv
theorem sfor {src : Fi} {t : Tgt} {tg iter : Expr} {fb : Fs} {B : List Stmt} (hc : X.calm = true) (hp : PassesOwn (model X.prog X.w) X.A X.env X.xe) (hi : PI X tg iter (TIs X.K q src)) (hg : PG X tg (gT X.K t)) (hb : PSs X B (TSs X.K vp fb))
    (hs : ∀ x, foldedSetIterable iter X.env x = pure x := by intro _; rfl) (hv : ∀ i ∈ t.slots, i ∉ vp := by decide) : PS X (.For tg iter B [] pos) (TSs X.K vp (forM src t fb)) := s_for hp hc hi hg hb hs hv
end
/-- a def by its body -/
theorem fn_b {P : Program} {w : World} {K : PySem.W.Frag} {mg : Str → Option Value} {base : Heap} {x qual : Str} {st : Stmt} {f : Addr} {fd : FuncData} {N ps : List Str} {k : Nat} {vp : List Nat} {fs : Fs} (F : L2.Fun K x qual st f fd) (S : FnScope N ps (L2.defScope st)) (hvp : ∀ p ∈ vp, p < ps.length)
    (hbody : ∀ (cdv : Value) (A : Around) (outer : List Env) (s : Shared) (H : Hp) (E : XK), Room k (A.deeper (envOfC qual (L2.defScope st) s.heap.objs.size f cdv)) →
      PSs (cxOf CX0 P w K mg base N qual (L2.defScope st) f cdv A outer s H E).nox (L2.defBody st) (TSs K vp fs)) : FnOk P w K mg base CX0 (k + 1) f fd ps (spF K vp ps.length (defM vp (N.length - ps.length) fs)) := by
  obtain ⟨oc, od, kV, doc, pm, an, cdv, ct, osl, rfl, lk, hcd⟩ := F.ex
  exact fn_body lk hcd S hvp fun A outer s H E hr => (hbody cdv A outer s H E hr).nox
end Wv

set_option Elab.async false
set_option linter.all false
set_option maxRecDepth 100000
namespace Wv
open PySem PySem.Spec PyProof.Rows L2
section
variable {X : Cx} {K : PySem.W.Frag} {vp : List Nat} {x : Str} {pos p pos' : Pos} {q q1 q2 q3 q4 q5 q6 : Bool} {f g h : Fe} {a b e e2 tg iter tg1 iter1 elt kx vx : Expr} {es elts ifs ifs1 : List Expr} {ga : Fa} {gc : Fc} {src src1 : Fi} {t t1 : Tgt} {T T1 : Ft} {scope : Scope}
theorem cv (ha : PE X e (TEs X.K q1 f)) (hr : PA X es (TCs X.K q2 gc)) (hs : starEach (e :: es) X.env = (false, eval e X.env) :: starEach es X.env := by rfl) : PA X (e :: es) (TCs X.K (q1 && q2) (cvM q2 f gc)) := c_val ha hr hs
theorem cn (i : Nat) (hr : PA X es (TCs X.K q gc)) (hN : X.N[i]? = some x := by rfl) (hv : Vis X.env.scope x := by first | exact Or.inl rfl | exact Or.inr (Or.inl rfl) | exact Or.inr (Or.inr rfl)) (hd : (x == ("__debug__" : Str)) = false := by decide)
    (hcd : (x == ("__classdict__" : Str)) = false := by decide) (hs : starEach (.Name x pos :: es) X.env = (false, eval (.Name x pos) X.env) :: starEach es X.env := by rfl) : PA X (.Name x pos :: es) (TCs X.K q (cyM i gc)) := c_nam hN hv hd hcd hr hs
theorem cal {k : Nat} {fa : Addr} {fd : FuncData} {ps : List Str} {φ : Fn} (F : FnOk X.prog X.w X.K X.mg X.base CX0 k fa fd ps (spF X.K vp ps.length φ)) (hr : Room k X.A) (hm : X.mg x = some (.ref fa)) (hk : PySem.W.keepIn X.K (.ref fa) = true) (hb : Binds X.K fd ps [])
    (ha : PA X (e :: es) (TCs X.K q gc)) (hg : Gl X x := by rfl) (hdb : (x == ("__debug__" : Str)) = false := by decide) (he : starEach (e :: es) X.env = (false, eval e X.env) :: starEach es X.env := by rfl) (hpl : (backTo pos (starEach es X.env)).any (·.1) = false := by rfl) :
    PE X (.Call (.Name x p) (e :: es) [] pos) (TEs X.K (q && vp.isEmpty) (callM ps.length vp φ gc)) := e_call F hr hg hm hk hb L2.pass0 ha hdb he hpl
theorem irg1 (hm : X.mg "range" = none) (ha : PA X [a] (TAs X.K q ga)) (hg : Gl X "range" := by rfl) (hs : starEach [a] X.env = [(false, eval a X.env)] := by rfl) : PI X tg (.Call (.Name "range" p) [a] [] pos) (TIs X.K q (range1M ga)) := i_range1 hg hm ha hs
theorem irg2 (hm : X.mg "range" = none) (ha : PA X [a, b] (TAs X.K q ga)) (hg : Gl X "range" := by rfl) (hs : starEach [a, b] X.env = [(false, eval a X.env), (false, eval b X.env)] := by rfl) (hs2 : starEach [b] X.env = [(false, eval b X.env)] := by rfl) :
    PI X tg (.Call (.Name "range" p) [a, b] [] pos) (TIs X.K q (range2M ga)) := i_range2 hg hm ha hs hs2
theorem ien {tpos : Pos} {kk : Nat} (hm : X.mg "enumerate" = none) (he : PE X e (TEs X.K q f)) (hg : Gl X "enumerate" := by rfl) (hs : starEach [e] X.env = (false, eval e X.env) :: starEach [] X.env := by rfl) (hs' : starEach [e] X.env = [(false, eval e X.env)] := by rfl) :
    PI X (.Tuple elts kk tpos) (.Call (.Name "enumerate" p) [e] [] pos) (TIs X.K q (enM f)) := i_enum hg hm he hs hs'
theorem izp {tpos : Pos} {kk : Nat} (hm : X.mg "zip" = none) (ha : PA X [e, e2] (TAs X.K q (acM q2 f (acM true g anM)))) (hg : Gl X "zip" := by rfl) (hs : starEach [e, e2] X.env = (false, eval e X.env) :: starEach [e2] X.env := by rfl) (hpl : (backTo pos (starEach [e2] X.env)).any (·.1) = false := by rfl) :
    PI X (.Tuple elts kk tpos) (.Call (.Name "zip" p) [e, e2] [] pos) (TIs X.K q (zpM q2 f g)) := i_zip hg hm ha hs hpl
theorem tsn : PTs X [] (TTs X.K true yesT) := ts_nil
theorem ts1 {c : Expr} (h : PT X c (TTs X.K q T)) : PTs X [c] (TTs X.K q T) := ts_one h
theorem xlc (own : List (Str × Nat)) (hc : X.calm = true) (hN : X.N.Nodup) (hi : PI X tg iter (TIs X.K q1 src)) (hg : ∀ (s : Shared) (H : Hp) (C : Addr) (cl : List (Str × Addr)) (fp : List Addr), PG (X.blk s H scope (compEnvC scope cl C X.env) fp) tg (gT X.K t)) (hT : ∀ (s : Shared) (H : Hp) (C : Addr) (cl : List (Str × Addr)) (fp : List Addr), PTs (X.blk s H scope (compEnvC scope cl C X.env) fp) ifs (TTs X.K q2 T)) (he : ∀ (s : Shared) (H : Hp) (C : Addr) (cl : List (Str × Addr)) (fp : List Addr), PE (X.blk s H scope (compEnvC scope cl C X.env) fp) elt (TEs X.K q3 f)) (hbk : blkC X.N X.env.scope scope own = true := by rfl) (ht : ∀ i ∈ t.slots, i ∈ own.map (·.2) := by decide) (hs : ∀ x, foldedSetIterable iter X.env x = pure x := by intro _; rfl) :
    PE X (.ListComp elt [⟨tg, iter, ifs, 0⟩] scope pos) (TEs X.K (q1 && (q2 && q3)) (lcM (own.map (·.2)) src t T f)) := e_lc hc hN hi (blkOk_by hbk) ht hg hT he hs
theorem slc (i : Nat) {y : Str} {py spos : Pos} (own : List (Str × Nat)) (hc : X.calm = true) (hN : X.N.Nodup) (hk : X.env.scope.kind = .function) (hi : PI X tg iter (TIs X.K q1 src)) (hg : ∀ (s : Shared) (H : Hp) (C : Addr) (cl : List (Str × Addr)) (fp : List Addr), PG (X.blk s H scope (compEnvC scope cl C X.env) fp) tg (gT X.K t)) (hT : ∀ (s : Shared) (H : Hp) (C : Addr) (cl : List (Str × Addr)) (fp : List Addr), PTs (X.blk s H scope (compEnvC scope cl C X.env) fp) ifs (TTs X.K q2 T)) (he : ∀ (s : Shared) (H : Hp) (C : Addr) (cl : List (Str × Addr)) (fp : List Addr), PE (X.blk s H scope (compEnvC scope cl C X.env) fp) elt (TEs X.K q3 f)) (hbk : blkC X.N X.env.scope scope own = true := by rfl) (ht : ∀ i ∈ t.slots, i ∈ own.map (·.2) := by decide) (hs : ∀ x, foldedSetIterable iter X.env x = pure x := by intro _; rfl) (hy : X.N[i]? = some y := by rfl) (hyl : X.env.scope.names.lookup y = some .local := by rfl)
    (hl : (py.line == pos.line) = true := by rfl) (ha : (scope.names.any fun (n, k) => n == y && (k == .local || k == .cell)) = false := by rfl) (hv : vp.contains i = false := by rfl) :
    PS X (.Assign [.Name y py] (.ListComp elt [⟨tg, iter, ifs, 0⟩] scope pos) spos) (TSs X.K vp (setM i (lcM (own.map (·.2)) src t T f))) := s_setLc hc hN hy hyl (sw_true hk hyl hl ha) hi (blkOk_by hbk) ht hg hT he hs hv
theorem xdc (tk : Bool) (own : List (Str × Nat)) (hc : X.calm = true) (hN : X.N.Nodup) (hu : X.A.units + 65 < cLine) (hi : PI X tg iter (TIs X.K q1 src)) (hg : ∀ (s : Shared) (H : Hp) (C : Addr) (cl : List (Str × Addr)) (fp : List Addr), PG (X.blk s H scope (compEnvC scope cl C X.env) fp) tg (gT X.K t)) (hT : ∀ (s : Shared) (H : Hp) (C : Addr) (cl : List (Str × Addr)) (fp : List Addr), PTs (X.blk s H scope (compEnvC scope cl C X.env) fp) ifs (TTs X.K q2 T)) (hkx : ∀ (s : Shared) (H : Hp) (C : Addr) (cl : List (Str × Addr)) (fp : List Addr), PE (X.blk s H scope (compEnvC scope cl C X.env) fp) kx (TEs X.K q3 f)) (hvx : ∀ (s : Shared) (H : Hp) (C : Addr) (cl : List (Str × Addr)) (fp : List Addr), PE (X.blk s H scope (compEnvC scope cl C X.env) fp) vx (TEs X.K q4 g)) (hbk : blkC X.N X.env.scope scope own = true := by rfl) (ht : ∀ i ∈ t.slots, i ∈ own.map (·.2) := by decide) (hs : ∀ x, foldedSetIterable iter X.env x = pure x := by intro _; rfl) :
    PE X (.DictComp kx vx [⟨tg, iter, ifs, 0⟩] scope pos) (TEs X.K (q1 && (q2 && (q3 && q4))) (dcM tk (own.map (·.2)) src t T f g)) := e_dc (by omega) hc hN hi (blkOk_by hbk) ht hg hT hkx hvx hs
theorem sdc (tk : Bool) (i : Nat) {y : Str} {py spos : Pos} (own : List (Str × Nat)) (hc : X.calm = true) (hN : X.N.Nodup) (hu : X.A.units + 65 < cLine) (hk : X.env.scope.kind = .function) (hi : PI X tg iter (TIs X.K q1 src)) (hg : ∀ (s : Shared) (H : Hp) (C : Addr) (cl : List (Str × Addr)) (fp : List Addr), PG (X.blk s H scope (compEnvC scope cl C X.env) fp) tg (gT X.K t)) (hT : ∀ (s : Shared) (H : Hp) (C : Addr) (cl : List (Str × Addr)) (fp : List Addr), PTs (X.blk s H scope (compEnvC scope cl C X.env) fp) ifs (TTs X.K q2 T)) (hkx : ∀ (s : Shared) (H : Hp) (C : Addr) (cl : List (Str × Addr)) (fp : List Addr), PE (X.blk s H scope (compEnvC scope cl C X.env) fp) kx (TEs X.K q3 f)) (hvx : ∀ (s : Shared) (H : Hp) (C : Addr) (cl : List (Str × Addr)) (fp : List Addr), PE (X.blk s H scope (compEnvC scope cl C X.env) fp) vx (TEs X.K q4 g)) (hbk : blkC X.N X.env.scope scope own = true := by rfl) (ht : ∀ i ∈ t.slots, i ∈ own.map (·.2) := by decide) (hs : ∀ x, foldedSetIterable iter X.env x = pure x := by intro _; rfl) (hy : X.N[i]? = some y := by rfl) (hyl : X.env.scope.names.lookup y = some .local := by rfl)
    (hl : (py.line == pos.line) = true := by rfl) (ha : (scope.names.any fun (n, k) => n == y && (k == .local || k == .cell)) = false := by rfl) (hv : vp.contains i = false := by rfl) :
    PS X (.Assign [.Name y py] (.DictComp kx vx [⟨tg, iter, ifs, 0⟩] scope pos) spos) (TSs X.K vp (setM i (dcM tk (own.map (·.2)) src t T f g))) := s_setDc (by omega) hc hN hy hyl (sw_dict hk hyl hl ha) hi (blkOk_by hbk) ht hg hT hkx hvx hs hv
theorem xlc2 (own1 : List Nat) (own : List (Str × Nat)) (hc : X.calm = true) (hN : X.N.Nodup) (hi : PI X tg iter (TIs X.K q1 src)) (hg : ∀ (s : Shared) (H : Hp) (C : Addr) (cl : List (Str × Addr)) (fp : List Addr), PG (X.blk s H scope (compEnvC scope cl C X.env) fp) tg (gT X.K t)) (hT : ∀ (s : Shared) (H : Hp) (C : Addr) (cl : List (Str × Addr)) (fp : List Addr), PTs (X.blk s H scope (compEnvC scope cl C X.env) fp) ifs (TTs X.K q2 T)) (hi1 : ∀ (s : Shared) (H : Hp) (C : Addr) (cl : List (Str × Addr)) (fp : List Addr), PI (X.blk s H scope (compEnvC scope cl C X.env) fp) tg1 iter1 (TIs X.K q4 src1)) (hg1 : ∀ (s : Shared) (H : Hp) (C : Addr) (cl : List (Str × Addr)) (fp : List Addr), PG (X.blk s H scope (compEnvC scope cl C X.env) fp) tg1 (gT X.K t1)) (hT1 : ∀ (s : Shared) (H : Hp) (C : Addr) (cl : List (Str × Addr)) (fp : List Addr), PTs (X.blk s H scope (compEnvC scope cl C X.env) fp) ifs1 (TTs X.K q5 T1)) (he : ∀ (s : Shared) (H : Hp) (C : Addr) (cl : List (Str × Addr)) (fp : List Addr), PE (X.blk s H scope (compEnvC scope cl C X.env) fp) elt (TEs X.K q6 f)) (hbk : blkC X.N X.env.scope scope own = true := by rfl) (ht : ∀ i ∈ t.slots, i ∈ own.map (·.2) := by decide) (ht1 : ∀ i ∈ t1.slots, i ∈ own1 := by decide) (h1o : ∀ i ∈ own1, i ∈ own.map (·.2) := by decide) (hs : ∀ x, foldedSetIterable iter X.env x = pure x := by intro _; rfl) (hs1 : ∀ env x, foldedSetIterable iter1 env x = pure x := by intro _ _; rfl) :
    PE X (.ListComp elt [⟨tg, iter, ifs, 0⟩, ⟨tg1, iter1, ifs1, 0⟩] scope pos) (TEs X.K (q1 && (q2 && (q4 && (q5 && q6)))) (lc2M (own.map (·.2)) own1 src t T src1 t1 T1 f)) := e_lc2 hc hN hi (blkOk_by hbk) ht ht1 h1o hg hT hi1 hg1 hT1 he hs hs1
theorem slc2 (own1 : List Nat) (i : Nat) {y : Str} {py spos : Pos} (own : List (Str × Nat)) (hc : X.calm = true) (hN : X.N.Nodup) (hk : X.env.scope.kind = .function) (hi : PI X tg iter (TIs X.K q1 src)) (hg : ∀ (s : Shared) (H : Hp) (C : Addr) (cl : List (Str × Addr)) (fp : List Addr), PG (X.blk s H scope (compEnvC scope cl C X.env) fp) tg (gT X.K t)) (hT : ∀ (s : Shared) (H : Hp) (C : Addr) (cl : List (Str × Addr)) (fp : List Addr), PTs (X.blk s H scope (compEnvC scope cl C X.env) fp) ifs (TTs X.K q2 T)) (hi1 : ∀ (s : Shared) (H : Hp) (C : Addr) (cl : List (Str × Addr)) (fp : List Addr), PI (X.blk s H scope (compEnvC scope cl C X.env) fp) tg1 iter1 (TIs X.K q4 src1)) (hg1 : ∀ (s : Shared) (H : Hp) (C : Addr) (cl : List (Str × Addr)) (fp : List Addr), PG (X.blk s H scope (compEnvC scope cl C X.env) fp) tg1 (gT X.K t1)) (hT1 : ∀ (s : Shared) (H : Hp) (C : Addr) (cl : List (Str × Addr)) (fp : List Addr), PTs (X.blk s H scope (compEnvC scope cl C X.env) fp) ifs1 (TTs X.K q5 T1)) (he : ∀ (s : Shared) (H : Hp) (C : Addr) (cl : List (Str × Addr)) (fp : List Addr), PE (X.blk s H scope (compEnvC scope cl C X.env) fp) elt (TEs X.K q6 f)) (hbk : blkC X.N X.env.scope scope own = true := by rfl) (ht : ∀ i ∈ t.slots, i ∈ own.map (·.2) := by decide) (ht1 : ∀ i ∈ t1.slots, i ∈ own1 := by decide) (h1o : ∀ i ∈ own1, i ∈ own.map (·.2) := by decide) (hs : ∀ x, foldedSetIterable iter X.env x = pure x := by intro _; rfl) (hs1 : ∀ env x, foldedSetIterable iter1 env x = pure x := by intro _ _; rfl) (hy : X.N[i]? = some y := by rfl) (hyl : X.env.scope.names.lookup y = some .local := by rfl)
    (hl : (py.line == pos.line) = true := by rfl) (ha : (scope.names.any fun (n, k) => n == y && (k == .local || k == .cell)) = false := by rfl) (hv : vp.contains i = false := by rfl) :
    PS X (.Assign [.Name y py] (.ListComp elt [⟨tg, iter, ifs, 0⟩, ⟨tg1, iter1, ifs1, 0⟩] scope pos) spos) (TSs X.K vp (setM i (lc2M (own.map (·.2)) own1 src t T src1 t1 T1 f))) := s_setLc2 hc hN hy hyl (sw_true hk hyl hl ha) hi (blkOk_by hbk) ht ht1 h1o hg hT hi1 hg1 hT1 he hs hs1 hv
end
end Wv

set_option Elab.async false
set_option linter.all false
set_option maxRecDepth 100000
namespace Wv
open PySem PySem.Spec PyProof.Rows L2

/-! ## list(range(..)), tuple(range(..)) -/
def rgI (a b : Int) : List Im := (List.range (b - a).toNat).map fun k => .int (a + (k : Nat))
def rgB (a b : Int) : Bool := decide (-(2 ^ 62) ≤ a) && decide (a < 2 ^ 62) && decide (-(2 ^ 62) ≤ b) && decide (b < 2 ^ 62) && decide ((b - a).toNat ≤ 16777216)
def rgMk (tup : Bool) (a b : Int) : R Vl := if rgB a b = true then .ok (.o (if tup then .im (.tup (rgI a b)) else .lst ((rgI a b).map .im))) else .no
def rg1H (tup : Bool) : List Vl → R Vl
  | [.o (.im (.int j))] => rgMk tup 0 j
  | _ => .no
def rg2H (tup : Bool) : List Vl → R Vl
  | [.o (.im (.int i)), .o (.im (.int j))] => rgMk tup i j
  | _ => .no
section
variable {X : Cx} {K : PySem.W.Frag} {q q1 q2 : Bool} {f g : Fe} {a b : Expr} {p p2 pos pos2 : Pos}
theorem rgB_ok {a b : Int} (h : rgB a b = true) : RgOk a b := by
  unfold rgB at h
  simp only [Bool.and_eq_true, decide_eq_true_eq] at h
  exact ⟨h.1.1.1.1, h.1.1.1.2, h.1.1.2, h.1.2, h.2⟩
theorem rgI_rep {H : Hp} {a b : Int} : RepIs K H (rgI a b) (rgV a b) := by
  unfold rgI rgV
  generalize List.range (b - a).toNat = l
  induction l with
  | nil => exact .nil
  | cons x r ih => exact .cons .int ih
theorem rgMk_of {tup : Bool} {i j : Int} {r : Vl} {O O' : Ow} {H H' : Hp} {Q : VK} (e : rgMk tup i j = .ok r) (lv : ∀ a, O' a ≠ .no → H' a ≠ none) (gr : ∀ a, H a ≠ none → H' a ≠ none)
    (p : ∀ v H2 F, Ext H' H2 → VlOk K O H O' H2 r v F → Q v H2) : RgOk i j ∧ ∀ q, H' q = none → Q (.ref q) (upd H' q (if tup then .tup (rgV i j) else .lst (rgV i j))) := by
  unfold rgMk at e
  by_cases h : rgB i j = true
  · rw [if_pos h] at e
    cases e
    refine ⟨rgB_ok h, fun q hq => ?_⟩
    cases tup with
    | true => exact p _ _ [] (Ext.upd hq) (newT_im rgI_rep hq)
    | false => exact p _ _ _ (Ext.upd hq) (newL_im rgI_rep.ds lv gr hq)
  · rw [if_neg h] at e; cases e
theorem pu_rg1 (tup : Bool) : PuN K (fun vs H Q => ∀ x, vs = [x] → ∃ n, x = .int n ∧ RgOk 0 n ∧ ∀ q, H q = none → Q (.ref q) (upd H q (if tup then .tup (rgV 0 n) else .lst (rgV 0 n)))) (rg1H tup) := by
  intro O H O' H' rs vs G r Q e lv gr w p x hv
  unfold rg1H at e
  split at e <;> first | cases e | skip
  obtain ⟨v, F, rfl, k⟩ := one_ok w
  cases hv
  exact ⟨_, k.1.int_inv, rgMk_of e lv gr p⟩
theorem pu_rg2 (tup : Bool) : PuN K (fun vs H Q => ∀ x y, vs = [x, y] → ∃ i j, x = .int i ∧ y = .int j ∧ RgOk i j ∧ ∀ q, H q = none → Q (.ref q) (upd H q (if tup then .tup (rgV i j) else .lst (rgV i j)))) (rg2H tup) := by
  intro O H O' H' rs vs G r Q e lv gr w p x y hv
  unfold rg2H at e
  split at e <;> first | cases e | skip
  obtain ⟨v, v2, F, F2, rfl, k, k2⟩ := two_ok w
  cases hv
  exact ⟨_, _, k.1.int_inv, k2.1.int_inv, rgMk_of e lv gr p⟩
theorem e_lrg1 (hc : X.calm = true) (hml : X.mg "list" = none) (hmr : X.mg "range" = none) (ha : PE X a (TEs X.K q f)) (hgl : Gl X "list" := by rfl) (hgr : Gl X "range" := by rfl) (na : starEach [a] X.env = (false, eval a X.env) :: starEach [] X.env := by rfl)
    (nb : starEach [.Call (.Name "range" p2) [a] [] pos2] X.env = (false, eval (.Call (.Name "range" p2) [a] [] pos2) X.env) :: starEach [] X.env := by rfl) : PE X (.Call (.Name "list" p) [.Call (.Name "range" p2) [a] [] pos2] [] pos) (TEs X.K q (u1M f (rg1H false))) :=
  (pe_listRg hc hgl hml (prg_1 hgr hmr ha na) nb).imp fun _ _ _ w => w.one (pu_rg1 false)
theorem e_trg1 (hc : X.calm = true) (hml : X.mg "tuple" = none) (hmr : X.mg "range" = none) (ha : PE X a (TEs X.K q f)) (hgl : Gl X "tuple" := by rfl) (hgr : Gl X "range" := by rfl) (na : starEach [a] X.env = (false, eval a X.env) :: starEach [] X.env := by rfl)
    (nb : starEach [.Call (.Name "range" p2) [a] [] pos2] X.env = (false, eval (.Call (.Name "range" p2) [a] [] pos2) X.env) :: starEach [] X.env := by rfl) : PE X (.Call (.Name "tuple" p) [.Call (.Name "range" p2) [a] [] pos2] [] pos) (TEs X.K q (u1M f (rg1H true))) :=
  (pe_tupRg hc hgl hml (prg_1 hgr hmr ha na) nb).imp fun _ _ _ w => w.one (pu_rg1 true)
theorem e_lrg2 (hc : X.calm = true) (hml : X.mg "list" = none) (hmr : X.mg "range" = none) (ha : PE X a (TEs X.K q1 f)) (hb : PE X b (TEs X.K q2 g)) (hgl : Gl X "list" := by rfl) (hgr : Gl X "range" := by rfl) (na : starEach [a, b] X.env = (false, eval a X.env) :: starEach [b] X.env := by rfl)
    (nb : starEach [b] X.env = (false, eval b X.env) :: starEach [] X.env := by rfl) (hp : (backTo pos2 (starEach [b] X.env)).any (·.1) = false := by rfl)
    (nc : starEach [.Call (.Name "range" p2) [a, b] [] pos2] X.env = (false, eval (.Call (.Name "range" p2) [a, b] [] pos2) X.env) :: starEach [] X.env := by rfl) : PE X (.Call (.Name "list" p) [.Call (.Name "range" p2) [a, b] [] pos2] [] pos) (TEs X.K (q1 && q2) (b2M q2 f g (rg2H false))) :=
  (pe_listRg hc hgl hml (prg_2 hgr hmr ha hb na nb hp) nc).imp fun _ _ _ w => w.two (pu_rg2 false)
theorem e_trg2 (hc : X.calm = true) (hml : X.mg "tuple" = none) (hmr : X.mg "range" = none) (ha : PE X a (TEs X.K q1 f)) (hb : PE X b (TEs X.K q2 g)) (hgl : Gl X "tuple" := by rfl) (hgr : Gl X "range" := by rfl) (na : starEach [a, b] X.env = (false, eval a X.env) :: starEach [b] X.env := by rfl)
    (nb : starEach [b] X.env = (false, eval b X.env) :: starEach [] X.env := by rfl) (hp : (backTo pos2 (starEach [b] X.env)).any (·.1) = false := by rfl)
    (nc : starEach [.Call (.Name "range" p2) [a, b] [] pos2] X.env = (false, eval (.Call (.Name "range" p2) [a, b] [] pos2) X.env) :: starEach [] X.env := by rfl) : PE X (.Call (.Name "tuple" p) [.Call (.Name "range" p2) [a, b] [] pos2] [] pos) (TEs X.K (q1 && q2) (b2M q2 f g (rg2H true))) :=
  (pe_tupRg hc hgl hml (prg_2 hgr hmr ha hb na nb hp) nc).imp fun _ _ _ w => w.two (pu_rg2 true)
end
end Wv

set_option Elab.async false
set_option linter.all false
set_option maxRecDepth 100000
namespace Wv
open PySem PySem.Spec PyProof.Rows L2

/-- the law's promise at a script -/
theorem sp_law {K : PySem.W.Frag} {φ : Fn} {H : Hp} {a : Addr} {ns : List Int} (hO : Only H) (hS : SqL K H a (ns.map V.int)) (h : φ [.s (.scr ns)] = .ok (.o (.im (.bl true)), [])) :
    spF K [] 1 φ [.ref a] H (fun v _ => v = .bl true) fun _ _ _ => False := by
  refine ⟨rfl, fun _ => .no, [.s (.scr ns)], .o (.im (.bl true)), [], ⟨fun i x hx => ?_, (fun _ _ e => nomatch e), (fun _ e => absurd rfl e), rfl⟩, h, fun v H' O' F _ _ _ w => w.1.im_inv.bl_inv⟩
  match i, hx with
  | 0, hx =>
    cases hx
    refine ⟨.ref a, [], rfl, .scr fun H' kt => ?_, fun _ z => nomatch z⟩
    rcases hS with (hS | ⟨o, hS⟩) | hS
    · rcases hO a with z | ⟨o, xs, z⟩
      · rw [z] at hS; cases hS
      · rw [z] at hS; cases hS
    · exact .inl (.inr ⟨o, kt _ _ hS Mut.frz⟩)
    · exact .inr hS
  | i + 1, hx => cases hx
end Wv

set_option Elab.async false
set_option linter.all false
set_option maxRecDepth 100000
namespace Wv
open PySem

/-! ## the reckoners at data of known shape -/
@[simp] theorem ix_b (l : List Dt) (i : Int) : ixH [.b (.lst l), vI i] = match L2.atI l i with | some d => .ok (Vl.sub (.b (.lst l)) d) | none => .no := by
  cases h : L2.atI l i <;> simp [ixH, altH, ixT, ixL, ixS, ixD, Vl.d, h]
@[simp] theorem ix_o (l : List Dt) (i : Int) : ixH [.o (.lst l), vI i] = match L2.atI l i with | some d => .ok (Vl.sub (.o (.lst l)) d) | none => .no := by
  cases h : L2.atI l i <;> simp [ixH, altH, ixT, ixL, ixS, ixD, Vl.d, h]
@[simp] theorem ix_s (l : List Dt) (i : Int) : ixH [.s (.lst l), vI i] = match L2.atI l i with | some d => .ok (Vl.sub (.s (.lst l)) d) | none => .no := by
  cases h : L2.atI l i <;> simp [ixH, altH, ixT, ixL, ixS, ixD, Vl.d, h]
@[simp] theorem ix_t (l : List Im) (i : Int) : ixH [.o (.im (.tup l)), vI i] = match L2.atI l i with | some d => .ok (.o (.im d)) | none => .no := by
  cases h : L2.atI l i <;> simp [ixH, altH, ixT, ixL, ixS, ixD, Vl.d, h]
@[simp] theorem eq_ii (i j : Int) : eqH [vI i, vI j] = .ok (vB (decide (i = j))) := by simp [eqH, altH, int2]
@[simp] theorem ne_ii (i j : Int) : neH [vI i, vI j] = .ok (vB (!decide (i = j))) := by simp [neH, altH, int2]
@[simp] theorem add_ii (i j : Int) : addH [vI i, vI j] = .ok (vI (i + j)) := by simp [addH, altH, int2]
@[simp] theorem sub_ii (i j : Int) : subH [vI i, vI j] = .ok (vI (i - j)) := by simp [subH, int2]
@[simp] theorem lt_ii (i j : Int) : ltH [vI i, vI j] = .ok (vB (decide (i < j))) := by simp [ltH, int2]
@[simp] theorem le_ii (i j : Int) : leH [vI i, vI j] = .ok (vB (decide (i ≤ j))) := by simp [leH, int2]
@[simp] theorem gt_ii (i j : Int) : gtH [vI i, vI j] = .ok (vB (decide (j < i))) := by simp [gtH, int2]
@[simp] theorem ge_ii (i j : Int) : geH [vI i, vI j] = .ok (vB (decide (j ≤ i))) := by simp [geH, int2]
theorem add_tt (l m : List Im) (h : l.length + m.length ≤ SZ) : addH [.o (.im (.tup l)), .o (.im (.tup m))] = .ok (.o (.im (.tup (l ++ m)))) := by simp [addH, altH, int2, tup2, h]
theorem mod_ii (i j : Int) (h : j ≠ 0) : modH [vI i, vI j] = .ok (vI (i.fmod j)) := by simp [modH, int2, h]
theorem fdiv_ii (i j : Int) (h : j ≠ 0) (k : j.natAbs < 1073741824) : fdivH [vI i, vI j] = .ok (vI (i.fdiv j)) := by simp [fdivH, int2, h, k]
theorem mul_ii (i j : Int) (h : (bndI i || bndI j) = true) : mulH [vI i, vI j] = .ok (vI (i * j)) := by simp [mulH, altH, mulI, int2, h]
theorem at_nat {α : Type} (l : List α) (i : Nat) (h : i < l.length) : L2.atI l (i : Int) = l[i]? := by
  unfold L2.atI L2.ixN
  rw [if_pos (by omega), if_pos (by omega)]
  simp
@[simp] theorem at0 {α : Type} (a : α) (l : List α) : L2.atI (a :: l) 0 = some a := at_nat (a :: l) 0 (by simp)
@[simp] theorem at1 {α : Type} (a b : α) (l : List α) : L2.atI (a :: b :: l) 1 = some b := at_nat (a :: b :: l) 1 (by simp)
@[simp] theorem at2 {α : Type} (a b c : α) (l : List α) : L2.atI (a :: b :: c :: l) 2 = some c := at_nat (a :: b :: c :: l) 2 (by simp)
@[simp] theorem at3 {α : Type} (a b c d : α) (l : List α) : L2.atI (a :: b :: c :: d :: l) 3 = some d := at_nat (a :: b :: c :: d :: l) 3 (by simp)
end Wv

set_option Elab.async false
set_option linter.all false
set_option maxRecDepth 100000
namespace Wv
open PySem

/-- steps that a while may take -/
def FU : Nat := 1000000

/-! ## ending well -/
def Tr {α : Type} (m : R α) (P : α → Prop) : Prop := ∃ a, m = .ok a ∧ P a
theorem tr_ok {α : Type} (a : α) (P : α → Prop) : Tr (.ok a) P ↔ P a :=
  ⟨fun ⟨_, h, p⟩ => by cases h; exact p, fun p => ⟨a, rfl, p⟩⟩
/-- what is to come is put by while the reckoner runs -/
theorem Tr.gen {α : Type} {m : R α} {P : α → Prop} (h : ∀ P' : α → Prop, (∀ a, P a → P' a) → Tr m P') : Tr m P := h P fun _ h => h
@[simp] theorem cast_eq (a b : Nat) : ((a : Int) = (b : Int)) ↔ a = b := Int.ofNat_inj
@[simp] theorem cast_lt (a b : Nat) : ((a : Int) < (b : Int)) ↔ a < b := Int.ofNat_lt
@[simp] theorem cast_le (a b : Nat) : ((a : Int) ≤ (b : Int)) ↔ a ≤ b := Int.ofNat_le
theorem tr_no {α : Type} (P : α → Prop) : Tr (.no) P ↔ False := by
  constructor
  · rintro ⟨_, h, _⟩; cases h
  · exact False.elim
theorem Tr.bind {α β : Type} {m : R α} {k : α → R β} {Q : α → Prop} {P : β → Prop} (h : Tr m Q) (g : ∀ a, Q a → Tr (k a) P) : Tr (m.bind k) P := by
  obtain ⟨a, e, q⟩ := h; rw [e]; exact g a q
theorem Tr.mono {α : Type} {m : R α} {Q P : α → Prop} (h : Tr m Q) (g : ∀ a, Q a → P a) : Tr m P := by
  obtain ⟨a, e, q⟩ := h; exact ⟨a, e, g a q⟩
theorem Tr.eq {α : Type} {m : R α} {a : α} (h : Tr m fun b => b = a) : m = .ok a := by
  obtain ⟨b, e, q⟩ := h; rw [e, q]
theorem Tr.of {α : Type} {m : R α} {a : α} {P : α → Prop} (e : m = .ok a) (p : P a) : Tr m P := ⟨a, e, p⟩
@[simp] theorem bind_bind {α β γ : Type} (m : R α) (f : α → R β) (g : β → R γ) : (m.bind f).bind g = m.bind fun a => (f a).bind g := by cases m <;> exact (rfl)
theorem ite_bind {α β : Type} (c : Prop) [Decidable c] (m n : R α) (f : α → R β) : (if c then m else n).bind f = if c then m.bind f else n.bind f := by split <;> rfl
@[simp] theorem ite_okp {α β : Type} (c : Prop) [Decidable c] (a b : α) (r : β) : (if c then (R.ok (a, r)) else R.ok (b, r)) = R.ok (if c then a else b, r) := by split <;> rfl
@[simp] theorem ite_pair {α β : Type} (c : Prop) [Decidable c] (a b : α) (r : β) : (if c then (a, r) else (b, r)) = (if c then a else b, r) := by split <;> rfl
@[simp] theorem ite_ok1 {α : Type} (c : Prop) [Decidable c] (a b : α) : (if c then (R.ok a) else R.ok b) = R.ok (if c then a else b) := by split <;> rfl
@[simp] theorem ite_bl (c : Prop) [Decidable c] (a b : Bool) : (if c then vB a else vB b) = vB (if c then a else b) := by split <;> rfl

/-! ## the combinators at work -/
def seqK (g : Fs) : Ou → R Ou
  | .nx ρ => g ρ
  | u => .ok u
@[simp] theorem seqM_ap (f g : Fs) (ρ : Ev) : seqM f g ρ = (f ρ).bind (seqK g) := (rfl)
@[simp] theorem seqK_nx (g : Fs) (ρ : Ev) : seqK g (.nx ρ) = g ρ := (rfl)
@[simp] theorem seqK_rt (g : Fs) (r : Vl) (ρ : Ev) : seqK g (.rt r ρ) = .ok (.rt r ρ) := (rfl)
@[simp] theorem seqK_bk (g : Fs) (ρ : Ev) : seqK g (.bk ρ) = .ok (.bk ρ) := (rfl)
@[simp] theorem seqK_ct (g : Fs) (ρ : Ev) : seqK g (.ct ρ) = .ok (.ct ρ) := (rfl)
@[simp] theorem nxM_ap (ρ : Ev) : nxM ρ = .ok (.nx ρ) := (rfl)
@[simp] theorem bkM_ap (ρ : Ev) : bkM ρ = .ok (.bk ρ) := (rfl)
@[simp] theorem ctM_ap (ρ : Ev) : ctM ρ = .ok (.ct ρ) := (rfl)
@[simp] theorem retNM_ap (ρ : Ev) : retNM ρ = .ok (.rt (.o (.im .non)) ρ) := (rfl)
def expK : Vl × Ev → R Ou := fun p => .ok (.nx p.2)
@[simp] theorem expM_ap (f : Fe) (ρ : Ev) : expM f ρ = (f ρ).bind expK := (rfl)
@[simp] theorem expK_ap (p : Vl × Ev) : expK p = .ok (.nx p.2) := (rfl)
def retK : Vl × Ev → R Ou := fun p => .ok (.rt p.1 p.2)
@[simp] theorem retM_ap (f : Fe) (ρ : Ev) : retM f ρ = (f ρ).bind retK := (rfl)
@[simp] theorem retK_ap (p : Vl × Ev) : retK p = .ok (.rt p.1 p.2) := (rfl)
def nxR (ρ : Ev) : R Ou := .ok (.nx ρ)
@[simp] theorem nxR_ap (ρ : Ev) : nxR ρ = .ok (.nx ρ) := (rfl)
def setK (i : Nat) (p : Vl × Ev) : R Ou := (stM i p.1 p.2).bind nxR
@[simp] theorem setM_ap (i : Nat) (f : Fe) (ρ : Ev) : setM i f ρ = (f ρ).bind (setK i) := (rfl)
@[simp] theorem setK_ap (i : Nat) (r : Vl) (ρ : Ev) : setK i (r, ρ) = (stM i r ρ).bind nxR := (rfl)
@[simp] theorem slot_o (d : Dt) : Vl.slot (.o d) = some (.o d) := (rfl)
@[simp] theorem slot_si (i : Im) : Vl.slot (.s (.im i)) = some (.o (.im i)) := (rfl)
@[simp] theorem slot_bi (i : Im) : Vl.slot (.b (.im i)) = some (.o (.im i)) := (rfl)
@[simp] theorem slot_sl (l : List Dt) : Vl.slot (.s (.lst l)) = some (.s (.lst l)) := (rfl)
@[simp] theorem slot_sd (t : Bool) (l : List (Im × Dt)) : Vl.slot (.s (.dic t l)) = some (.s (.dic t l)) := (rfl)
@[simp] theorem slot_sc (l : List Int) : Vl.slot (.s (.scr l)) = some (.s (.scr l)) := (rfl)
def stK (i : Nat) (ρ : Ev) : Option Sl → R Ev
  | some x => if i < ρ.length then .ok (ρ.set i x) else .no
  | none => .no
@[simp] theorem stM_ap (i : Nat) (r : Vl) (ρ : Ev) : stM i r ρ = stK i ρ r.slot := by
  unfold stM; cases r.slot <;> rfl
@[simp] theorem stK_ap (i : Nat) (ρ : Ev) (x : Sl) : stK i ρ (some x) = if i < ρ.length then .ok (ρ.set i x) else .no := (rfl)
@[simp] theorem kM_ap (i : Im) (ρ : Ev) : kM i ρ = .ok (.o (.im i), ρ) := (rfl)
def rdK (ρ : Ev) : Option Sl → R (Vl × Ev)
  | some (.o (.im i)) => .ok (.o (.im i), ρ)
  | some (.o d) => .ok (.b d, ρ)
  | some (.s d) => .ok (.s d, ρ)
  | some (.l d) => .ok (.b d, ρ)
  | _ => .no
@[simp] theorem rdM_ap (x : Nat) (ρ : Ev) : rdM x ρ = rdK ρ ρ[x]? := by
  unfold rdM rdK; split <;> simp_all
@[simp] theorem rdK_im (ρ : Ev) (i : Im) : rdK ρ (some (.o (.im i))) = .ok (.o (.im i), ρ) := (rfl)
@[simp] theorem rdK_l (ρ : Ev) (l : List Dt) : rdK ρ (some (.o (.lst l))) = .ok (.b (.lst l), ρ) := (rfl)
@[simp] theorem rdK_d (ρ : Ev) (t : Bool) (l : List (Im × Dt)) : rdK ρ (some (.o (.dic t l))) = .ok (.b (.dic t l), ρ) := (rfl)
@[simp] theorem rdK_sc (ρ : Ev) (l : List Int) : rdK ρ (some (.o (.scr l))) = .ok (.b (.scr l), ρ) := (rfl)
@[simp] theorem rdK_s (ρ : Ev) (d : Dt) : rdK ρ (some (.s d)) = .ok (.s d, ρ) := (rfl)
@[simp] theorem rdK_b (ρ : Ev) (d : Dt) : rdK ρ (some (.l d)) = .ok (.b d, ρ) := (rfl)
def mvK (x : Nat) (ρ : Ev) : Option Sl → R (Vl × Ev)
  | some (.o (.im i)) => .ok (.o (.im i), ρ)
  | some (.o d) => .ok (.o d, ρ.set x .e)
  | some (.s d) => .ok (.s d, ρ)
  | _ => .no
@[simp] theorem mvM_ap (x : Nat) (ρ : Ev) : mvM x ρ = mvK x ρ ρ[x]? := by
  unfold mvM mvK; split <;> simp_all
@[simp] theorem mvK_im (x : Nat) (ρ : Ev) (i : Im) : mvK x ρ (some (.o (.im i))) = .ok (.o (.im i), ρ) := (rfl)
@[simp] theorem mvK_l (x : Nat) (ρ : Ev) (l : List Dt) : mvK x ρ (some (.o (.lst l))) = .ok (.o (.lst l), ρ.set x .e) := (rfl)
@[simp] theorem mvK_d (x : Nat) (ρ : Ev) (t : Bool) (l : List (Im × Dt)) : mvK x ρ (some (.o (.dic t l))) = .ok (.o (.dic t l), ρ.set x .e) := (rfl)
@[simp] theorem mvK_s (x : Nat) (ρ : Ev) (d : Dt) : mvK x ρ (some (.s d)) = .ok (.s d, ρ) := (rfl)
def fzK (x : Nat) (ρ : Ev) : Option Sl → R (Vl × Ev)
  | some (.o (.im i)) => .ok (.o (.im i), ρ)
  | some (.o d) => .ok (.s d, ρ.set x (.s d))
  | some (.s d) => .ok (.s d, ρ)
  | _ => .no
@[simp] theorem fzM_ap (x : Nat) (ρ : Ev) : fzM x ρ = fzK x ρ ρ[x]? := by
  unfold fzM fzK; split <;> simp_all
@[simp] theorem fzK_im (x : Nat) (ρ : Ev) (i : Im) : fzK x ρ (some (.o (.im i))) = .ok (.o (.im i), ρ) := (rfl)
@[simp] theorem fzK_l (x : Nat) (ρ : Ev) (l : List Dt) : fzK x ρ (some (.o (.lst l))) = .ok (.s (.lst l), ρ.set x (.s (.lst l))) := (rfl)
@[simp] theorem fzK_d (x : Nat) (ρ : Ev) (t : Bool) (l : List (Im × Dt)) : fzK x ρ (some (.o (.dic t l))) = .ok (.s (.dic t l), ρ.set x (.s (.dic t l))) := (rfl)
@[simp] theorem fzK_s (x : Nat) (ρ : Ev) (d : Dt) : fzK x ρ (some (.s d)) = .ok (.s d, ρ) := (rfl)
@[simp] theorem anM_ap (ρ : Ev) : anM ρ = .ok ([], ρ) := (rfl)
@[simp] theorem isB_o (d : Dt) : Vl.isB (.o d) = false := (rfl)
@[simp] theorem isB_s (d : Dt) : Vl.isB (.s d) = false := (rfl)
@[simp] theorem isB_b (d : Dt) : Vl.isB (.b d) = true := (rfl)
@[simp] theorem d_o (d : Dt) : Vl.d (.o d) = d := (rfl)
@[simp] theorem d_s (d : Dt) : Vl.d (.s d) = d := (rfl)
@[simp] theorem d_b (d : Dt) : Vl.d (.b d) = d := (rfl)
@[simp] theorem sub_i (a : Vl) (i : Im) : Vl.sub a (.im i) = .o (.im i) := by cases a <;> exact (rfl)
@[simp] theorem sub_ol (d : Dt) (l : List Dt) : Vl.sub (.o d) (.lst l) = .o (.lst l) := (rfl)
@[simp] theorem sub_sl (d : Dt) (l : List Dt) : Vl.sub (.s d) (.lst l) = .s (.lst l) := (rfl)
@[simp] theorem sub_bl (d : Dt) (l : List Dt) : Vl.sub (.b d) (.lst l) = .b (.lst l) := (rfl)
@[simp] theorem sub_od (d : Dt) (t : Bool) (l : List (Im × Dt)) : Vl.sub (.o d) (.dic t l) = .o (.dic t l) := (rfl)
@[simp] theorem sub_sd (d : Dt) (t : Bool) (l : List (Im × Dt)) : Vl.sub (.s d) (.dic t l) = .s (.dic t l) := (rfl)
@[simp] theorem sub_bd (d : Dt) (t : Bool) (l : List (Im × Dt)) : Vl.sub (.b d) (.dic t l) = .b (.dic t l) := (rfl)
def acR (r : Vl) (q : List Vl × Ev) : R (List Vl × Ev) := .ok (r :: q.1, q.2)
@[simp] theorem acR_ap (r : Vl) (q : List Vl × Ev) : acR r q = .ok (r :: q.1, q.2) := (rfl)
def acK (qs : Bool) (g : Fa) (p : Vl × Ev) : R (List Vl × Ev) := if (qs || !p.1.isB) = true then (g p.2).bind (acR p.1) else .no
@[simp] theorem acM_ap (qs : Bool) (f : Fe) (g : Fa) (ρ : Ev) : acM qs f g ρ = (f ρ).bind (acK qs g) := (rfl)
@[simp] theorem acK_ap (qs : Bool) (g : Fa) (r : Vl) (ρ : Ev) : acK qs g (r, ρ) = if (qs || !r.isB) = true then (g ρ).bind (acR r) else .no := (rfl)
def naR (ρ : Ev) (r : Vl) : R (Vl × Ev) := .ok (r, ρ)
@[simp] theorem naR_ap (ρ : Ev) (r : Vl) : naR ρ r = .ok (r, ρ) := (rfl)
def naK (h : List Vl → R Vl) (q : List Vl × Ev) : R (Vl × Ev) := (h q.1).bind (naR q.2)
@[simp] theorem naM_ap (g : Fa) (h : List Vl → R Vl) (ρ : Ev) : naM g h ρ = (g ρ).bind (naK h) := (rfl)
@[simp] theorem naK_ap (h : List Vl → R Vl) (rs : List Vl) (ρ : Ev) : naK h (rs, ρ) = (h rs).bind (naR ρ) := (rfl)
@[simp] theorem b2M_ap (q2 : Bool) (f g : Fe) (h : List Vl → R Vl) (ρ : Ev) : b2M q2 f g h ρ = naM (acM q2 f (acM true g anM)) h ρ := (rfl)
@[simp] theorem u1M_ap (f : Fe) (h : List Vl → R Vl) (ρ : Ev) : u1M f h ρ = naM (acM true f anM) h ρ := (rfl)
@[simp] theorem b3M_ap (q2 q3 : Bool) (f g k : Fe) (h : List Vl → R Vl) (ρ : Ev) : b3M q2 q3 f g k h ρ = naM (acM (q2 && q3) f (acM q3 g (acM true k anM))) h ρ := (rfl)
@[simp] theorem dic0M_ap (t : Bool) (ρ : Ev) : dic0M t ρ = .ok (.o (.dic t []), ρ) := (rfl)
/-! tests -/
def tbK (p : Vl × Ev) : R (Bool × Ev) := match p.1 with
  | .o (.im (.bl b)) => .ok (b, p.2)
  | _ => .no
@[simp] theorem tbM_ap (f : Fe) (ρ : Ev) : tbM f ρ = (f ρ).bind tbK := (rfl)
@[simp] theorem tbK_ap (b : Bool) (ρ : Ev) : tbK (.o (.im (.bl b)), ρ) = .ok (b, ρ) := (rfl)
def trK (p : Vl × Ev) : R (Bool × Ev) := match truth p.1.d with
  | some b => .ok (b, p.2)
  | none => .no
@[simp] theorem trM_ap (f : Fe) (ρ : Ev) : trM f ρ = (f ρ).bind trK := (rfl)
def trO (ρ : Ev) : Option Bool → R (Bool × Ev)
  | some b => .ok (b, ρ)
  | none => .no
@[simp] theorem trK_ap (r : Vl) (ρ : Ev) : trK (r, ρ) = trO ρ (truth r.d) := by unfold trK trO; split <;> simp_all
@[simp] theorem trO_ap (ρ : Ev) (b : Bool) : trO ρ (some b) = .ok (b, ρ) := (rfl)
@[simp] theorem truth_bl (b : Bool) : truth (.im (.bl b)) = some b := (rfl)
@[simp] theorem truth_int (i : Int) : truth (.im (.int i)) = some (i != 0) := (rfl)
@[simp] theorem truth_non : truth (.im .non) = some false := (rfl)
@[simp] theorem truth_tup (l : List Im) : truth (.im (.tup l)) = some (!l.isEmpty) := (rfl)
@[simp] theorem truth_lst (l : List Dt) : truth (.lst l) = some (!l.isEmpty) := (rfl)
@[simp] theorem yesT_ap (ρ : Ev) : yesT ρ = .ok (true, ρ) := (rfl)
def andK (G : Ft) (p : Bool × Ev) : R (Bool × Ev) := if p.1 = true then G p.2 else .ok (false, p.2)
@[simp] theorem andT_ap (F G : Ft) (ρ : Ev) : andT F G ρ = (F ρ).bind (andK G) := (rfl)
@[simp] theorem andK_ap (G : Ft) (b : Bool) (ρ : Ev) : andK G (b, ρ) = if b = true then G ρ else .ok (false, ρ) := (rfl)
def orK (G : Ft) (p : Bool × Ev) : R (Bool × Ev) := if p.1 = true then .ok (true, p.2) else G p.2
@[simp] theorem orT_ap (F G : Ft) (ρ : Ev) : orT F G ρ = (F ρ).bind (orK G) := (rfl)
@[simp] theorem orK_ap (G : Ft) (b : Bool) (ρ : Ev) : orK G (b, ρ) = if b = true then .ok (true, ρ) else G ρ := (rfl)
def notK (p : Bool × Ev) : R (Bool × Ev) := .ok (!p.1, p.2)
@[simp] theorem notT_ap (F : Ft) (ρ : Ev) : notT F ρ = (F ρ).bind notK := (rfl)
@[simp] theorem notK_ap (p : Bool × Ev) : notK p = .ok (!p.1, p.2) := (rfl)
def andMK (g : Fe) (p : Vl × Ev) : R (Vl × Ev) := match p.1 with
  | .o (.im (.bl b)) => if b = true then g p.2 else .ok (.o (.im (.bl false)), p.2)
  | _ => .no
@[simp] theorem andM_ap (f g : Fe) (ρ : Ev) : andM f g ρ = (f ρ).bind (andMK g) := (rfl)
@[simp] theorem andMK_ap (g : Fe) (b : Bool) (ρ : Ev) : andMK g (.o (.im (.bl b)), ρ) = if b = true then g ρ else .ok (.o (.im (.bl false)), ρ) := (rfl)
def orMK (g : Fe) (p : Vl × Ev) : R (Vl × Ev) := match p.1 with
  | .o (.im (.bl b)) => if b = true then .ok (.o (.im (.bl true)), p.2) else g p.2
  | _ => .no
@[simp] theorem orM_ap (f g : Fe) (ρ : Ev) : orM f g ρ = (f ρ).bind (orMK g) := (rfl)
@[simp] theorem orMK_ap (g : Fe) (b : Bool) (ρ : Ev) : orMK g (.o (.im (.bl b)), ρ) = if b = true then .ok (.o (.im (.bl true)), ρ) else g ρ := (rfl)
def notH : List Vl → R Vl
  | [.o (.im (.bl b))] => .ok (vB (!b))
  | _ => .no
@[simp] theorem notM_ap (f : Fe) (ρ : Ev) : notM f ρ = naM (acM true f anM) notH ρ := (rfl)
@[simp] theorem notH_ap (b : Bool) : notH [.o (.im (.bl b))] = .ok (vB (!b)) := (rfl)
def ifMK (f g : Fe) (p : Bool × Ev) : R (Vl × Ev) := if p.1 = true then f p.2 else g p.2
@[simp] theorem ifM_ap (T : Ft) (f g : Fe) (ρ : Ev) : ifM T f g ρ = (T ρ).bind (ifMK f g) := (rfl)
@[simp] theorem ifMK_ap (f g : Fe) (b : Bool) (ρ : Ev) : ifMK f g (b, ρ) = if b = true then f ρ else g ρ := (rfl)
def ifK (f g : Fs) (p : Bool × Ev) : R Ou := if p.1 = true then f p.2 else g p.2
@[simp] theorem ifS_ap (T : Ft) (f g : Fs) (ρ : Ev) : ifS T f g ρ = (T ρ).bind (ifK f g) := (rfl)
@[simp] theorem ifK_ap (f g : Fs) (b : Bool) (ρ : Ev) : ifK f g (b, ρ) = if b = true then f ρ else g ρ := (rfl)
/-! stores at a place -/
@[simp] theorem slotD_ap (i : Nat) (ρ : Ev) : slotD i ρ = match ρ[i]? with | some (.o d) => some d | _ => none := (rfl)
@[simp] theorem plM_ap (i : Nat) (ρ : Ev) : plM i ρ = match ρ[i]? with | some (.o _) => .ok [] | _ => .no := (rfl)
def plixK (i : Nat) (ρ : Ev) (f : Fe) (p : List Im) : R (List Im) := (f ρ).bind fun q => match q.1 with
  | .o (.im (.int k)) => match (slotD i ρ).bind fun d => pget d p with
    | some (.lst l) => if (L2.atI l k).isSome = true then .ok (p ++ [.int k]) else .no
    | _ => .no
  | _ => .no
@[simp] theorem plixM_ap (i : Nat) (g : Fp) (f : Fe) (ρ : Ev) : plixM i g f ρ = (g ρ).bind (plixK i ρ f) := (rfl)
@[simp] theorem plixK_ap (i : Nat) (ρ : Ev) (f : Fe) (p : List Im) : plixK i ρ f p = (f ρ).bind fun q => match q.1 with
  | .o (.im (.int k)) => match (slotD i ρ).bind fun d => pget d p with
    | some (.lst l) => if (L2.atI l k).isSome = true then .ok (p ++ [.int k]) else .no
    | _ => .no
  | _ => .no := (rfl)
@[simp] theorem pget_nil (d : Dt) : pget d [] = some d := by cases d <;> exact (rfl)
@[simp] theorem pget_l (l : List Dt) (i : Int) (p : List Im) : pget (.lst l) (.int i :: p) = (L2.atI l i).bind fun d => pget d p := (rfl)
@[simp] theorem pset_nil (d e : Dt) : pset d [] e = e := by cases d <;> exact (rfl)
@[simp] theorem pset_l (l : List Dt) (i : Int) (p : List Im) (e : Dt) : pset (.lst l) (.int i :: p) e = match L2.atI l i with
    | some d => .lst (setI l i (pset d p e))
    | none => .lst l := (rfl)
end Wv

set_option Elab.async false
set_option linter.all false
set_option maxRecDepth 100000
namespace Wv
open PySem

/-! mutation -/
def muK2 (i : Nat) (p : List Im) (ρ : Ev) (z : Dt × Vl) : R (Vl × Ev) := match slotD i ρ with
  | some d => .ok (z.2, ρ.set i (.o (pset d p z.1)))
  | none => .no
def muK1 (i : Nat) (p : List Im) (h : Hm) (q : List Vl × Ev) : R (Vl × Ev) := match slotD i q.2 with
      | some d => match pget d p with
        | some e => (h e q.1).bind fun z => .ok (z.2, q.2.set i (.o (pset d p z.1)))
        | none => .no
      | none => .no
def muK (i : Nat) (T : String) (qc : Bool) (c : Fa) (h : Hm) (ρ : Ev) (p : List Im) : R (Vl × Ev) := match (slotD i ρ).bind fun d => pget d p with
  | some e0 => if tyD T e0 = true ∧ (qc = true ∨ p.isEmpty = true) then (c ρ).bind (muK1 i p h) else .no
  | none => .no
@[simp] theorem muM_ap (i : Nat) (g : Fp) (T : String) (qc : Bool) (c : Fa) (h : Hm) (ρ : Ev) : muM i g T qc c h ρ = (g ρ).bind (muK i T qc c h ρ) := (rfl)
@[simp] theorem muK_ap (i : Nat) (T : String) (qc : Bool) (c : Fa) (h : Hm) (ρ : Ev) (p : List Im) : muK i T qc c h ρ p = match (slotD i ρ).bind fun d => pget d p with
  | some e0 => if tyD T e0 = true ∧ (qc = true ∨ p.isEmpty = true) then (c ρ).bind (muK1 i p h) else .no
  | none => .no := (rfl)
@[simp] theorem muK1_ap (i : Nat) (p : List Im) (h : Hm) (rs : List Vl) (ρ : Ev) : muK1 i p h (rs, ρ) = match slotD i ρ with
      | some d => match pget d p with
        | some e => (h e rs).bind fun z => .ok (z.2, ρ.set i (.o (pset d p z.1)))
        | none => .no
      | none => .no := (rfl)
@[simp] theorem tyD_l (l : List Dt) : tyD "list" (.lst l) = true := (rfl)
@[simp] theorem tyD_d (t : Bool) (l : List (Im × Dt)) : tyD "dict" (.dic t l) = true := (rfl)
theorem SZ_nat : SZ = 16777216 := by decide
@[simp] theorem appH_ap (l : List Dt) (d : Dt) (h : l.length < 16777216) : appH (.lst l) [.o d] = .ok (.lst (l ++ [d]), vN) := by
  simp only [appH, SZ_nat, h, if_true]
@[simp] theorem insH_ap (l : List Dt) (i : Int) (d : Dt) (h : l.length < 16777216) (h1 : 0 ≤ i) (h2 : i ≤ 16777216) : insH (.lst l) [.o (.im (.int i)), .o d] = .ok (.lst (l.take i.toNat ++ [d] ++ l.drop i.toNat), vN) := by
  have e : (2 : Int) ^ 63 = 9223372036854775808 := by decide
  have : l.length < SZ ∧ 0 ≤ i ∧ i < 2 ^ 63 := by rw [e, SZ_nat]; omega
  show (if l.length < SZ ∧ 0 ≤ i ∧ i < 2 ^ 63 then _ else _) = _
  rw [if_pos this]
theorem popH_ap (l : List Dt) (d : Dt) : popH (.lst (l ++ [d])) [] = .ok (.lst l, .o d) := by
  simp [popH]
@[simp] theorem setH_l (l : List Dt) (i : Int) (d : Dt) : setH (.lst l) [.o (.im (.int i)), .o d] = match L2.ixN l.length i with
    | some j => .ok (.lst (l.set j d), vN)
    | none => .no := by
  unfold setH altM setLH setDH
  simp only
  cases h : L2.ixN l.length i <;> simp [h]
@[simp] theorem setH_d (t : Bool) (l : List (Im × Dt)) (k : Im) (d : Dt) (h : fits t k = true) (hl : l.length < 16777216) : setH (.dic t l) [.o (.im k), .o d] = .ok (.dic t (put l k d), vN) := by
  unfold setH altM setLH setDH
  simp only [h, SZ_nat, hl, and_self, if_true]
def stoK (i : Nat) (g : Fp) (fi : Fe) (h : Hm) (q : Vl × Ev) : R Ou := (g q.2).bind fun p => (fi q.2).bind fun z => match z.1, (slotD i q.2) with
  | .o (.im k), some d => match pget d p with
    | some e => (h e [.o (.im k), q.1]).bind fun y => .ok (.nx (q.2.set i (.o (pset d p y.1))))
    | none => .no
  | _, _ => .no
@[simp] theorem stoM_ap (i : Nat) (g : Fp) (fi f : Fe) (h : Hm) (ρ : Ev) : stoM i g fi f h ρ = (f ρ).bind (stoK i g fi h) := (rfl)
@[simp] theorem stoK_ap (i : Nat) (g : Fp) (fi : Fe) (h : Hm) (r : Vl) (ρ : Ev) : stoK i g fi h (r, ρ) = (g ρ).bind fun p => (fi ρ).bind fun z => match z.1, (slotD i ρ) with
  | .o (.im k), some d => match pget d p with
    | some e => (h e [.o (.im k), r]).bind fun y => .ok (.nx (ρ.set i (.o (pset d p y.1))))
    | none => .no
  | _, _ => .no := (rfl)
def parK (is : List Nat) (q : List Vl × Ev) : R Ou := (parM.go is q.1 q.2).bind nxR
@[simp] theorem parM_ap (is : List Nat) (g : Fa) (ρ : Ev) : parM is g ρ = (g ρ).bind (parK is) := (rfl)
@[simp] theorem parK_ap (is : List Nat) (q : List Vl × Ev) : parK is q = (parM.go is q.1 q.2).bind nxR := (rfl)
@[simp] theorem parG_nil (ρ : Ev) : parM.go [] [] ρ = .ok ρ := (rfl)
@[simp] theorem parG_cons (i : Nat) (is : List Nat) (r : Vl) (rs : List Vl) (ρ : Ev) : parM.go (i :: is) (r :: rs) ρ = (stM i r ρ).bind (parM.go is rs) := (rfl)
def asgK (t : Tgt) (p : Vl × Ev) : R Ou := match p.1 with
  | .o (.im j) => (tgM false t (.one (.im j)) p.2).bind nxR
  | .o (.tpl l) => match t with
    | .tp is => (parM.go is (l.map .o) p.2).bind nxR
    | .nm _ => .no
  | _ => .no
@[simp] theorem asgM_ap (t : Tgt) (f : Fe) (ρ : Ev) : asgM t f ρ = (f ρ).bind (asgK t) := (rfl)
@[simp] theorem asgK_tp (is : List Nat) (l : List Dt) (ρ : Ev) : asgK (.tp is) (.o (.tpl l), ρ) = (parM.go is (l.map .o) ρ).bind nxR := (rfl)
@[simp] theorem asgK_ap (t : Tgt) (j : Im) (ρ : Ev) : asgK t (.o (.im j), ρ) = (tgM false t (.one (.im j)) ρ).bind nxR := (rfl)
/-! targets -/
@[simp] theorem putI_im (l : Bool) (i : Nat) (j : Im) (ρ : Ev) : putI l i (.im j) ρ = if i < ρ.length then .ok (ρ.set i (.o (.im j))) else .no := (rfl)
@[simp] theorem putI_l (l : Bool) (i : Nat) (x : List Dt) (ρ : Ev) : putI l i (.lst x) ρ = if i < ρ.length then .ok (ρ.set i (if l = true then .l (.lst x) else .s (.lst x))) else .no := (rfl)
@[simp] theorem putI_d (l : Bool) (i : Nat) (t : Bool) (x : List (Im × Dt)) (ρ : Ev) : putI l i (.dic t x) ρ = if i < ρ.length then .ok (ρ.set i (if l = true then .l (.dic t x) else .s (.dic t x))) else .no := (rfl)
@[simp] theorem putsI_nil (l : Bool) (ρ : Ev) : putsI l [] [] ρ = .ok ρ := (rfl)
@[simp] theorem putsI_cons (l : Bool) (i : Nat) (is : List Nat) (d : Dt) (ds : List Dt) (ρ : Ev) : putsI l (i :: is) (d :: ds) ρ = (putI l i d ρ).bind (putsI l is ds) := (rfl)
@[simp] theorem tgM_nm1 (l : Bool) (i : Nat) (d : Dt) (ρ : Ev) : tgM l (.nm i) (.one d) ρ = putI l i d ρ := (rfl)
@[simp] theorem tgM_nm2 (l : Bool) (i : Nat) (a b : Im) (ρ : Ev) : tgM l (.nm i) (.two (.im a) (.im b)) ρ = putI l i (.im (.tup [a, b])) ρ := (rfl)
@[simp] theorem tgM_tp1 (l : Bool) (is : List Nat) (x : List Im) (ρ : Ev) : tgM l (.tp is) (.one (.im (.tup x))) ρ = putsI l is (x.map .im) ρ := (rfl)
@[simp] theorem tgM_tp2 (l : Bool) (is : List Nat) (d e : Dt) (ρ : Ev) : tgM l (.tp is) (.two d e) ρ = putsI l is [d, e] ρ := (rfl)
/-! sources -/
abbrev Zi := List Itm × List Nat × Ev
def seO (ρ : Ev) : Option (List Itm) → R Zi
  | some l => .ok (l, [], ρ)
  | none => .no
def seK (p : Vl × Ev) : R Zi := if p.1.isB = true then .no else seO p.2 (seqItems p.1.d)
@[simp] theorem seM_ap (f : Fe) (ρ : Ev) : seM f ρ = (f ρ).bind seK := (rfl)
@[simp] theorem seK_ap (r : Vl) (ρ : Ev) : seK (r, ρ) = if r.isB = true then .no else seO ρ (seqItems r.d) := (rfl)
@[simp] theorem seO_ap (ρ : Ev) (l : List Itm) : seO ρ (some l) = .ok (l, [], ρ) := (rfl)
@[simp] theorem seqItems_l (l : List Dt) : seqItems (.lst l) = some (l.map .one) := (rfl)
@[simp] theorem seqItems_t (l : List Im) : seqItems (.im (.tup l)) = some (l.map fun i => .one (.im i)) := (rfl)
def slK (x : Nat) (ρ : Ev) : Option Sl → R Zi
  | some (.o (.lst l)) => .ok (l.map .one, [x], ρ)
  | some (.s (.lst l)) => .ok (l.map .one, [], ρ)
  | some (.o (.im (.tup l))) => .ok (l.map fun i => .one (.im i), [], ρ)
  | _ => .no
@[simp] theorem slM_ap (x : Nat) (ρ : Ev) : slM x ρ = slK x ρ ρ[x]? := by
  unfold slM slK; split <;> simp_all
@[simp] theorem slK_o (x : Nat) (ρ : Ev) (l : List Dt) : slK x ρ (some (.o (.lst l))) = .ok (l.map .one, [x], ρ) := (rfl)
@[simp] theorem slK_s (x : Nat) (ρ : Ev) (l : List Dt) : slK x ρ (some (.s (.lst l))) = .ok (l.map .one, [], ρ) := (rfl)
@[simp] theorem slK_t (x : Nat) (ρ : Ev) (l : List Im) : slK x ρ (some (.o (.im (.tup l)))) = .ok (l.map fun i => .one (.im i), [], ρ) := (rfl)
def rg1K (p : List Vl × Ev) : R Zi := match p.1 with
  | [.o (.im (.int j))] => if (rgOk j && decide (j ≤ SZ)) = true then .ok (rgItems 0 j.toNat, [], p.2) else .no
  | _ => .no
@[simp] theorem range1M_ap (g : Fa) (ρ : Ev) : range1M g ρ = (g ρ).bind rg1K := (rfl)
theorem rgOk_of (i : Int) (h : -16777216 ≤ i) (k : i ≤ 16777216) : rgOk i = true := by
  unfold rgOk
  have e : (2 : Int) ^ 62 = 4611686018427387904 := by decide
  rw [e, Bool.and_eq_true, decide_eq_true_eq, decide_eq_true_eq]; omega
theorem SZ_int : ((SZ : Nat) : Int) = 16777216 := by
  have : SZ = 16777216 := by decide
  rw [this]; rfl
@[simp] theorem rg1K_ap (j : Int) (ρ : Ev) (h : -16777216 ≤ j) (k : j ≤ 16777216) : rg1K ([.o (.im (.int j))], ρ) = .ok (rgItems 0 j.toNat, [], ρ) := by
  unfold rg1K
  have e : decide (j ≤ ((SZ : Nat) : Int)) = true := by rw [SZ_int, decide_eq_true_eq]; omega
  simp only [rgOk_of j h k, e, Bool.and_self, if_true]
def rg2K (p : List Vl × Ev) : R Zi := match p.1 with
  | [.o (.im (.int i)), .o (.im (.int j))] => if (rgOk i && rgOk j && decide (j - i ≤ SZ)) = true then .ok (rgItems i (j - i).toNat, [], p.2) else .no
  | _ => .no
@[simp] theorem range2M_ap (g : Fa) (ρ : Ev) : range2M g ρ = (g ρ).bind rg2K := (rfl)
@[simp] theorem rg2K_ap (i j : Int) (ρ : Ev) (h : 0 ≤ i) (h2 : i ≤ 16777216) (k : -16777216 ≤ j) (k2 : j ≤ 16777216) : rg2K ([.o (.im (.int i)), .o (.im (.int j))], ρ) = .ok (rgItems i (j - i).toNat, [], ρ) := by
  unfold rg2K
  have e : decide (j - i ≤ ((SZ : Nat) : Int)) = true := by rw [SZ_int, decide_eq_true_eq]; omega
  simp only [rgOk_of i (by omega) h2, rgOk_of j k k2, e, Bool.and_self, if_true]
@[simp] theorem rgItems_ap (lo : Int) (n : Nat) : rgItems lo n = (List.range n).map fun (k : Nat) => .one (.im (.int (lo + (k : Int)))) := (rfl)
def enO (ρ : Ev) : Dt → R Zi
  | .lst l => .ok (enItems l, [], ρ)
  | .im (.tup l) => .ok (enItems (l.map .im), [], ρ)
  | _ => .no
def enK (p : Vl × Ev) : R Zi := if p.1.isB = true then .no else enO p.2 p.1.d
@[simp] theorem enM_ap (f : Fe) (ρ : Ev) : enM f ρ = (f ρ).bind enK := (rfl)
@[simp] theorem enK_ap (r : Vl) (ρ : Ev) : enK (r, ρ) = if r.isB = true then .no else enO ρ r.d := (rfl)
@[simp] theorem enO_t (ρ : Ev) (l : List Im) : enO ρ (.im (.tup l)) = .ok (enItems (l.map .im), [], ρ) := (rfl)
@[simp] theorem enO_ap (ρ : Ev) (l : List Dt) : enO ρ (.lst l) = .ok (enItems l, [], ρ) := (rfl)
def zpO (ρ : Ev) : Dt → Dt → R Zi
  | .lst l, .lst m => .ok (zpItems l m, [], ρ)
  | .im (.tup l), .im (.tup m) => .ok (zpItems (l.map .im) (m.map .im), [], ρ)
  | _, _ => .no
def zpK (q : List Vl × Ev) : R Zi := match q.1 with
  | [a, b] => if (a.isB || b.isB) = true then .no else zpO q.2 a.d b.d
  | _ => .no
@[simp] theorem zpM_ap (q2 : Bool) (f g : Fe) (ρ : Ev) : zpM q2 f g ρ = (acM q2 f (acM true g anM) ρ).bind zpK := (rfl)
@[simp] theorem zpK_ap (a b : Vl) (ρ : Ev) : zpK ([a, b], ρ) = if (a.isB || b.isB) = true then .no else zpO ρ a.d b.d := (rfl)
@[simp] theorem zpO_l (ρ : Ev) (l m : List Dt) : zpO ρ (.lst l) (.lst m) = .ok (zpItems l m, [], ρ) := (rfl)
@[simp] theorem zpO_t (ρ : Ev) (l m : List Im) : zpO ρ (.im (.tup l)) (.im (.tup m)) = .ok (zpItems (l.map .im) (m.map .im), [], ρ) := (rfl)
/-! loops -/
def forK (t : Tgt) (f : Fs) (z : Zi) : R Ou := if z.2.1.isEmpty = true then forL t f z.1 z.2.2 else .no
@[simp] theorem forM_ap (src : Fi) (t : Tgt) (f : Fs) (ρ : Ev) : forM src t f ρ = (src ρ).bind (forK t f) := (rfl)
@[simp] theorem forK_ap (t : Tgt) (f : Fs) (l : List Itm) (ρ : Ev) : forK t f (l, [], ρ) = forL t f l ρ := (rfl)
def lcR (own xs : List Nat) (ρ : Ev) (p : List Dt × Ev) : R (Vl × Ev) := .ok (.o (.lst p.1), mergeC (own ++ xs) 0 ρ p.2)
def lcK (own : List Nat) (t : Tgt) (T : Ft) (f : Fe) (z : Zi) : R (Vl × Ev) := (lcL (!z.2.1.isEmpty) own t T f z.1 (wipeE own (lockE z.2.1 z.2.2)) []).bind (lcR own z.2.1 z.2.2)
@[simp] theorem lcM_ap (own : List Nat) (src : Fi) (t : Tgt) (T : Ft) (f : Fe) (ρ : Ev) : lcM own src t T f ρ = (src ρ).bind (lcK own t T f) := (rfl)
@[simp] theorem lcK_ap (own : List Nat) (t : Tgt) (T : Ft) (f : Fe) (l : List Itm) (xs : List Nat) (ρ : Ev) : lcK own t T f (l, xs, ρ) = (lcL (!xs.isEmpty) own t T f l (wipeE own (lockE xs ρ)) []).bind (lcR own xs ρ) := (rfl)
@[simp] theorem lcR_ap (own xs : List Nat) (ρ ρ' : Ev) (l : List Dt) : lcR own xs ρ (l, ρ') = .ok (.o (.lst l), mergeC (own ++ xs) 0 ρ ρ') := (rfl)
@[simp] theorem lock1_ap (ρ : Ev) (x : Nat) : lock1 ρ x = match ρ[x]? with
  | some (.o d) => ρ.set x (.l d)
  | _ => ρ := (rfl)
@[simp] theorem lockE_nil (ρ : Ev) : lockE [] ρ = ρ := (rfl)
@[simp] theorem lockE_cons (x : Nat) (xs : List Nat) (ρ : Ev) : lockE (x :: xs) ρ = lockE xs (lock1 ρ x) := (rfl)
@[simp] theorem wipeE_nil (ρ : Ev) : wipeE [] ρ = ρ := (rfl)
@[simp] theorem wipeE_cons (x : Nat) (xs : List Nat) (ρ : Ev) : wipeE (x :: xs) ρ = wipeE xs (ρ.set x .e) := (rfl)
def mg1 : Sl → Sl → Sl
  | .l d, _ => .l d
  | _, .l _ => .e
  | _, b => b
@[simp] theorem mergeC_nil (L : List Nat) (i : Nat) (b : Ev) : mergeC L i [] b = [] := by cases b <;> exact (rfl)
@[simp] theorem mergeC_cons (L : List Nat) (i : Nat) (a : Sl) (r : Ev) (b : Sl) (s : Ev) : mergeC L i (a :: r) (b :: s) = (if i ∈ L then a else mg1 a b) :: mergeC L (i + 1) r s := by
  simp only [mergeC, List.contains_eq_mem, decide_eq_true_eq]
  congr 1
@[simp] theorem mg1_same (a : Sl) : mg1 a a = a := by cases a <;> exact (rfl)
@[simp] theorem mg1_l (d : Dt) (b : Sl) : mg1 (.l d) b = .l d := by cases b <;> exact (rfl)
@[simp] theorem mg1_o (a : Sl) (d : Dt) : mg1 a (.o d) = match a with | .l d => .l d | _ => .o d := by cases a <;> exact (rfl)
@[simp] theorem mg1_s (a : Sl) (d : Dt) : mg1 a (.s d) = match a with | .l d => .l d | _ => .s d := by cases a <;> exact (rfl)
@[simp] theorem mg1_e (a : Sl) : mg1 a .e = match a with | .l d => .l d | _ => .e := by cases a <;> exact (rfl)
/-- one round of a list comprehension -/
def lcE (own : List Nat) (p : Vl × Ev) : R (Option Dt × Ev) := match p.1 with
  | .o d => .ok (some d, wipeE own p.2)
  | _ => .no
def lcT (own : List Nat) (f : Fe) (b : Bool × Ev) : R (Option Dt × Ev) := if b.1 = true then (f b.2).bind (lcE own) else .ok (none, wipeE own b.2)
def lcG (own : List Nat) (T : Ft) (f : Fe) (ρ : Ev) : R (Option Dt × Ev) := (T ρ).bind (lcT own f)
def lcS (l : Bool) (own : List Nat) (t : Tgt) (T : Ft) (f : Fe) (it : Itm) (ρ : Ev) : R (Option Dt × Ev) := (tgM l t it ρ).bind (lcG own T f)
@[simp] theorem lcS_ap (l : Bool) (own : List Nat) (t : Tgt) (T : Ft) (f : Fe) (it : Itm) (ρ : Ev) : lcS l own t T f it ρ = (tgM l t it ρ).bind (lcG own T f) := (rfl)
@[simp] theorem lcG_ap (own : List Nat) (T : Ft) (f : Fe) (ρ : Ev) : lcG own T f ρ = (T ρ).bind (lcT own f) := (rfl)
@[simp] theorem lcT_ap (own : List Nat) (f : Fe) (b : Bool) (ρ : Ev) : lcT own f (b, ρ) = if b = true then (f ρ).bind (lcE own) else .ok (none, wipeE own ρ) := (rfl)
@[simp] theorem lcE_ap (own : List Nat) (d : Dt) (ρ : Ev) : lcE own (.o d, ρ) = .ok (some d, wipeE own ρ) := (rfl)
theorem lcL_cons (l : Bool) (own : List Nat) (t : Tgt) (T : Ft) (f : Fe) (it : Itm) (r : List Itm) (ρ : Ev) (acc : List Dt) :
    lcL l own t T f (it :: r) ρ acc = (lcS l own t T f it ρ).bind fun q => lcL l own t T f r q.2 (acc ++ q.1.toList) := by
  show ((tgM l t it ρ).bind _) = ((tgM l t it ρ).bind _).bind _
  cases tgM l t it ρ with
  | ok ρa =>
    simp only [R.bind_ok, lcG]
    cases T ρa with
    | ok b =>
      obtain ⟨b, ρb⟩ := b
      simp only [R.bind_ok, lcT]
      cases b with
      | false => simp
      | true =>
        simp only [if_true]
        cases f ρb with
        | ok p =>
          obtain ⟨p, ρc⟩ := p
          simp only [R.bind_ok, lcE]
          cases p <;> rfl
        | ex => rfl
        | no => rfl
    | ex => rfl
    | no => rfl
  | ex => rfl
  | no => rfl
theorem lcL_pure {α : Type} {enc : α → Itm} {xs : List α} {l : Bool} {own : List Nat} {t : Tgt} {T : Ft} {f : Fe} {ρ : Ev} {acc : List Dt} (p : α → Bool) (g : α → Dt)
    (h : ∀ x ∈ xs, lcS l own t T f (enc x) ρ = .ok (if p x = true then some (g x) else none, ρ)) : lcL l own t T f (xs.map enc) ρ acc = .ok (acc ++ (xs.filter p).map g, ρ) := by
  induction xs generalizing acc with
  | nil => simp [lcL]
  | cons x r ih =>
    rw [List.map_cons, lcL_cons, h x List.mem_cons_self, R.bind_ok, ih fun y hy => h y (List.mem_cons_of_mem _ hy)]
    by_cases c : p x = true <;> simp [c]
theorem lcL_tr {α : Type} {enc : α → Itm} {xs : List α} {l : Bool} {own : List Nat} {t : Tgt} {T : Ft} {f : Fe} {ρ : Ev} {acc : List Dt} (I : List α → Ev → List Dt → Prop) (h0 : I [] ρ acc)
    (h : ∀ ys x zs ρ acc, xs = ys ++ x :: zs → I ys ρ acc → Tr (lcS l own t T f (enc x) ρ) fun q => I (ys ++ [x]) q.2 (acc ++ q.1.toList)) :
    Tr (lcL l own t T f (xs.map enc) ρ acc) fun q => I xs q.2 q.1 := by
  suffices ∀ zs ys ρ acc, xs = ys ++ zs → I ys ρ acc → Tr (lcL l own t T f (zs.map enc) ρ acc) fun q => I xs q.2 q.1 from this xs [] ρ acc rfl h0
  intro zs
  induction zs with
  | nil => intro ys ρ acc e i; rw [List.append_nil] at e; subst e; exact ⟨_, rfl, i⟩
  | cons x r ih =>
    intro ys ρ acc e i
    rw [List.map_cons, lcL_cons]
    exact (h ys x r ρ acc e i).bind fun q hq => ih (ys ++ [x]) _ _ (by rw [e]; simp) hq
/-- .. each round gives one -/
theorem lcL_map {α : Type} {enc : α → Itm} {xs : List α} {l : Bool} {own : List Nat} {t : Tgt} {T : Ft} {f : Fe} {ρ : Ev} {acc : List Dt} (g : α → Dt)
    (h : ∀ x ∈ xs, lcS l own t T f (enc x) ρ = .ok (some (g x), ρ)) : lcL l own t T f (xs.map enc) ρ acc = .ok (acc ++ xs.map g, ρ) := by
  rw [lcL_pure (fun _ => true) g (by simpa using h), List.filter_eq_self.mpr (by simp)]
theorem forL_cons (t : Tgt) (f : Fs) (it : Itm) (r : List Itm) (ρ : Ev) : forL t f (it :: r) ρ = ((tgM false t it ρ).bind f).bind fun u => match u with
    | .nx ρ' => forL t f r ρ'
    | .ct ρ' => forL t f r ρ'
    | .bk ρ' => .ok (.nx ρ')
    | .rt r ρ' => .ok (.rt r ρ') := by
  rw [bind_bind]; rfl
/-- a loop by its invariant; S: it goes on past the loop, or returns -/
theorem forL_trS {α : Type} {enc : α → Itm} {xs : List α} {t : Tgt} {f : Fs} {ρ : Ev} (I : List α → Ev → Prop) (S : Ou → Prop) (h0 : I [] ρ)
    (h : ∀ ys x zs ρ, xs = ys ++ x :: zs → I ys ρ → Tr ((tgM false t (enc x) ρ).bind f) fun u => match u with
      | .nx ρ' => I (ys ++ [x]) ρ'
      | .ct ρ' => I (ys ++ [x]) ρ'
      | .bk ρ' => S (.nx ρ')
      | .rt r ρ' => S (.rt r ρ')) (he : ∀ ρ, I xs ρ → S (.nx ρ)) :
    Tr (forL t f (xs.map enc) ρ) S := by
  suffices ∀ zs ys ρ, xs = ys ++ zs → I ys ρ → Tr (forL t f (zs.map enc) ρ) S from this xs [] ρ rfl h0
  intro zs
  induction zs with
  | nil => intro ys ρ e i; rw [List.append_nil] at e; subst e; exact ⟨_, rfl, he _ i⟩
  | cons x r ih =>
    intro ys ρ e i
    rw [List.map_cons, forL_cons]
    refine (h ys x r ρ e i).bind fun u hu => ?_
    cases u with
    | nx ρ' => exact ih (ys ++ [x]) _ (by rw [e]; simp) hu
    | ct ρ' => exact ih (ys ++ [x]) _ (by rw [e]; simp) hu
    | bk ρ' => exact ⟨_, rfl, hu⟩
    | rt r ρ' => exact ⟨_, rfl, hu⟩
theorem forL_tr {α : Type} {enc : α → Itm} {xs : List α} {t : Tgt} {f : Fs} {ρ : Ev} (I : List α → Ev → Prop) (h0 : I [] ρ)
    (h : ∀ ys x zs ρ, xs = ys ++ x :: zs → I ys ρ → Tr ((tgM false t (enc x) ρ).bind f) fun u => ∃ ρ', u = .nx ρ' ∧ I (ys ++ [x]) ρ') :
    Tr (forL t f (xs.map enc) ρ) fun u => ∃ ρ', u = .nx ρ' ∧ I xs ρ' :=
  forL_trS I _ h0 (fun ys x zs ρ e i => (h ys x zs ρ e i).mono fun u hu => by obtain ⟨ρ', rfl, k⟩ := hu; exact k) fun ρ i => ⟨ρ, rfl, i⟩
/-- a while by a measure -/
theorem whM_tr {σ : Type} {T : Ft} {f : Fs} {n : Nat} {ρ : Ev} (I : σ → Ev → Prop) (μ : σ → Nat) (S : Ou → Prop) (s : σ) (h0 : I s ρ) (hn : μ s < n)
    (h : ∀ s ρ, I s ρ → Tr (T ρ) fun p => if p.1 = true then Tr (f p.2) fun u => match u with
      | .nx ρ' => ∃ s', I s' ρ' ∧ μ s' < μ s
      | .ct ρ' => ∃ s', I s' ρ' ∧ μ s' < μ s
      | .bk ρ' => S (.nx ρ')
      | .rt r ρ' => S (.rt r ρ')
      else S (.nx p.2)) : Tr (whM T f n ρ) S := by
  induction n generalizing s ρ with
  | zero => omega
  | succ n ih =>
    unfold whM
    refine (h s ρ h0).bind fun p hp => ?_
    by_cases c : p.1 = true
    · rw [if_pos c] at hp ⊢
      refine hp.bind fun u hu => ?_
      cases u with
      | nx ρ' => obtain ⟨s', i, l⟩ := hu; exact ih s' i (by omega)
      | ct ρ' => obtain ⟨s', i, l⟩ := hu; exact ih s' i (by omega)
      | bk ρ' => exact ⟨_, rfl, hu⟩
      | rt r ρ' => exact ⟨_, rfl, hu⟩
    · rw [if_neg c] at hp ⊢
      exact ⟨_, rfl, hp⟩
/-! dict comprehensions -/
def dcR (tk : Bool) (own xs : List Nat) (ρ : Ev) (p : List (Im × Dt) × Ev) : R (Vl × Ev) := .ok (.o (.dic tk p.1), mergeC (own ++ xs) 0 ρ p.2)
def dcK (tk : Bool) (own : List Nat) (t : Tgt) (T : Ft) (f g : Fe) (z : Zi) : R (Vl × Ev) := (dcL tk (!z.2.1.isEmpty) own t T f g z.1 (wipeE own (lockE z.2.1 z.2.2)) []).bind (dcR tk own z.2.1 z.2.2)
@[simp] theorem dcM_ap (tk : Bool) (own : List Nat) (src : Fi) (t : Tgt) (T : Ft) (f g : Fe) (ρ : Ev) : dcM tk own src t T f g ρ = (src ρ).bind (dcK tk own t T f g) := (rfl)
@[simp] theorem dcK_ap (tk : Bool) (own : List Nat) (t : Tgt) (T : Ft) (f g : Fe) (l : List Itm) (xs : List Nat) (ρ : Ev) : dcK tk own t T f g (l, xs, ρ) = (dcL tk (!xs.isEmpty) own t T f g l (wipeE own (lockE xs ρ)) []).bind (dcR tk own xs ρ) := (rfl)
@[simp] theorem dcR_ap (tk : Bool) (own xs : List Nat) (ρ ρ' : Ev) (l : List (Im × Dt)) : dcR tk own xs ρ (l, ρ') = .ok (.o (.dic tk l), mergeC (own ++ xs) 0 ρ ρ') := (rfl)
def dcV (tk : Bool) (own : List Nat) (k : Vl) (q : Vl × Ev) : R (Option (Im × Dt) × Ev) := match k, q.1 with
  | .o (.im k), .o (.im d) => if fits tk k = true then .ok (some (k, .im d), wipeE own q.2) else .no
  | _, _ => .no
def dcE (tk : Bool) (own : List Nat) (g : Fe) (p : Vl × Ev) : R (Option (Im × Dt) × Ev) := (g p.2).bind (dcV tk own p.1)
def dcT (tk : Bool) (own : List Nat) (f g : Fe) (b : Bool × Ev) : R (Option (Im × Dt) × Ev) := if b.1 = true then (f b.2).bind (dcE tk own g) else .ok (none, wipeE own b.2)
def dcG (tk : Bool) (own : List Nat) (T : Ft) (f g : Fe) (ρ : Ev) : R (Option (Im × Dt) × Ev) := (T ρ).bind (dcT tk own f g)
def dcS (tk l : Bool) (own : List Nat) (t : Tgt) (T : Ft) (f g : Fe) (it : Itm) (ρ : Ev) : R (Option (Im × Dt) × Ev) := (tgM l t it ρ).bind (dcG tk own T f g)
@[simp] theorem dcS_ap (tk l : Bool) (own : List Nat) (t : Tgt) (T : Ft) (f g : Fe) (it : Itm) (ρ : Ev) : dcS tk l own t T f g it ρ = (tgM l t it ρ).bind (dcG tk own T f g) := (rfl)
@[simp] theorem dcG_ap (tk : Bool) (own : List Nat) (T : Ft) (f g : Fe) (ρ : Ev) : dcG tk own T f g ρ = (T ρ).bind (dcT tk own f g) := (rfl)
@[simp] theorem dcT_ap (tk : Bool) (own : List Nat) (f g : Fe) (b : Bool) (ρ : Ev) : dcT tk own f g (b, ρ) = if b = true then (f ρ).bind (dcE tk own g) else .ok (none, wipeE own ρ) := (rfl)
@[simp] theorem dcE_ap (tk : Bool) (own : List Nat) (g : Fe) (r : Vl) (ρ : Ev) : dcE tk own g (r, ρ) = (g ρ).bind (dcV tk own r) := (rfl)
@[simp] theorem dcV_ap (tk : Bool) (own : List Nat) (k d : Im) (ρ : Ev) : dcV tk own (.o (.im k)) (.o (.im d), ρ) = if fits tk k = true then .ok (some (k, .im d), wipeE own ρ) else .no := (rfl)
theorem dcL_cons (tk l : Bool) (own : List Nat) (t : Tgt) (T : Ft) (f g : Fe) (it : Itm) (r : List Itm) (ρ : Ev) (acc : List (Im × Dt)) (hl : acc.length < SZ) :
    dcL tk l own t T f g (it :: r) ρ acc = (dcS tk l own t T f g it ρ).bind fun q => dcL tk l own t T f g r q.2 (match q.1 with | some kv => put acc kv.1 kv.2 | none => acc) := by
  show ((tgM l t it ρ).bind _) = ((tgM l t it ρ).bind _).bind _
  cases tgM l t it ρ with
  | ok ρa =>
    simp only [R.bind_ok, dcG]
    cases T ρa with
    | ok b =>
      obtain ⟨b, ρb⟩ := b
      simp only [R.bind_ok, dcT]
      cases b with
      | false => simp
      | true =>
        simp only [if_true]
        cases f ρb with
        | ok p =>
          obtain ⟨p, ρc⟩ := p
          simp only [R.bind_ok, dcE]
          cases g ρc with
          | ok q =>
            obtain ⟨q, ρd⟩ := q
            simp only [R.bind_ok, dcV]
            split
            · simp only [hl, and_true]; split <;> rfl
            · rename_i h
              first
              | rfl
              | (split
                 · rename_i h1 h2; exact absurd rfl (h _ _ · rfl)
                 · rfl)
          | ex => rfl
          | no => rfl
        | ex => rfl
        | no => rfl
    | ex => rfl
    | no => rfl
  | ex => rfl
  | no => rfl
theorem put_len {α : Type} (l : List (Im × α)) (k : Im) (v : α) : (put l k v).length ≤ l.length + 1 := by
  unfold put; split <;> simp
theorem dcL_pure {α : Type} {enc : α → Itm} {xs : List α} {tk l : Bool} {own : List Nat} {t : Tgt} {T : Ft} {f g : Fe} {ρ : Ev} {acc : List (Im × Dt)} (p : α → Bool) (k : α → Im) (v : α → Dt) (hl : acc.length + xs.length ≤ SZ)
    (h : ∀ x ∈ xs, dcS tk l own t T f g (enc x) ρ = .ok (if p x = true then some (k x, v x) else none, ρ)) :
    dcL tk l own t T f g (xs.map enc) ρ acc = .ok (((xs.filter p).map fun x => (k x, v x)).foldl (fun a y => put a y.1 y.2) acc, ρ) := by
  induction xs generalizing acc with
  | nil => simp [dcL]
  | cons x r ih =>
    simp only [List.length_cons] at hl
    have := put_len acc (k x) (v x)
    rw [List.map_cons, dcL_cons _ _ _ _ _ _ _ _ _ _ _ (by omega), h x List.mem_cons_self, R.bind_ok]
    by_cases c : p x = true
    · simp only [c, if_true]
      rw [ih (by omega) fun y hy => h y (List.mem_cons_of_mem _ hy), List.filter_cons_of_pos c]; rfl
    · simp only [c]
      rw [ih (by simp; omega) fun y hy => h y (List.mem_cons_of_mem _ hy), List.filter_cons_of_neg c]; rfl
end Wv

set_option Elab.async false
set_option linter.all false
set_option maxRecDepth 100000
namespace Wv
open PySem
/-! defs and calls -/
def defO (r : Vl) : Option (List Dt) → R (Vl × List Dt)
  | some ds => .ok (r, ds)
  | none => .no
def defK (vp : List Nat) : Ou → R (Vl × List Dt)
  | .rt r ρ => if r.isB = true then .no else defO r (outsOf ρ vp)
  | .nx ρ => defO (.o (.im .non)) (outsOf ρ vp)
  | _ => .no
@[simp] theorem defM_ap (vp : List Nat) (m : Nat) (fs : Fs) (as : List Vl) : defM vp m fs as = (fs (as.map Vl.arg ++ List.replicate m .e)).bind (defK vp) := (rfl)
@[simp] theorem defK_rt (vp : List Nat) (r : Vl) (ρ : Ev) : defK vp (.rt r ρ) = if r.isB = true then .no else defO r (outsOf ρ vp) := (rfl)
@[simp] theorem defK_nx (vp : List Nat) (ρ : Ev) : defK vp (.nx ρ) = defO (.o (.im .non)) (outsOf ρ vp) := (rfl)
@[simp] theorem defO_ap (r : Vl) (ds : List Dt) : defO r (some ds) = .ok (r, ds) := (rfl)
@[simp] theorem outs_nil (ρ : Ev) : outsOf ρ [] = some [] := (rfl)
@[simp] theorem outs_cons (ρ : Ev) (p : Nat) (ps : List Nat) : outsOf ρ (p :: ps) = match ρ[p]?, outsOf ρ ps with
    | some (.o d), some ds => some (d :: ds)
    | _, _ => none := (rfl)
@[simp] theorem arg_o (d : Dt) : Vl.arg (.o d) = .o d := (rfl)
@[simp] theorem arg_s (d : Dt) : Vl.arg (.s d) = .s d := (rfl)
@[simp] theorem arg_b (d : Dt) : Vl.arg (.b d) = .e := (rfl)
@[simp] theorem cnM_ap (ρ : Ev) : cnM ρ = .ok ([], ρ) := (rfl)
def cvR (r : Vl) (q : List Ac × Ev) : R (List Ac × Ev) := .ok (.v r :: q.1, q.2)
@[simp] theorem cvR_ap (r : Vl) (q : List Ac × Ev) : cvR r q = .ok (.v r :: q.1, q.2) := (rfl)
def cvK (qs : Bool) (g : Fc) (p : Vl × Ev) : R (List Ac × Ev) := if (qs || !p.1.isB) = true then (g p.2).bind (cvR p.1) else .no
@[simp] theorem cvM_ap (qs : Bool) (f : Fe) (g : Fc) (ρ : Ev) : cvM qs f g ρ = (f ρ).bind (cvK qs g) := (rfl)
@[simp] theorem cvK_ap (qs : Bool) (g : Fc) (r : Vl) (ρ : Ev) : cvK qs g (r, ρ) = if (qs || !r.isB) = true then (g ρ).bind (cvR r) else .no := (rfl)
def cyR (y : Nat) (q : List Ac × Ev) : R (List Ac × Ev) := .ok (.n y :: q.1, q.2)
@[simp] theorem cyR_ap (y : Nat) (q : List Ac × Ev) : cyR y q = .ok (.n y :: q.1, q.2) := (rfl)
@[simp] theorem cyM_ap (y : Nat) (g : Fc) (ρ : Ev) : cyM y g ρ = if Sl.set ρ[y]? = true then (g ρ).bind (cyR y) else .no := (rfl)
@[simp] theorem set_o (d : Dt) : Sl.set (some (.o d)) = true := (rfl)
@[simp] theorem set_s (d : Dt) : Sl.set (some (.s d)) = true := (rfl)
@[simp] theorem set_l (d : Dt) : Sl.set (some (.l d)) = true := (rfl)
def callR (vp : List Nat) (acs : List Ac) (ρ : Ev) (p : Vl × List Dt) : R (Vl × Ev) := match p.1 with
        | .o (.im j) => .ok (.o (.im j), after ρ (lent vp 0 acs) p.2)
        | .o d => .ok (.o d, after ρ (lent vp 0 acs) p.2)
        | .s (.im j) => .ok (.o (.im j), after ρ (lent vp 0 acs) p.2)
        | .s d => if borrows vp ρ 0 acs = true then .no else .ok (.s d, after ρ (lent vp 0 acs) p.2)
        | .b _ => .no
def callO (vp : List Nat) (φ : Fn) (acs : List Ac) (ρ : Ev) : Option (List Vl) → R (Vl × Ev)
  | some as => (φ as).bind (callR vp acs ρ)
  | none => .no
def callC (n : Nat) (vp : List Nat) (acs : List Ac) : Bool := distinct ((lent vp 0 acs).map (·.1)) && (readN vp 0 acs).all (fun y => !((lent vp 0 acs).map (·.1)).contains y) && decide ((lent vp 0 acs).map (·.2) = vp) && distinct vp && decide (acs.length = n)
def callK (n : Nat) (vp : List Nat) (φ : Fn) (q : List Ac × Ev) : R (Vl × Ev) :=
  if callC n vp q.1 = true then callO vp φ q.1 q.2 (passed vp q.2 0 q.1) else .no
@[simp] theorem callM_ap (n : Nat) (vp : List Nat) (φ : Fn) (g : Fc) (ρ : Ev) : callM n vp φ g ρ = (g ρ).bind (callK n vp φ) := by
  unfold callM callK callC callO callR; rfl
@[simp] theorem callK_ap (n : Nat) (vp : List Nat) (φ : Fn) (acs : List Ac) (ρ : Ev) : callK n vp φ (acs, ρ) = if callC n vp acs = true then callO vp φ acs ρ (passed vp ρ 0 acs) else .no := (rfl)
@[simp] theorem callC_ap (n : Nat) (vp : List Nat) (acs : List Ac) : callC n vp acs = (distinct ((lent vp 0 acs).map (·.1)) && (readN vp 0 acs).all (fun y => !((lent vp 0 acs).map (·.1)).contains y) && decide ((lent vp 0 acs).map (·.2) = vp) && distinct vp && decide (acs.length = n)) := (rfl)
@[simp] theorem callO_ap (vp : List Nat) (φ : Fn) (acs : List Ac) (ρ : Ev) (as : List Vl) : callO vp φ acs ρ (some as) = (φ as).bind (callR vp acs ρ) := (rfl)
@[simp] theorem callR_i (vp : List Nat) (acs : List Ac) (ρ : Ev) (j : Im) (o : List Dt) : callR vp acs ρ (.o (.im j), o) = .ok (.o (.im j), after ρ (lent vp 0 acs) o) := (rfl)
@[simp] theorem callR_l (vp : List Nat) (acs : List Ac) (ρ : Ev) (l : List Dt) (o : List Dt) : callR vp acs ρ (.o (.lst l), o) = .ok (.o (.lst l), after ρ (lent vp 0 acs) o) := (rfl)
@[simp] theorem callR_d (vp : List Nat) (acs : List Ac) (ρ : Ev) (t : Bool) (l : List (Im × Dt)) (o : List Dt) : callR vp acs ρ (.o (.dic t l), o) = .ok (.o (.dic t l), after ρ (lent vp 0 acs) o) := (rfl)
@[simp] theorem callR_sl (vp : List Nat) (acs : List Ac) (ρ : Ev) (l : List Dt) (o : List Dt) : callR vp acs ρ (.s (.lst l), o) = if borrows vp ρ 0 acs = true then .no else .ok (.s (.lst l), after ρ (lent vp 0 acs) o) := (rfl)
@[simp] theorem lent_nil (vp : List Nat) (i : Nat) : lent vp i [] = [] := (rfl)
@[simp] theorem lent_n (vp : List Nat) (i y : Nat) (rs : List Ac) : lent vp i (.n y :: rs) = if i ∈ vp then (y, i) :: lent vp (i + 1) rs else lent vp (i + 1) rs := by
  rw [lent]; simp
@[simp] theorem lent_v (vp : List Nat) (i : Nat) (r : Vl) (rs : List Ac) : lent vp i (.v r :: rs) = lent vp (i + 1) rs := (rfl)
@[simp] theorem readN_nil (vp : List Nat) (i : Nat) : readN vp i [] = [] := (rfl)
@[simp] theorem readN_n (vp : List Nat) (i y : Nat) (rs : List Ac) : readN vp i (.n y :: rs) = if i ∈ vp then readN vp (i + 1) rs else y :: readN vp (i + 1) rs := by
  rw [readN]; simp
@[simp] theorem readN_v (vp : List Nat) (i : Nat) (r : Vl) (rs : List Ac) : readN vp i (.v r :: rs) = readN vp (i + 1) rs := (rfl)
@[simp] theorem distinct_nil : distinct [] = true := (rfl)
@[simp] theorem distinct_c (x : Nat) (r : List Nat) : distinct (x :: r) = (!r.contains x && distinct r) := (rfl)
@[simp] theorem after_nil (ρ : Ev) (o : List Dt) : after ρ [] o = ρ := by cases o <;> exact (rfl)
@[simp] theorem after_cons (ρ : Ev) (y i : Nat) (ys : List (Nat × Nat)) (d : Dt) (ds : List Dt) : after ρ ((y, i) :: ys) (d :: ds) = (after ρ ys ds).set y (.o d) := (rfl)
def pasN (b : Bool) : Option Sl → Option Vl
  | some (.o (.im j)) => if b = true then none else some (.o (.im j))
  | some (.o d) => if b = true then some (.o d) else some (.s d)
  | some (.s d) => if b = true then none else some (.s d)
  | some (.l d) => if b = true then none else some (.s d)
  | _ => none
def pasV (b e : Bool) (r : Vl) : Option Vl := if b = true then none else match r with
      | .o (.im j) => some (.o (.im j))
      | .o d => some (.s d)
      | .s d => some (.s d)
      | .b (.im j) => some (.o (.im j))
      | .b d => if e = true then some (.s d) else none
def optC {α : Type} : Option α → Option (List α) → Option (List α)
  | some a, some l => some (a :: l)
  | _, _ => none
@[simp] theorem optC_ap {α : Type} (a : α) (l : List α) : optC (some a) (some l) = some (a :: l) := (rfl)
@[simp] theorem passed_nil (vp : List Nat) (ρ : Ev) (i : Nat) : passed vp ρ i [] = some [] := (rfl)
@[simp] theorem passed_n (vp : List Nat) (ρ : Ev) (i y : Nat) (rs : List Ac) : passed vp ρ i (.n y :: rs) = optC (pasN (decide (i ∈ vp)) ρ[y]?) (passed vp ρ (i + 1) rs) := by
  rw [passed]; unfold pasN optC
  have e : vp.contains i = decide (i ∈ vp) := by simp
  rw [e]
  generalize decide (i ∈ vp) = b
  generalize ρ[y]? = z
  generalize passed vp ρ (i + 1) rs = o
  rcases z with _ | _ | ⟨_ | _ | _ | _⟩ | ⟨_ | _ | _ | _⟩ | ⟨_ | _ | _ | _⟩ <;> cases o <;> cases b <;> rfl
@[simp] theorem passed_v (vp : List Nat) (ρ : Ev) (i : Nat) (r : Vl) (rs : List Ac) : passed vp ρ i (.v r :: rs) = optC (pasV (decide (i ∈ vp)) vp.isEmpty r) (passed vp ρ (i + 1) rs) := by
  rw [passed]; unfold pasV optC
  have e : vp.contains i = decide (i ∈ vp) := by simp
  rw [e]
  generalize decide (i ∈ vp) = b
  generalize passed vp ρ (i + 1) rs = o
  rcases r with ⟨_ | _ | _ | _⟩ | ⟨_ | _ | _ | _⟩ | ⟨_ | _ | _ | _⟩ <;> cases o <;> cases b <;> first | rfl | (cases vp.isEmpty <;> rfl)
@[simp] theorem pasN_i (j : Im) : pasN false (some (.o (.im j))) = some (.o (.im j)) := (rfl)
@[simp] theorem pasN_l (b : Bool) (l : List Dt) : pasN b (some (.o (.lst l))) = if b = true then some (.o (.lst l)) else some (.s (.lst l)) := (rfl)
@[simp] theorem pasN_d (b : Bool) (t : Bool) (l : List (Im × Dt)) : pasN b (some (.o (.dic t l))) = if b = true then some (.o (.dic t l)) else some (.s (.dic t l)) := (rfl)
@[simp] theorem pasN_s (d : Dt) : pasN false (some (.s d)) = some (.s d) := (rfl)
@[simp] theorem pasN_b (d : Dt) : pasN false (some (.l d)) = some (.s d) := (rfl)
@[simp] theorem pasV_i (e : Bool) (j : Im) : pasV false e (.o (.im j)) = some (.o (.im j)) := (rfl)
@[simp] theorem pasV_l (e : Bool) (l : List Dt) : pasV false e (.o (.lst l)) = some (.s (.lst l)) := (rfl)
@[simp] theorem pasV_d (e : Bool) (t : Bool) (l : List (Im × Dt)) : pasV false e (.o (.dic t l)) = some (.s (.dic t l)) := (rfl)
@[simp] theorem pasV_s (e : Bool) (d : Dt) : pasV false e (.s d) = some (.s d) := (rfl)
@[simp] theorem pasV_bl (l : List Dt) : pasV false true (.b (.lst l)) = some (.s (.lst l)) := (rfl)
@[simp] theorem pasV_bd (t : Bool) (l : List (Im × Dt)) : pasV false true (.b (.dic t l)) = some (.s (.dic t l)) := (rfl)
@[simp] theorem borrows_nil (vp : List Nat) (ρ : Ev) (i : Nat) : borrows vp ρ i [] = false := (rfl)
@[simp] theorem borrows_n (vp : List Nat) (ρ : Ev) (i y : Nat) (rs : List Ac) : borrows vp ρ i (.n y :: rs) = (borN vp ρ i y || borrows vp ρ (i + 1) rs) := (rfl)
@[simp] theorem borrows_v (vp : List Nat) (ρ : Ev) (i : Nat) (r : Vl) (rs : List Ac) : borrows vp ρ i (.v r :: rs) = (borV r || borrows vp ρ (i + 1) rs) := (rfl)
/-! built-ins at known shapes -/
@[simp] theorem SZ_val : SZ = 16777216 := by decide
end Wv

set_option Elab.async false
set_option linter.all false
set_option maxRecDepth 100000
namespace Wv
open PySem
/-! ## built-ins at known shapes -/
def lenD : Dt → R Vl
    | .lst l => .ok (vI l.length)
    | .im (.tup l) => .ok (vI l.length)
    | .im (.str x) => if x.length ≤ SZ then .ok (vI x.length) else .no
    | .dic _ l => .ok (vI l.length)
    | _ => .no
@[simp] theorem lenH_ap (a : Vl) : lenH [a] = lenD a.d := (rfl)
@[simp] theorem lenD_l (l : List Dt) : lenD (.lst l) = .ok (vI l.length) := (rfl)
@[simp] theorem lenD_t (l : List Im) : lenD (.im (.tup l)) = .ok (vI l.length) := (rfl)
@[simp] theorem lenD_d (t : Bool) (l : List (Im × Dt)) : lenD (.dic t l) = .ok (vI l.length) := (rfl)
@[simp] theorem intH_i (i : Int) : intH [.o (.im (.int i))] = .ok (vI i) := (rfl)
@[simp] theorem intH_b (b : Bool) : intH [.o (.im (.bl b))] = .ok (vI (if b then 1 else 0)) := (rfl)
@[simp] theorem absH_i (i : Int) : absH [.o (.im (.int i))] = .ok (vI (if i < 0 then -i else i)) := (rfl)
@[simp] theorem max2_ii (i j : Int) : max2H [.o (.im (.int i)), .o (.im (.int j))] = .ok (vI (if j > i then j else i)) := (rfl)
@[simp] theorem min2_ii (i j : Int) : min2H [.o (.im (.int i)), .o (.im (.int j))] = .ok (vI (if j < i then j else i)) := (rfl)
@[simp] theorem negH_i (i : Int) : negH [.o (.im (.int i))] = .ok (vI (-i)) := (rfl)
@[simp] theorem bndI_ap (i : Int) : bndI i = (decide (-18446744073709551616 < i) && decide (i < 18446744073709551616)) := by
  unfold bndI
  have e : (2 : Int) ^ 64 = 18446744073709551616 := by decide
  rw [e]
@[simp] theorem mul_il (i j : Int) (h : bndI j = true) : mulH [.o (.im (.int i)), .o (.im (.int j))] = .ok (vI (i * j)) := mul_ii i j (by rw [h, Bool.or_true])
theorem mul_li (i j : Int) (h : bndI i = true) : mulH [.o (.im (.int i)), .o (.im (.int j))] = .ok (vI (i * j)) := mul_ii i j (by rw [h, Bool.true_or])
@[simp] theorem mod_i (i j : Int) : modH [.o (.im (.int i)), .o (.im (.int j))] = if j ≠ 0 then .ok (vI (i.fmod j)) else .no := by simp [modH, int2]
@[simp] theorem fdiv_i (i j : Int) : fdivH [.o (.im (.int i)), .o (.im (.int j))] = if j ≠ 0 ∧ j.natAbs < 1073741824 then .ok (vI (i.fdiv j)) else .no := by simp [fdivH, int2]
@[simp] theorem pow_i (i j : Int) : powH [.o (.im (.int i)), .o (.im (.int j))] = if 0 ≤ j ∧ j ≤ 1000000 ∧ i.natAbs < 18446744073709551616 then .ok (vI (i ^ j.toNat)) else .no := by
  unfold powH int2
  simp [and_assoc]
/-! tuples and lists -/
@[simp] theorem imsOf_nil : imsOf [] = some [] := (rfl)
@[simp] theorem imsOf_cons (i : Im) (r : List Vl) : imsOf (.o (.im i) :: r) = (imsOf r).map (i :: ·) := (rfl)
@[simp] theorem ownsOf_nil : ownsOf [] = some [] := (rfl)
@[simp] theorem ownsOf_cons (d : Dt) (r : List Vl) : ownsOf (.o d :: r) = (ownsOf r).map (d :: ·) := (rfl)
@[simp] theorem imsOf_lst (i : List Dt) (r : List Vl) : imsOf (.o (.lst i) :: r) = none := (rfl)
@[simp] theorem imsOf_tpl (i : List Dt) (r : List Vl) : imsOf (.o (.tpl i) :: r) = none := (rfl)
@[simp] theorem imsOf_dic (t : Bool) (i : List (Im × Dt)) (r : List Vl) : imsOf (.o (.dic t i) :: r) = none := (rfl)
def tplO : Option (List Dt) → R Vl
  | some l => if l.length ≤ SZ then .ok (.o (.tpl l)) else .no
  | none => .no
@[simp] theorem tplO_ap (l : List Dt) (h : l.length ≤ 16777216) : tplO (some l) = .ok (.o (.tpl l)) := by
  simp only [tplO, SZ_nat, h, if_true]
def tupO (rs : List Vl) : Option (List Im) → R Vl
  | some l => if l.length ≤ SZ then .ok (.o (.im (.tup l))) else .no
  | none => tplO (ownsOf rs)
@[simp] theorem tupH_ap (rs : List Vl) : tupH rs = tupO rs (imsOf rs) := by unfold tupH tupO tplO; rfl
@[simp] theorem tupO_none (rs : List Vl) : tupO rs none = tplO (ownsOf rs) := (rfl)
@[simp] theorem tupO_ap (rs : List Vl) (l : List Im) (h : l.length ≤ 16777216) : tupO rs (some l) = .ok (.o (.im (.tup l))) := by
  simp only [tupO, SZ_nat, h, if_true]
def lstO : Option (List Dt) → R Vl
  | some l => if l.length ≤ SZ then .ok (.o (.lst l)) else .no
  | none => .no
@[simp] theorem lstH_ap (rs : List Vl) : lstH rs = lstO (ownsOf rs) := by unfold lstH lstO; rfl
@[simp] theorem lstO_ap (l : List Dt) (h : l.length ≤ 16777216) : lstO (some l) = .ok (.o (.lst l)) := by
  simp only [lstO, SZ_nat, h, if_true]
def listD : Dt → R Vl
    | .lst l => if l.all Dt.isIm = true then .ok (.o (.lst l)) else .no
    | .im (.tup l) => .ok (.o (.lst (l.map .im)))
    | .scr l => .ok (.o (.lst (l.map fun i => .im (.int i))))
    | _ => .no
@[simp] theorem listH_ap (a : Vl) : listH [a] = listD a.d := (rfl)
@[simp] theorem listD_l (l : List Dt) : listD (.lst l) = if l.all Dt.isIm = true then .ok (.o (.lst l)) else .no := (rfl)
@[simp] theorem listD_t (l : List Im) : listD (.im (.tup l)) = .ok (.o (.lst (l.map .im))) := (rfl)
@[simp] theorem listD_s (l : List Int) : listD (.scr l) = .ok (.o (.lst (l.map fun i => .im (.int i)))) := (rfl)
@[simp] theorem isIm_im (i : Im) : Dt.isIm (.im i) = true := (rfl)
@[simp] theorem isIm_comp {α : Type} (f : α → Im) : (Dt.isIm ∘ fun x => .im (f x)) = fun _ => true := (rfl)
@[simp] theorem all_isIm (l : List Im) : (l.map Dt.im).all Dt.isIm = true := by simp
theorem all_isIm_map {α : Type} (l : List α) (f : α → Im) : (l.map fun x => Dt.im (f x)).all Dt.isIm = true := by simp
@[simp] theorem dimOf_nil : dimOf [] = some [] := (rfl)
@[simp] theorem dimOf_cons (i : Im) (r : List Dt) : dimOf (.im i :: r) = (dimOf r).map (i :: ·) := (rfl)
@[simp] theorem dimOf_map0 (l : List Im) : dimOf (l.map .im) = some l := dimOf_map l
@[simp] theorem dimOf_map' {α : Type} (l : List α) (f : α → Im) : dimOf (l.map fun x => Dt.im (f x)) = some (l.map f) := by
  induction l with
  | nil => rfl
  | cons a r ih => simp [ih]
@[simp] theorem dimOf_mapc {α : Type} (l : List α) (f : α → Im) : dimOf (l.map (Dt.im ∘ f)) = some (l.map f) := dimOf_map' l f
theorem dimOf_app (a b : List Dt) (x y : List Im) (h : dimOf a = some x) (k : dimOf b = some y) : dimOf (a ++ b) = some (x ++ y) := by
  induction a generalizing x with
  | nil => cases h; exact k
  | cons i r ih =>
    cases i with
    | im i =>
      rw [dimOf_cons] at h
      cases e : dimOf r with
      | none => rw [e] at h; cases h
      | some z => rw [e] at h; cases h; rw [List.cons_append, dimOf_cons, ih z e]; rfl
    | _ => cases h
def tupleO : Option (List Im) → R Vl
  | some m => .ok (.o (.im (.tup m)))
  | none => .no
def tupleD : Dt → R Vl
    | .lst l => tupleO (dimOf l)
    | .im (.tup l) => .ok (.o (.im (.tup l)))
    | _ => .no
@[simp] theorem tupleH_ap (a : Vl) : tupleH [a] = tupleD a.d := (rfl)
@[simp] theorem tupleD_l (l : List Dt) : tupleD (.lst l) = tupleO (dimOf l) := (rfl)
@[simp] theorem tupleD_t (l : List Im) : tupleD (.im (.tup l)) = .ok (.o (.im (.tup l))) := (rfl)
@[simp] theorem tupleO_ap (m : List Im) : tupleO (some m) = .ok (.o (.im (.tup m))) := (rfl)
@[simp] theorem add_tt' (l m : List Im) (h : l.length + m.length ≤ 16777216) : addH [.o (.im (.tup l)), .o (.im (.tup m))] = .ok (.o (.im (.tup (l ++ m)))) := by
  simp only [addH, altH, int2, tup2, lst2, str2, Vl.d, SZ_nat, h, if_true]
theorem add_l (a b : Vl) (l m : List Dt) (ha : a.d = .lst l) (hb : b.d = .lst m) (h1 : l.all Dt.isIm = true) (h2 : m.all Dt.isIm = true) (h3 : l.length + m.length ≤ 16777216) : addH [a, b] = .ok (.o (.lst (l ++ m))) := by
  have e1 : int2 (fun _ _ => true) (fun i j => .int (i + j)) [a, b] = .no := by
    cases a <;> cases b <;> simp only [Vl.d] at ha hb <;> subst ha hb <;> rfl
  have e2 : tup2 [a, b] = .no := by cases a <;> cases b <;> simp only [Vl.d] at ha hb <;> subst ha hb <;> exact (rfl)
  have e3 : str2 [a, b] = .no := by cases a <;> cases b <;> simp only [Vl.d] at ha hb <;> subst ha hb <;> exact (rfl)
  unfold addH altH
  rw [e1, e2, e3]
  simp only [lst2, ha, hb, h1, h2, SZ_nat, h3, Bool.and_self, decide_true, if_true]
@[simp] theorem add_oo (l m : List Dt) (h1 : l.all Dt.isIm = true) (h2 : m.all Dt.isIm = true) (h3 : l.length + m.length ≤ 16777216) : addH [.o (.lst l), .o (.lst m)] = .ok (.o (.lst (l ++ m))) := add_l _ _ _ _ rfl rfl h1 h2 h3
@[simp] theorem add_bo (l m : List Dt) (h1 : l.all Dt.isIm = true) (h2 : m.all Dt.isIm = true) (h3 : l.length + m.length ≤ 16777216) : addH [.b (.lst l), .o (.lst m)] = .ok (.o (.lst (l ++ m))) := add_l _ _ _ _ rfl rfl h1 h2 h3
@[simp] theorem add_ob (l m : List Dt) (h1 : l.all Dt.isIm = true) (h2 : m.all Dt.isIm = true) (h3 : l.length + m.length ≤ 16777216) : addH [.o (.lst l), .b (.lst m)] = .ok (.o (.lst (l ++ m))) := add_l _ _ _ _ rfl rfl h1 h2 h3
@[simp] theorem add_bb (l m : List Dt) (h1 : l.all Dt.isIm = true) (h2 : m.all Dt.isIm = true) (h3 : l.length + m.length ≤ 16777216) : addH [.b (.lst l), .b (.lst m)] = .ok (.o (.lst (l ++ m))) := add_l _ _ _ _ rfl rfl h1 h2 h3
@[simp] theorem add_so (l m : List Dt) (h1 : l.all Dt.isIm = true) (h2 : m.all Dt.isIm = true) (h3 : l.length + m.length ≤ 16777216) : addH [.s (.lst l), .o (.lst m)] = .ok (.o (.lst (l ++ m))) := add_l _ _ _ _ rfl rfl h1 h2 h3
@[simp] theorem add_os (l m : List Dt) (h1 : l.all Dt.isIm = true) (h2 : m.all Dt.isIm = true) (h3 : l.length + m.length ≤ 16777216) : addH [.o (.lst l), .s (.lst m)] = .ok (.o (.lst (l ++ m))) := add_l _ _ _ _ rfl rfl h1 h2 h3
@[simp] theorem add_ss (l m : List Dt) (h1 : l.all Dt.isIm = true) (h2 : m.all Dt.isIm = true) (h3 : l.length + m.length ≤ 16777216) : addH [.s (.lst l), .s (.lst m)] = .ok (.o (.lst (l ++ m))) := add_l _ _ _ _ rfl rfl h1 h2 h3
@[simp] theorem add_bs (l m : List Dt) (h1 : l.all Dt.isIm = true) (h2 : m.all Dt.isIm = true) (h3 : l.length + m.length ≤ 16777216) : addH [.b (.lst l), .s (.lst m)] = .ok (.o (.lst (l ++ m))) := add_l _ _ _ _ rfl rfl h1 h2 h3
@[simp] theorem add_sb (l m : List Dt) (h1 : l.all Dt.isIm = true) (h2 : m.all Dt.isIm = true) (h3 : l.length + m.length ≤ 16777216) : addH [.s (.lst l), .b (.lst m)] = .ok (.o (.lst (l ++ m))) := add_l _ _ _ _ rfl rfl h1 h2 h3
/-! places -/
def atO (a : Vl) : Option Dt → R Vl
  | some d => .ok (a.sub d)
  | none => .no
@[simp] theorem atO_some (a : Vl) (d : Dt) : atO a (some d) = .ok (a.sub d) := (rfl)
theorem ix_lb (l : List Dt) (i : Int) : ixH [.b (.lst l), vI i] = atO (.b (.lst l)) (L2.atI l i) := by rw [ix_b]; cases L2.atI l i <;> rfl
theorem ix_lo (l : List Dt) (i : Int) : ixH [.o (.lst l), vI i] = atO (.o (.lst l)) (L2.atI l i) := by rw [ix_o]; cases L2.atI l i <;> rfl
theorem ix_ls (l : List Dt) (i : Int) : ixH [.s (.lst l), vI i] = atO (.s (.lst l)) (L2.atI l i) := by rw [ix_s]; cases L2.atI l i <;> rfl
theorem ix_d (a : Vl) (t : Bool) (l : List (Im × Dt)) (k : Im) (h : a.d = .dic t l) : ixH [a, .o (.im k)] = if fits t k = true then atO a (look l k) else .no := by
  have e : ∀ r, altH ixT (altH ixL ixS) [a, .o (.im k)] = .ok r → False := by
    intro r; cases a <;> simp only [Vl.d] at h <;> subst h <;> cases k <;> simp [altH, ixT, ixL, ixS, Vl.d]
  have : ixH [a, .o (.im k)] = ixD [a, .o (.im k)] := by
    unfold ixH altH
    split
    · rename_i r q; exact (e r q).elim
    · rfl
  rw [this]; simp only [ixD, h]
  split
  · cases look l k <;> rfl
  · rfl
@[simp] theorem ix_do (t : Bool) (l : List (Im × Dt)) (k : Im) : ixH [.o (.dic t l), .o (.im k)] = if fits t k = true then atO (.o (.dic t l)) (look l k) else .no := ix_d _ _ _ _ rfl
@[simp] theorem ix_ds (t : Bool) (l : List (Im × Dt)) (k : Im) : ixH [.s (.dic t l), .o (.im k)] = if fits t k = true then atO (.s (.dic t l)) (look l k) else .no := ix_d _ _ _ _ rfl
@[simp] theorem ix_db (t : Bool) (l : List (Im × Dt)) (k : Im) : ixH [.b (.dic t l), .o (.im k)] = if fits t k = true then atO (.b (.dic t l)) (look l k) else .no := ix_d _ _ _ _ rfl
@[simp] theorem fits_i (i : Int) : fits false (.int i) = true := (rfl)
@[simp] theorem keysOf_nil : keysOf [] = some [] := (rfl)
@[simp] theorem keysOf_i (i : Int) (r : List Im) : keysOf (.int i :: r) = (keysOf r).map (Sum.inl i :: ·) := by
  rw [keysOf]; cases keysOf r <;> rfl
@[simp] theorem keysOf_ints {α : Type} (l : List α) (f : α → Int) : (keysOf (l.map fun x => .int (f x))).isSome = true := by
  induction l with
  | nil => rfl
  | cons a r ih => rw [List.map_cons, keysOf_i]; simpa using ih
@[simp] theorem fits_t (l : List Im) : fits true (.tup l) = (keysOf l).isSome := (rfl)
@[simp] theorem atN {α : Type} (l : List α) (i : Nat) (h : i < l.length) : L2.atI l (i : Int) = some (l[i]'h) := by
  rw [at_nat l i h, List.getElem?_eq_getElem h]
@[simp] theorem ixN_nat (n i : Nat) (h : i < n) : L2.ixN n (i : Int) = some i := by
  unfold L2.ixN
  rw [if_pos (by omega), if_pos (by omega)]
  simp
@[simp] theorem ixN0 (n : Nat) (h : 0 < n) : L2.ixN n 0 = some 0 := ixN_nat n 0 h
@[simp] theorem ixN1 (n : Nat) (h : 1 < n) : L2.ixN n 1 = some 1 := ixN_nat n 1 h
@[simp] theorem ixN2 (n : Nat) (h : 2 < n) : L2.ixN n 2 = some 2 := ixN_nat n 2 h
@[simp] theorem ixN3 (n : Nat) (h : 3 < n) : L2.ixN n 3 = some 3 := ixN_nat n 3 h
/-! in a dict -/
theorem in_d (a : Vl) (t neg : Bool) (l : List (Im × Dt)) (k : Im) (h : a.d = .dic t l) : inH neg [.o (.im k), a] = if fits t k = true then .ok (vB (if neg then !(look l k).isSome else (look l k).isSome)) else .no := by
  have e : ∀ r, altH (inSeq neg) (inStr neg) [.o (.im k), a] = .ok r → False := by
    intro r; cases a <;> simp only [Vl.d] at h <;> subst h <;> cases k <;> simp [altH, inSeq, inStr, Vl.d, itemsOf]
  have : inH neg [.o (.im k), a] = inD neg [.o (.im k), a] := by
    unfold inH; unfold altH
    split
    · rename_i r q; exact (e r q).elim
    · rfl
  rw [this]; simp only [inD, h]
@[simp] theorem in_do (t neg : Bool) (l : List (Im × Dt)) (k : Im) : inH neg [.o (.im k), .o (.dic t l)] = if fits t k = true then .ok (vB (if neg then !(look l k).isSome else (look l k).isSome)) else .no := in_d _ _ _ _ _ rfl
@[simp] theorem in_ds (t neg : Bool) (l : List (Im × Dt)) (k : Im) : inH neg [.o (.im k), .s (.dic t l)] = if fits t k = true then .ok (vB (if neg then !(look l k).isSome else (look l k).isSome)) else .no := in_d _ _ _ _ _ rfl
@[simp] theorem in_db (t neg : Bool) (l : List (Im × Dt)) (k : Im) : inH neg [.o (.im k), .b (.dic t l)] = if fits t k = true then .ok (vB (if neg then !(look l k).isSome else (look l k).isSome)) else .no := in_d _ _ _ _ _ rfl
end Wv

set_option Elab.async false
set_option linter.all false
set_option maxRecDepth 100000
namespace Wv
open PySem
/-! two generators -/
def lc2E (own1 : List Nat) (p : Vl × Ev) : R (Option Dt × Ev) := lcE own1 p
theorem lc2I_cons (own1 : List Nat) (t : Tgt) (T : Ft) (f : Fe) (it : Itm) (r : List Itm) (ρ : Ev) (acc : List Dt) (hl : acc.length < 16777216) :
    lc2I own1 t T f (it :: r) ρ acc = (lcS false own1 t T f it ρ).bind fun q => lc2I own1 t T f r q.2 (acc ++ q.1.toList) := by
  have hl' : acc.length < SZ := by rw [SZ_nat]; exact hl
  show ((tgM false t it ρ).bind _) = ((tgM false t it ρ).bind _).bind _
  cases tgM false t it ρ with
  | ok ρa =>
    simp only [R.bind_ok, lcG]
    cases T ρa with
    | ok b =>
      obtain ⟨b, ρb⟩ := b
      simp only [R.bind_ok, lcT]
      cases b with
      | false => simp
      | true =>
        simp only [if_true]
        cases f ρb with
        | ok p =>
          obtain ⟨p, ρc⟩ := p
          simp only [R.bind_ok, lcE]
          cases p with
          | o d => simp only [hl', if_true]; rfl
          | s d => rfl
          | b d => rfl
        | ex => rfl
        | no => rfl
    | ex => rfl
    | no => rfl
  | ex => rfl
  | no => rfl
theorem lc2I_pure {α : Type} {enc : α → Itm} {xs : List α} {own : List Nat} {t : Tgt} {T : Ft} {f : Fe} {ρ : Ev} {acc : List Dt} (p : α → Bool) (g : α → Dt) (hl : acc.length + xs.length ≤ 16777216)
    (h : ∀ x ∈ xs, lcS false own t T f (enc x) ρ = .ok (if p x = true then some (g x) else none, ρ)) : lc2I own t T f (xs.map enc) ρ acc = .ok (acc ++ (xs.filter p).map g, ρ) := by
  induction xs generalizing acc with
  | nil => simp [lc2I]
  | cons x r ih =>
    simp only [List.length_cons] at hl
    rw [List.map_cons, lc2I_cons _ _ _ _ _ _ _ _ (by omega), h x List.mem_cons_self, R.bind_ok]
    by_cases c : p x = true
    · simp only [c, if_true]
      rw [ih (by simp; omega) fun y hy => h y (List.mem_cons_of_mem _ hy)]
      simp [c]
    · simp only [c]
      rw [ih (by simp; omega) fun y hy => h y (List.mem_cons_of_mem _ hy)]
      simp [c]
def lc2R (own : List Nat) (p : List Dt × Ev) : R (List Dt × Ev) := .ok (p.1, wipeE own p.2)
def lc2Z (own own1 : List Nat) (t1 : Tgt) (T1 : Ft) (f : Fe) (acc : List Dt) (z : Zi) : R (List Dt × Ev) := if z.2.1.isEmpty = true then (lc2I own1 t1 T1 f z.1 (wipeE own1 z.2.2) acc).bind (lc2R own) else .no
def lc2T (own own1 : List Nat) (src1 : Fi) (t1 : Tgt) (T1 : Ft) (f : Fe) (acc : List Dt) (b : Bool × Ev) : R (List Dt × Ev) := if b.1 = true then (src1 b.2).bind (lc2Z own own1 t1 T1 f acc) else .ok (acc, wipeE own b.2)
def lc2G (own own1 : List Nat) (T : Ft) (src1 : Fi) (t1 : Tgt) (T1 : Ft) (f : Fe) (acc : List Dt) (ρ : Ev) : R (List Dt × Ev) := (T ρ).bind (lc2T own own1 src1 t1 T1 f acc)
def lc2S (l : Bool) (own own1 : List Nat) (t : Tgt) (T : Ft) (src1 : Fi) (t1 : Tgt) (T1 : Ft) (f : Fe) (it : Itm) (ρ : Ev) (acc : List Dt) : R (List Dt × Ev) := (tgM l t it ρ).bind (lc2G own own1 T src1 t1 T1 f acc)
@[simp] theorem lc2S_ap (l : Bool) (own own1 : List Nat) (t : Tgt) (T : Ft) (src1 : Fi) (t1 : Tgt) (T1 : Ft) (f : Fe) (it : Itm) (ρ : Ev) (acc : List Dt) : lc2S l own own1 t T src1 t1 T1 f it ρ acc = (tgM l t it ρ).bind (lc2G own own1 T src1 t1 T1 f acc) := (rfl)
@[simp] theorem lc2G_ap (own own1 : List Nat) (T : Ft) (src1 : Fi) (t1 : Tgt) (T1 : Ft) (f : Fe) (acc : List Dt) (ρ : Ev) : lc2G own own1 T src1 t1 T1 f acc ρ = (T ρ).bind (lc2T own own1 src1 t1 T1 f acc) := (rfl)
@[simp] theorem lc2T_ap (own own1 : List Nat) (src1 : Fi) (t1 : Tgt) (T1 : Ft) (f : Fe) (acc : List Dt) (b : Bool) (ρ : Ev) : lc2T own own1 src1 t1 T1 f acc (b, ρ) = if b = true then (src1 ρ).bind (lc2Z own own1 t1 T1 f acc) else .ok (acc, wipeE own ρ) := (rfl)
@[simp] theorem lc2Z_ap (own own1 : List Nat) (t1 : Tgt) (T1 : Ft) (f : Fe) (acc : List Dt) (l : List Itm) (ρ : Ev) : lc2Z own own1 t1 T1 f acc (l, [], ρ) = (lc2I own1 t1 T1 f l (wipeE own1 ρ) acc).bind (lc2R own) := (rfl)
@[simp] theorem lc2R_ap (own : List Nat) (p : List Dt × Ev) : lc2R own p = .ok (p.1, wipeE own p.2) := (rfl)
theorem lc2L_cons (l : Bool) (own own1 : List Nat) (t : Tgt) (T : Ft) (src1 : Fi) (t1 : Tgt) (T1 : Ft) (f : Fe) (it : Itm) (r : List Itm) (ρ : Ev) (acc : List Dt) :
    lc2L l own own1 t T src1 t1 T1 f (it :: r) ρ acc = (lc2S l own own1 t T src1 t1 T1 f it ρ acc).bind fun q => lc2L l own own1 t T src1 t1 T1 f r q.2 q.1 := by
  show ((tgM l t it ρ).bind _) = ((tgM l t it ρ).bind _).bind _
  cases tgM l t it ρ with
  | ok ρa =>
    simp only [R.bind_ok, lc2G]
    cases T ρa with
    | ok b =>
      obtain ⟨b, ρb⟩ := b
      simp only [R.bind_ok, lc2T]
      cases b with
      | false => simp
      | true =>
        simp only [if_true]
        cases src1 ρb with
        | ok z =>
          simp only [R.bind_ok, lc2Z]
          split
          · simp only [bind_bind]; congr
          · rfl
        | ex => rfl
        | no => rfl
    | ex => rfl
    | no => rfl
  | ex => rfl
  | no => rfl
theorem lc2L_pure {α : Type} {enc : α → Itm} {xs : List α} {l : Bool} {own own1 : List Nat} {t : Tgt} {T : Ft} {src1 : Fi} {t1 : Tgt} {T1 : Ft} {f : Fe} {ρ : Ev} {acc : List Dt} (out : α → List Dt) (B : Nat) (hl : acc.length + (xs.flatMap out).length ≤ B)
    (h : ∀ x ∈ xs, ∀ acc : List Dt, acc.length + (out x).length ≤ B → lc2S l own own1 t T src1 t1 T1 f (enc x) ρ acc = .ok (acc ++ out x, ρ)) :
    lc2L l own own1 t T src1 t1 T1 f (xs.map enc) ρ acc = .ok (acc ++ xs.flatMap out, ρ) := by
  induction xs generalizing acc with
  | nil => simp [lc2L]
  | cons x r ih =>
    rw [List.flatMap_cons, List.length_append] at hl
    rw [List.map_cons, lc2L_cons, h x List.mem_cons_self _ (by omega), R.bind_ok, ih (by rw [List.length_append]; omega) fun y hy => h y (List.mem_cons_of_mem _ hy)]
    simp [List.append_assoc]
def lc2K (own own1 : List Nat) (t : Tgt) (T : Ft) (src1 : Fi) (t1 : Tgt) (T1 : Ft) (f : Fe) (z : Zi) : R (Vl × Ev) := (lc2L (!z.2.1.isEmpty) own own1 t T src1 t1 T1 f z.1 (wipeE own (lockE z.2.1 z.2.2)) []).bind (lcR own z.2.1 z.2.2)
@[simp] theorem lc2M_ap (own own1 : List Nat) (src : Fi) (t : Tgt) (T : Ft) (src1 : Fi) (t1 : Tgt) (T1 : Ft) (f : Fe) (ρ : Ev) : lc2M own own1 src t T src1 t1 T1 f ρ = (src ρ).bind (lc2K own own1 t T src1 t1 T1 f) := (rfl)
@[simp] theorem lc2K_ap (own own1 : List Nat) (t : Tgt) (T : Ft) (src1 : Fi) (t1 : Tgt) (T1 : Ft) (f : Fe) (l : List Itm) (xs : List Nat) (ρ : Ev) : lc2K own own1 t T src1 t1 T1 f (l, xs, ρ) = (lc2L (!xs.isEmpty) own own1 t T src1 t1 T1 f l (wipeE own (lockE xs ρ)) []).bind (lcR own xs ρ) := (rfl)
/-! sorted, best -/
def colO (o : Option (List Im)) : R Vl := match o with
    | some l => if okS l = true then .ok (.o (.lst ((srtI l).map .im))) else .no
    | none => .no
@[simp] theorem sortedH_ap (a : Vl) : sortedH [a] = colO (colOf a.d) := (rfl)
@[simp] theorem colO_ap (l : List Im) (h : okS l = true) : colO (some l) = .ok (.o (.lst ((srtI l).map .im))) := by simp [colO, h]
@[simp] theorem colOf_l (l : List Dt) : colOf (.lst l) = dimOf l := (rfl)
@[simp] theorem colOf_t (l : List Im) : colOf (.im (.tup l)) = some l := (rfl)
@[simp] theorem colOf_d (t : Bool) (l : List (Im × Dt)) : colOf (.dic t l) = some (l.map (·.1)) := (rfl)
def bestO (mx : Bool) (o : Option (List Im)) : R Vl := match o with
    | some (i :: l) => if okS (i :: l) = true then .ok (.o (.im (bestI mx i l))) else .no
    | _ => .no
@[simp] theorem bestH_ap (mx : Bool) (a : Vl) : bestH mx [a] = bestO mx (imsIn a.d) := (rfl)
@[simp] theorem imsIn_l (l : List Dt) : imsIn (.lst l) = dimOf l := (rfl)
@[simp] theorem imsIn_t (l : List Im) : imsIn (.im (.tup l)) = some l := (rfl)
@[simp] theorem bestO_ap (mx : Bool) (i : Im) (l : List Im) (h : okS (i :: l) = true) : bestO mx (some (i :: l)) = .ok (.o (.im (bestI mx i l))) := by simp [bestO, h]
theorem best2 (mx : Bool) (a b : Int) : bestI mx (.int a) [.int b] = .int (if mx then (if a < b then b else a) else (if b < a then b else a)) := by
  have e1 : ltI (.int a) (.int b) = decide (a < b) := lexI_one
  have e2 : ltI (.int b) (.int a) = decide (b < a) := lexI_one
  cases mx
  · simp only [bestI, List.foldl, e2, decide_eq_true_eq]
    by_cases h : b < a <;> simp [h]
  · simp only [bestI, List.foldl, e1, decide_eq_true_eq]
    by_cases h : a < b <;> simp [h]
/-! sums, any, all -/
@[simp] theorem imInts_nil : imInts [] = some [] := (rfl)
@[simp] theorem imInts_cons (i : Int) (r : List Im) : imInts (.int i :: r) = (imInts r).map (i :: ·) := (rfl)
@[simp] theorem imInts_map {α : Type} (l : List α) (f : α → Int) : imInts (l.map fun x => .int (f x)) = some (l.map f) := by
  induction l with
  | nil => rfl
  | cons a r ih => simp [ih]
def sumO (o : Option (List Int)) : R Vl := match o with
    | some ns => .ok (vI ns.sum)
    | none => .no
@[simp] theorem sumH_ap (a : Vl) : sumH [a] = sumO ((imsIn a.d).bind imInts) := (rfl)
@[simp] theorem sumO_ap (ns : List Int) : sumO (some ns) = .ok (vI ns.sum) := (rfl)
@[simp] theorem blsOf_nil : blsOf [] = some [] := (rfl)
@[simp] theorem blsOf_cons (b : Bool) (r : List Dt) : blsOf (.im (.bl b) :: r) = (blsOf r).map (b :: ·) := (rfl)
@[simp] theorem blsOf_map' {α : Type} (l : List α) (f : α → Bool) : blsOf (l.map fun x => .im (.bl (f x))) = some (l.map f) := by
  induction l with
  | nil => rfl
  | cons a r ih => simp [ih]
def anyO (all : Bool) (o : Option (List Bool)) : R Vl := match o with
    | some bs => .ok (vB (if all then bs.all id else bs.any id))
    | none => .no
@[simp] theorem anyH_ap (all : Bool) (a : Vl) : anyH all [a] = anyO all ((lstOf a).bind blsOf) := (rfl)
@[simp] theorem anyO_ap (all : Bool) (bs : List Bool) : anyO all (some bs) = .ok (vB (if all then bs.all id else bs.any id)) := (rfl)
@[simp] theorem lstOf_o (l : List Dt) : lstOf (.o (.lst l)) = some l := (rfl)
@[simp] theorem lstOf_s (l : List Dt) : lstOf (.s (.lst l)) = some l := (rfl)
@[simp] theorem lstOf_b (l : List Dt) : lstOf (.b (.lst l)) = some l := (rfl)
/-! isinstance -/
def isiO (T : String) (o : Option String) : R Vl := match o with
    | some t => .ok (vB (isSub t T))
    | none => .no
@[simp] theorem isiM_ap (T : String) (f : Fe) (ρ : Ev) : isiM T f ρ = u1M f (isiH T) ρ := (rfl)
@[simp] theorem isiH_ap (T : String) (a : Vl) : isiH T [a] = isiO T (tyName a.d) := (rfl)
@[simp] theorem isiO_ap (T t : String) : isiO T (some t) = .ok (vB (isSub t T)) := (rfl)
@[simp] theorem tyName_non : tyName (.im .non) = some "NoneType" := (rfl)
@[simp] theorem tyName_bl (b : Bool) : tyName (.im (.bl b)) = some "bool" := (rfl)
@[simp] theorem tyName_int (b : Int) : tyName (.im (.int b)) = some "int" := (rfl)
@[simp] theorem tyName_str (b : Str) : tyName (.im (.str b)) = some "str" := (rfl)
@[simp] theorem tyName_tup (b : List Im) : tyName (.im (.tup b)) = some "tuple" := (rfl)
@[simp] theorem tyName_lst (b : List Dt) : tyName (.lst b) = some "list" := (rfl)
@[simp] theorem isSub_ap (a b : String) : isSub a b = (a == b || (a == "bool" && b == "int")) := (rfl)
/-! slices -/
@[simp] theorem slLH_ap (a : Vl) (i : Int) : slLH [a, .o (.im (.int i))] = slOf (some i) none a := (rfl)
@[simp] theorem slUH_ap (a : Vl) (i : Int) : slUH [a, .o (.im (.int i))] = slOf none (some i) a := (rfl)
@[simp] theorem slBH_ap (a : Vl) (i j : Int) : slBH [a, .o (.im (.int i)), .o (.im (.int j))] = slOf (some i) (some j) a := (rfl)
@[simp] theorem slNH_ap (a : Vl) : slNH [a] = slOf none none a := (rfl)
@[simp] theorem slOf_t (lo hi : Option Int) (l : List Im) : slOf lo hi (.o (.im (.tup l))) = .ok (.o (.im (.tup (cutL l lo hi)))) := (rfl)
theorem slOf_l (lo hi : Option Int) (a : Vl) (l : List Dt) (ha : a.d = .lst l) (h : l.all Dt.isIm = true) : slOf lo hi a = .ok (.o (.lst (cutL l lo hi))) := by
  unfold slOf; rw [ha]; simp only [h, if_true]
@[simp] theorem slOf_ol (lo hi : Option Int) (l : List Dt) (h : l.all Dt.isIm = true) : slOf lo hi (.o (.lst l)) = .ok (.o (.lst (cutL l lo hi))) := slOf_l _ _ _ _ rfl h
@[simp] theorem slOf_sl (lo hi : Option Int) (l : List Dt) (h : l.all Dt.isIm = true) : slOf lo hi (.s (.lst l)) = .ok (.o (.lst (cutL l lo hi))) := slOf_l _ _ _ _ rfl h
@[simp] theorem slOf_bl (lo hi : Option Int) (l : List Dt) (h : l.all Dt.isIm = true) : slOf lo hi (.b (.lst l)) = .ok (.o (.lst (cutL l lo hi))) := slOf_l _ _ _ _ rfl h
theorem cut_lo {α : Type} (l : List α) (i : Nat) : cutL l (some (i : Int)) none = l.drop i := by
  unfold cutL
  rw [HT.sIx_nat, HT.sIx_none]
  by_cases h : i ≤ l.length
  · rw [Nat.min_eq_left h, List.take_of_length_le (by simp)]
  · rw [Nat.min_eq_right (by omega), List.drop_eq_nil_of_le (as := l) (i := i) (by omega)]; simp
theorem cut_hi {α : Type} (l : List α) (i : Nat) : cutL l none (some (i : Int)) = l.take i := by
  unfold cutL
  rw [HT.sIx_nat, HT.sIx_none]
  by_cases h : i ≤ l.length
  · rw [Nat.min_eq_left h]; simp
  · rw [Nat.min_eq_right (by omega), List.take_of_length_le (i := i) (by omega)]; simp
theorem cut_no {α : Type} (l : List α) : cutL l none none = l := by
  unfold cutL; rw [HT.sIx_none, HT.sIx_none]; simp
theorem cut_lh {α : Type} (l : List α) (i j : Nat) : cutL l (some (i : Int)) (some (j : Int)) = (l.drop i).take (j - i) := by
  unfold cutL
  rw [HT.sIx_nat, HT.sIx_nat]
  by_cases h : i ≤ l.length
  · rw [Nat.min_eq_left h]
    by_cases k : j ≤ l.length
    · rw [Nat.min_eq_left k]
    · rw [Nat.min_eq_right (by omega), List.take_of_length_le (i := j - i) (by simp; omega), List.take_of_length_le (by simp)]
  · have : min i l.length = l.length := Nat.min_eq_right (by omega)
    rw [this, List.drop_eq_nil_of_le (as := l) (i := i) (by omega)]; simp
@[simp] theorem cut_1 {α : Type} (l : List α) : cutL l (some 1) none = l.drop 1 := cut_lo l 1
@[simp] theorem cut_u1 {α : Type} (l : List α) : cutL l none (some 1) = l.take 1 := cut_hi l 1
/-! reversed -/
def revD (a : Vl) : R Vl := match a.d with
    | .lst l => if l.all Dt.isIm = true then .ok (.o (.lst l.reverse)) else .no
    | .im (.tup l) => .ok (.o (.im (.tup l.reverse)))
    | _ => .no
@[simp] theorem revAH_t (l : List Im) : revAH [.o (.im (.tup l))] = .ok (.o (.im (.tup l.reverse))) := (rfl)
theorem revAH_l (a : Vl) (l : List Dt) (ha : a.d = .lst l) (h : l.all Dt.isIm = true) : revAH [a] = .ok (.o (.lst l.reverse)) := by
  unfold revAH altH revH; simp only [ha, h, if_true]
@[simp] theorem revAH_ol (l : List Dt) (h : l.all Dt.isIm = true) : revAH [.o (.lst l)] = .ok (.o (.lst l.reverse)) := revAH_l _ _ rfl h
@[simp] theorem revAH_sl (l : List Dt) (h : l.all Dt.isIm = true) : revAH [.s (.lst l)] = .ok (.o (.lst l.reverse)) := revAH_l _ _ rfl h
@[simp] theorem revAH_bl (l : List Dt) (h : l.all Dt.isIm = true) : revAH [.b (.lst l)] = .ok (.o (.lst l.reverse)) := revAH_l _ _ rfl h
/-! ranges as values -/
theorem rgI_nat (n : Nat) : rgI 0 n = (List.range n).map fun k => .int (k : Nat) := by simp [rgI]
theorem rgI_nat2 (m n : Nat) : rgI m n = (List.range (n - m)).map fun k => .int ((m + k : Nat) : Int) := by
  unfold rgI
  have : ((n : Int) - (m : Int)).toNat = n - m := by omega
  rw [this]; simp
theorem rgB_nat (m n : Nat) (h : m ≤ 16777216) (k : n ≤ 16777216) : rgB m n = true := by
  unfold rgB
  have e : (2 : Int) ^ 62 = 4611686018427387904 := by decide
  rw [e]; simp; omega
theorem rg1H_nat (tup : Bool) (n : Nat) (h : n ≤ 16777216) : rg1H tup [.o (.im (.int n))] = .ok (.o (if tup then .im (.tup ((List.range n).map fun k => .int (k : Nat))) else .lst (((List.range n).map fun k => .int (k : Nat)).map .im))) := by
  have := rgB_nat 0 n (by decide) h
  simp only [rg1H, rgMk]
  rw [if_pos (by simpa using this), rgI_nat]
theorem rg2H_nat (tup : Bool) (m n : Nat) (h : m ≤ 16777216) (k : n ≤ 16777216) : rg2H tup [.o (.im (.int m)), .o (.im (.int n))] = .ok (.o (if tup then .im (.tup ((List.range (n - m)).map fun k => .int ((m + k : Nat) : Int))) else .lst (((List.range (n - m)).map fun k => .int ((m + k : Nat) : Int)).map .im))) := by
  simp only [rg2H, rgMk]
  rw [if_pos (rgB_nat m n h k), rgI_nat2]
/-! pairs that are walked together -/
@[simp] theorem enItems_ap (l : List Dt) : enItems l = l.zipIdx.map fun p => .two (.im (.int (p.2 : Nat))) p.1 := (rfl)
@[simp] theorem zpItems_ap (l m : List Dt) : zpItems l m = (l.zip m).map fun p => .two p.1 p.2 := (rfl)
end Wv

set_option Elab.async false
set_option linter.all false
set_option maxRecDepth 100000
namespace Wv
open PySem
/-! a dict of one; update -/
def dp1R (k : Vl) (q : Vl × Ev) : R (Vl × Ev) := match k, q.1 with
  | .o (.im k), .o (.im d) => if fits false k = true then .ok (.o (.dic false [(k, .im d)]), q.2) else .no
  | _, _ => .no
def dp1K (g : Fe) (p : Vl × Ev) : R (Vl × Ev) := (g p.2).bind (dp1R p.1)
@[simp] theorem disp1D_ap (f g : Fe) (ρ : Ev) : disp1D f g ρ = (f ρ).bind (dp1K g) := (rfl)
@[simp] theorem dp1K_ap (g : Fe) (r : Vl) (ρ : Ev) : dp1K g (r, ρ) = (g ρ).bind (dp1R r) := (rfl)
@[simp] theorem dp1R_ap (k d : Im) (ρ : Ev) (h : fits false k = true) : dp1R (.o (.im k)) (.o (.im d), ρ) = .ok (.o (.dic false [(k, .im d)]), ρ) := by
  simp [dp1R, h]
@[simp] theorem updH_s (l m : List (Im × Dt)) (h : allIm m = true) (hl : l.length + m.length ≤ 16777216) : updH (.dic false l) [.s (.dic false m)] = .ok (.dic false (putAll l m), vN) := by
  simp only [updH, d_s, isB_s, h, SZ_nat, hl, and_self, if_true]
end Wv

set_option Elab.async false
set_option linter.all false
set_option maxRecDepth 100000
namespace Wv
open PySem
theorem mul_rep (a : Vl) (x : List Dt) (k : Int) (ha : a.d = .lst x) (h : x.all Dt.isIm = true) (h1 : -16777216 ≤ k) (h2 : k ≤ 16777216) (h3 : x.length * k.toNat ≤ 16777216) : mulH [a, .o (.im (.int k))] = .ok (.o (.lst (List.replicate k.toNat x).flatten)) := by
  have e1 : mulI [a, .o (.im (.int k))] = .no := by
    cases a <;> simp only [Vl.d] at ha <;> subst ha <;> rfl
  unfold mulH altH
  rw [e1]
  have e2 : (2 : Int) ^ 63 = 9223372036854775808 := by decide
  have c : (x.all Dt.isIm && decide (-(2 ^ 63) ≤ k) && decide (k < 2 ^ 63) && decide (x.length * k.toNat ≤ SZ)) = true := by
    rw [h, e2, SZ_nat]; simp; omega
  simp only [lstRep, ha, c, if_true]
@[simp] theorem mul_rep1 (d : Im) (n : Nat) (h : n ≤ 16777216) : mulH [.o (.lst [.im d]), .o (.im (.int n))] = .ok (.o (.lst (List.replicate n (.im d)))) := by
  rw [mul_rep _ [.im d] n rfl rfl (by omega) (by omega) (by simp; omega)]
  simp
end Wv

set_option Elab.async false
set_option linter.all false
set_option maxRecDepth 100000
namespace Wl
open Wv PySem
/-! _law_draws: 0 script -/
def fs__law_draws : Fs := (seqM (retM (naM (acM true (naM (acM true (rdM 0) anM) listH) (acM true (kM (.int 0)) (acM true (kM (.int 0)) (acM true (kM (.int 1)) anM)))) lstH))
  nxM)
def φ__law_draws : Fn := defM [] 0 fs__law_draws
/-! _law_draw: 0 draws, 1 limit, 2 cell, 3 value -/
def fs__law_draw : Fs := (seqM (ifS (andT (tbM (b2M true (b2M true (rdM 0) (kM (.int 2)) ixH) (kM (.int 0)) eqH)) (tbM (b2M true (b2M true (rdM 0) (kM (.int 1)) ixH) (naM (acM true (b2M true (rdM 0) (kM (.int 0)) ixH) anM) lenH) ltH))) (seqM (setM 2 (b2M true (b2M true (rdM 0) (kM (.int 0)) ixH) (b2M true (rdM 0) (kM (.int 1)) ixH) ixH))
  (seqM (stoM 0 (plM 0) (kM (.int 1)) (b2M true (b2M true (rdM 0) (kM (.int 1)) ixH) (kM (.int 1)) addH) setH)
  (seqM (ifS (tbM (b2M true (rdM 2) (b2M true (kM (.int 10)) (kM (.int 18)) powH) geH)) (seqM (stoM 0 (plM 0) (kM (.int 2)) (rdM 2) setH)
  nxM) nxM)
  (seqM (stoM 0 (plM 0) (kM (.int 3)) (b2M true (naM (acM true (b2M true (b2M true (b2M true (b2M true (rdM 0) (kM (.int 3)) ixH) (kM (.int 48271)) mulH) (rdM 2) addH) (kM (.int 13)) addH) anM) intH) (kM (.int 2147483647)) modH) setH)
  nxM)))) nxM)
  (seqM (ifS (tbM (b2M true (b2M true (rdM 0) (kM (.int 2)) ixH) (kM (.int 0)) gtH)) (seqM (setM 3 (b2M true (naM (acM true (b2M true (rdM 0) (kM (.int 2)) ixH) anM) intH) (rdM 1) modH))
  (seqM (stoM 0 (plM 0) (kM (.int 2)) (b2M true (b2M true (rdM 0) (kM (.int 2)) ixH) (rdM 1) fdivH) setH)
  (seqM (retM (mvM 3))
  nxM))) nxM)
  (seqM (stoM 0 (plM 0) (kM (.int 3)) (b2M true (naM (acM true (b2M true (b2M true (b2M true (rdM 0) (kM (.int 3)) ixH) (kM (.int 69621)) mulH) (kM (.int 7)) addH) anM) intH) (kM (.int 2147483629)) modH) setH)
  (seqM (retM (b2M true (naM (acM true (b2M true (b2M true (rdM 0) (kM (.int 3)) ixH) (kM (.int 11)) fdivH) anM) intH) (rdM 1) modH))
  nxM))))
def φ__law_draw : Fn := defM [0] 2 fs__law_draw
/-! _law_pairs: 0 count, 1 found, 2 a, 3 b -/
def fs__law_pairs : Fs := (seqM (setM 1 (naM anM lstH))
  (seqM (forM (range1M (acM true (rdM 0) anM)) (.nm 2) (seqM (setM 1 (b2M true (rdM 1) (lcM [3] (range2M (acM true (b2M true (rdM 2) (kM (.int 1)) addH) (acM true (rdM 0) anM))) (.nm 3) yesT (naM (acM true (rdM 2) (acM true (rdM 3) anM)) tupH)) addH))
  nxM))
  (seqM (retM (mvM 1))
  nxM)))
def φ__law_pairs : Fn := defM [] 3 fs__law_pairs
/-! _law_made: 0 count, 1 pairs, 2 found, 3 a, 4 b -/
def fs__law_made : Fs := (seqM (setM 2 (dic0M true))
  (seqM (forM (seM (fzM 1)) (.tp [3, 4]) (seqM (ifS (tbM (b2M true (rdM 3) (rdM 4) neH)) (seqM (stoM 2 (plM 2) (naM (acM true (naM (acM true (rdM 3) (acM true (rdM 4) anM)) min2H) (acM true (naM (acM true (rdM 3) (acM true (rdM 4) anM)) max2H) anM)) tupH) (kM (.bl true)) setH)
  nxM) nxM)
  nxM))
  (seqM (retM (naM (acM true (rdM 0) (acM true (naM (acM true (naM (acM true (rdM 2) anM) sortedH) anM) tupleH) anM)) tupH))
  nxM)))
def φ__law_made : Fn := defM [] 3 fs__law_made
/-! _law_web: 0 draws, 1 least, 2 most, 3 count, 4 way, 5 pairs, 6 thick, 7 extra, 8 side, 9 pair, 10 k, 11 a, 12 b -/
def fs__law_web : Fs := (seqM (setM 3 (b2M false (rdM 1) (callM 2 [0] φ__law_draw (cyM 0 (cvM true (b2M true (b2M true (rdM 2) (rdM 1) subH) (kM (.int 1)) addH) cnM))) addH))
  (seqM (setM 4 (callM 2 [0] φ__law_draw (cyM 0 (cvM true (kM (.int 8)) cnM))))
  (seqM (setM 5 (callM 1 [] φ__law_pairs (cyM 3 cnM)))
  (seqM (ifS (tbM (b2M true (rdM 4) (kM (.int 0)) eqH)) (seqM (retM (callM 2 [] φ__law_made (cyM 3 (cvM true (lcM [10] (range2M (acM true (kM (.int 1)) (acM true (rdM 3) anM))) (.nm 10) yesT (naM (acM false (rdM 10) (acM true (callM 2 [0] φ__law_draw (cyM 0 (cyM 10 cnM))) anM)) tupH)) cnM))))
  nxM) nxM)
  (seqM (ifS (andT (tbM (b2M true (rdM 4) (kM (.int 1)) eqH)) (tbM (b2M true (rdM 3) (kM (.int 2)) gtH))) (seqM (setM 7 (lcM [9] (slM 5) (.nm 9) (tbM (b2M true (callM 2 [0] φ__law_draw (cyM 0 (cvM true (kM (.int 5)) cnM))) (kM (.int 0)) eqH)) (rdM 9)))
  (seqM (retM (callM 2 [] φ__law_made (cyM 3 (cvM true (b2M true (b2M true (lcM [10] (range1M (acM true (b2M true (rdM 3) (kM (.int 1)) subH) anM)) (.nm 10) yesT (naM (acM true (rdM 10) (acM true (b2M true (rdM 10) (kM (.int 1)) addH) anM)) tupH)) (naM (acM true (naM (acM true (kM (.int 0)) (acM true (b2M true (rdM 3) (kM (.int 1)) subH) anM)) tupH) anM) lstH) addH) (rdM 7) addH) cnM))))
  nxM)) nxM)
  (seqM (ifS (tbM (b2M true (rdM 4) (kM (.int 2)) eqH)) (seqM (setM 8 (lcM [10] (range1M (acM true (rdM 3) anM)) (.nm 10) yesT (callM 2 [0] φ__law_draw (cyM 0 (cvM true (kM (.int 2)) cnM)))))
  (seqM (retM (callM 2 [] φ__law_made (cyM 3 (cvM true (lcM [11, 12] (slM 5) (.tp [11, 12]) (andT (tbM (b2M true (b2M true (rdM 8) (rdM 11) ixH) (b2M true (rdM 8) (rdM 12) ixH) neH)) (tbM (b2M true (callM 2 [0] φ__law_draw (cyM 0 (cvM true (kM (.int 3)) cnM))) (kM (.int 0)) gtH))) (naM (acM true (rdM 11) (acM true (rdM 12) anM)) tupH)) cnM))))
  nxM)) nxM)
  (seqM (ifS (tbM (b2M true (rdM 4) (kM (.int 3)) eqH)) (seqM (retM (callM 2 [] φ__law_made (cyM 3 (cvM true (lcM [9] (slM 5) (.nm 9) (tbM (b2M true (callM 2 [0] φ__law_draw (cyM 0 (cvM true (kM (.int 6)) cnM))) (kM (.int 0)) gtH)) (rdM 9)) cnM))))
  nxM) nxM)
  (seqM (setM 6 (b2M false (kM (.int 2)) (callM 2 [0] φ__law_draw (cyM 0 (cvM true (kM (.int 4)) cnM))) addH))
  (seqM (retM (callM 2 [] φ__law_made (cyM 3 (cvM true (lcM [9] (slM 5) (.nm 9) (tbM (b2M true (callM 2 [0] φ__law_draw (cyM 0 (cyM 6 cnM))) (kM (.int 0)) eqH)) (rdM 9)) cnM))))
  nxM)))))))))
def φ__law_web : Fn := defM [0] 10 fs__law_web
/-! beside: 0 web, 1 other, 2 a, 3 b -/
def fs_beside : Fs := (seqM (retM (naM (acM false (b2M true (b2M true (rdM 0) (kM (.int 0)) ixH) (b2M true (rdM 1) (kM (.int 0)) ixH) addH) (acM true (b2M false (b2M true (rdM 0) (kM (.int 1)) ixH) (naM (acM true (lcM [2, 3] (seM (b2M true (fzM 1) (kM (.int 1)) ixH)) (.tp [2, 3]) yesT (naM (acM true (b2M true (rdM 2) (b2M true (rdM 0) (kM (.int 0)) ixH) addH) (acM true (b2M true (rdM 3) (b2M true (rdM 0) (kM (.int 0)) ixH) addH) anM)) tupH)) anM) tupleH) addH) anM)) tupH))
  nxM)
def φ_beside : Fn := defM [] 2 fs_beside
/-! web_of: 0 count, 1 pairs, 2 found, 3 pair -/
def fs_web_of : Fs := (seqM (setM 2 (dcM true [3] (slM 1) (.nm 3) (tbM (b2M true (b2M true (rdM 3) (kM (.int 0)) ixH) (b2M true (rdM 3) (kM (.int 1)) ixH) neH)) (naM (acM true (naM (acM true (rdM 3) anM) (bestH false)) (acM true (naM (acM true (rdM 3) anM) (bestH true)) anM)) tupH) (kM (.bl true))))
  (seqM (retM (naM (acM true (rdM 0) (acM true (naM (acM true (naM (acM true (rdM 2) anM) sortedH) anM) tupleH) anM)) tupH))
  nxM))
def φ_web_of : Fn := defM [] 2 fs_web_of
/-! all_tied: 0 web, 1 other, 2 both, 3 more, 4 a, 5 b -/
def fs_all_tied : Fs := (seqM (setM 2 (callM 2 [] φ_beside (cyM 0 (cyM 1 cnM))))
  (seqM (setM 3 (lc2M [4, 5] [5] (range1M (acM true (b2M true (rdM 0) (kM (.int 0)) ixH) anM)) (.nm 4) yesT (range1M (acM true (b2M true (rdM 1) (kM (.int 0)) ixH) anM)) (.nm 5) yesT (naM (acM true (rdM 4) (acM true (b2M true (b2M true (rdM 0) (kM (.int 0)) ixH) (rdM 5) addH) anM)) tupH)))
  (seqM (retM (callM 2 [] φ_web_of (cvM true (b2M true (rdM 2) (kM (.int 0)) ixH) (cvM true (b2M true (b2M true (rdM 2) (kM (.int 1)) ixH) (naM (acM true (rdM 3) anM) tupleH) addH) cnM))))
  nxM)))
def φ_all_tied : Fn := defM [] 4 fs_all_tied
/-! _law_pick: 0 draws, 1 row -/
def fs__law_pick : Fs := (seqM (retM (b2M false (fzM 1) (callM 2 [0] φ__law_draw (cyM 0 (cvM true (naM (acM true (rdM 1) anM) lenH) cnM))) ixH))
  nxM)
def φ__law_pick : Fn := defM [0] 0 fs__law_pick
/-! other_web: 0 web, 1 known, 2 rows, 3 pair, 4 a, 5 b -/
def fs_other_web : Fs := (seqM (setM 1 (dcM true [3] (seM (b2M true (fzM 0) (kM (.int 1)) ixH)) (.nm 3) yesT (rdM 3) (kM (.bl true))))
  (seqM (setM 2 (lc2M [4, 5] [5] (range1M (acM true (b2M true (rdM 0) (kM (.int 0)) ixH) anM)) (.nm 4) yesT (range2M (acM true (b2M true (rdM 4) (kM (.int 1)) addH) (acM true (b2M true (rdM 0) (kM (.int 0)) ixH) anM))) (.nm 5) (tbM (b2M true (naM (acM true (rdM 4) (acM true (rdM 5) anM)) tupH) (rdM 1) (inH true))) (naM (acM true (rdM 4) (acM true (rdM 5) anM)) tupH)))
  (seqM (retM (naM (acM true (b2M true (rdM 0) (kM (.int 0)) ixH) (acM true (naM (acM true (rdM 2) anM) tupleH) anM)) tupH))
  nxM)))
def φ_other_web : Fn := defM [] 5 fs_other_web
/-! neighbours: 0 web, 1 found, 2 first, 3 other, 4 _, 5 row -/
def fs_neighbours : Fs := (seqM (setM 1 (lcM [4] (range1M (acM true (b2M true (rdM 0) (kM (.int 0)) ixH) anM)) (.nm 4) yesT (naM anM lstH)))
  (seqM (forM (seM (b2M true (fzM 0) (kM (.int 1)) ixH)) (.tp [2, 3]) (seqM (expM (muM 1 (plixM 1 (plM 1) (rdM 2)) "list" true (acM true (rdM 3) anM) appH))
  (seqM (expM (muM 1 (plixM 1 (plM 1) (rdM 3)) "list" true (acM true (rdM 2) anM) appH))
  nxM)))
  (seqM (retM (lcM [5] (slM 1) (.nm 5) yesT (naM (acM true (rdM 5) anM) sortedH)))
  nxM)))
def φ_neighbours : Fn := defM [] 5 fs_neighbours
/-! degree_row: 0 web, 1 row -/
def fs_degree_row : Fs := (seqM (retM (naM (acM true (lcM [1] (seM (callM 1 [] φ_neighbours (cyM 0 cnM))) (.nm 1) yesT (naM (acM true (rdM 1) anM) lenH)) anM) tupleH))
  nxM)
def φ_degree_row : Fn := defM [] 1 fs_degree_row
/-! part_of: 0 web, 1 places, 2 order, 3 k, 4 place, 5 a, 6 b -/
def fs_part_of : Fs := (seqM (setM 2 (dcM false [3, 4] (enM (fzM 1)) (.tp [3, 4]) yesT (rdM 4) (rdM 3)))
  (seqM (retM (callM 2 [] φ_web_of (cvM false (naM (acM true (rdM 1) anM) lenH) (cvM true (lcM [5, 6] (seM (b2M true (fzM 0) (kM (.int 1)) ixH)) (.tp [5, 6]) (andT (tbM (b2M true (rdM 5) (rdM 2) (inH false))) (tbM (b2M true (rdM 6) (rdM 2) (inH false)))) (naM (acM true (b2M true (rdM 2) (rdM 5) ixH) (acM true (b2M true (rdM 2) (rdM 6) ixH) anM)) tupH)) cnM))))
  nxM))
def φ_part_of : Fn := defM [] 5 fs_part_of
/-! without_place: 0 web, 1 place, 2 one -/
def fs_without_place : Fs := (seqM (retM (callM 2 [] φ_part_of (cyM 0 (cvM true (lcM [2] (range1M (acM true (b2M true (rdM 0) (kM (.int 0)) ixH) anM)) (.nm 2) (tbM (b2M true (rdM 2) (rdM 1) neH)) (rdM 2)) cnM))))
  nxM)
def φ_without_place : Fn := defM [] 1 fs_without_place
/-! components: 0 web, 1 near, 2 seen, 3 found, 4 place, 5 todo, 6 part, 7 one -/
def fs_components : Fs := (seqM (setM 1 (callM 1 [] φ_neighbours (cyM 0 cnM)))
  (seqM (setM 2 (dic0M false))
  (seqM (setM 3 (naM anM lstH))
  (seqM (forM (range1M (acM true (b2M true (rdM 0) (kM (.int 0)) ixH) anM)) (.nm 4) (seqM (ifS (tbM (b2M true (rdM 4) (rdM 2) (inH true))) (seqM (setM 5 (naM (acM true (rdM 4) anM) lstH))
  (seqM (setM 6 (disp1D (rdM 4) (kM (.bl true))))
  (seqM (whM (tbM (b2M true (naM (acM true (rdM 5) anM) lenH) (kM (.int 0)) gtH)) (seqM (forM (seM (b2M false (fzM 1) (muM 5 (plM 5) "list" true anM popH) ixH)) (.nm 7) (seqM (ifS (tbM (b2M true (rdM 7) (rdM 6) (inH true))) (seqM (stoM 6 (plM 6) (rdM 7) (kM (.bl true)) setH)
  (seqM (expM (muM 5 (plM 5) "list" false (acM true (mvM 7) anM) appH))
  nxM)) nxM)
  nxM))
  nxM) FU)
  (seqM (expM (muM 2 (plM 2) "dict" false (acM true (fzM 6) anM) updH))
  (seqM (expM (muM 3 (plM 3) "list" true (acM true (naM (acM true (naM (acM true (rdM 6) anM) sortedH) anM) tupleH) anM) appH))
  nxM))))) nxM)
  nxM))
  (seqM (retM (naM (acM true (rdM 3) anM) tupleH))
  nxM)))))
def φ_components : Fn := defM [] 7 fs_components
/-! without_tie: 0 web, 1 pair, 2 one -/
def fs_without_tie : Fs := (seqM (retM (naM (acM false (b2M true (rdM 0) (kM (.int 0)) ixH) (acM true (naM (acM true (lcM [2] (seM (b2M true (fzM 0) (kM (.int 1)) ixH)) (.nm 2) (tbM (b2M true (rdM 2) (rdM 1) neH)) (rdM 2)) anM) tupleH) anM)) tupH))
  nxM)
def φ_without_tie : Fn := defM [] 1 fs_without_tie
/-! with_tie: 0 web, 1 pair -/
def fs_with_tie : Fs := (seqM (retM (callM 2 [] φ_web_of (cvM true (b2M true (rdM 0) (kM (.int 0)) ixH) (cvM true (b2M true (b2M true (rdM 0) (kM (.int 1)) ixH) (naM (acM true (rdM 1) anM) tupH) addH) cnM))))
  nxM)
def φ_with_tie : Fn := defM [] 0 fs_with_tie
/-! tied: 0 web, 1 first, 2 other -/
def fs_tied : Fs := (seqM (retM (b2M true (naM (acM true (naM (acM true (rdM 1) (acM true (rdM 2) anM)) min2H) (acM true (naM (acM true (rdM 1) (acM true (rdM 2) anM)) max2H) anM)) tupH) (b2M true (rdM 0) (kM (.int 1)) ixH) (inH false)))
  nxM)
def φ_tied : Fn := defM [] 0 fs_tied
/-! is_number: 0 value -/
def fs_is_number : Fs := (seqM (retM (andM (isiM "int" (rdM 0)) (andM (notM (isiM "bool" (rdM 0))) (b2M true (rdM 0) (kM (.int 0)) geH))))
  nxM)
def φ_is_number : Fn := defM [] 0 fs_is_number
/-! is_road: 0 web, 1 row, 2 one, 3 two -/
def fs_is_road : Fs := (seqM (ifS (orT (notT (trM (isiM "tuple" (rdM 1)))) (orT (tbM (b2M true (naM (acM true (rdM 1) anM) lenH) (kM (.int 0)) eqH)) (notT (trM (naM (acM true (lcM [2] (slM 1) (.nm 2) yesT (andM (callM 1 [] φ_is_number (cyM 2 cnM)) (b2M true (rdM 2) (b2M true (rdM 0) (kM (.int 0)) ixH) ltH))) anM) (anyH true)))))) (seqM (retM (kM (.bl false)))
  nxM) nxM)
  (seqM (ifS (tbM (b2M true (naM (acM true (dcM false [2] (slM 1) (.nm 2) yesT (rdM 2) (kM (.bl true))) anM) lenH) (naM (acM true (rdM 1) anM) lenH) neH)) (seqM (retM (kM (.bl false)))
  nxM) nxM)
  (seqM (retM (naM (acM true (lcM [2, 3] (zpM false (fzM 1) (b2M true (fzM 1) (kM (.int 1)) slLH)) (.tp [2, 3]) yesT (callM 3 [] φ_tied (cyM 0 (cyM 2 (cyM 3 cnM))))) anM) (anyH true)))
  nxM)))
def φ_is_road : Fn := defM [] 2 fs_is_road
/-! is_ring: 0 web, 1 row -/
def fs_is_ring : Fs := (seqM (retM (andM (callM 2 [] φ_is_road (cyM 0 (cyM 1 cnM))) (andM (b2M true (naM (acM true (rdM 1) anM) lenH) (kM (.int 2)) gtH) (callM 3 [] φ_tied (cyM 0 (cvM true (b2M true (rdM 1) (kM (.int 0)) ixH) (cvM true (b2M true (rdM 1) (u1M (kM (.int 1)) negH) ixH) cnM)))))))
  nxM)
def φ_is_ring : Fn := defM [] 0 fs_is_ring
end Wl

set_option Elab.async false
set_option linter.all false
set_option maxRecDepth 100000
namespace Wl
open Wv PySem
structure Dr where
  xs : List Int
  a : Nat
  b : Int
  c : Int
abbrev drD (d : Dr) : Dt := .lst [.lst (d.xs.map fun i => .im (.int i)), .im (.int d.a), .im (.int d.b), .im (.int d.c)]
def drA (d : Dr) : Dr := if h : d.b = 0 ∧ d.a < d.xs.length then ⟨d.xs, d.a + 1, if d.xs[d.a]'h.2 ≥ 10 ^ 18 then d.xs[d.a]'h.2 else d.b, (d.c * 48271 + d.xs[d.a]'h.2 + 13).fmod 2147483647⟩ else d
def drw (d : Dr) (L : Nat) : Nat × Dr :=
  if (drA d).b > 0 then (((drA d).b.fmod L).toNat, { drA d with b := (drA d).b.fdiv L })
  else (((((drA d).c * 69621 + 7).fmod 2147483629).fdiv 11 |>.fmod L).toNat, { drA d with c := ((drA d).c * 69621 + 7).fmod 2147483629 })
theorem draws_ok (ns : List Int) : φ__law_draws [.s (.scr ns)] = .ok (.o (drD ⟨ns, 0, 0, 1⟩), []) := by
  simp [φ__law_draws, fs__law_draws, listH, lstH, ownsOf]
theorem draw_ok (d : Dr) (L : Nat) (h : 0 < L) (h2 : L < 1073741824) : φ__law_draw [.o (drD d), vI L] = .ok (vI (drw d L).1, [drD (drw d L).2]) := by
  have hL : ¬ L = 0 := by omega
  have e0 : ∀ x : Int, ((x.fmod L).toNat : Int) = x.fmod L := fun x => by
    have := Int.fmod_nonneg_of_pos x (show (0:Int) < L by omega)
    omega
  by_cases c : d.b = 0 ∧ d.a < d.xs.length
  · obtain ⟨c1, c2⟩ := c
    by_cases c3 : 1000000000000000000 ≤ d.xs[d.a]
    · have c4 : 0 < d.xs[d.a] := by omega
      simp [φ__law_draw, fs__law_draw, c1, c2, c3, c4, h, h2, hL, drw, drA, e0]
    · simp [φ__law_draw, fs__law_draw, c1, c2, c3, h, h2, hL, drw, drA, e0]
  · by_cases c4 : 0 < d.b
    · have c5 : ¬ d.b = 0 := by omega
      simp [φ__law_draw, fs__law_draw, c4, c5, h, h2, hL, drw, drA, e0]
    · by_cases c5 : d.b = 0
      · have c6 : ¬ d.a < d.xs.length := fun q => c ⟨c5, q⟩
        simp [φ__law_draw, fs__law_draw, c5, c6, h, h2, hL, drw, drA, e0]
      · simp [φ__law_draw, fs__law_draw, c4, c5, h, h2, hL, drw, drA, e0]
theorem drw_lt (d : Dr) (L : Nat) (h : 0 < L) : (drw d L).1 < L := by
  have e0 : ∀ x : Int, (x.fmod L).toNat < L := fun x => by
    have := Int.fmod_lt_of_pos x (show (0:Int) < L by omega)
    have := Int.fmod_nonneg_of_pos x (show (0:Int) < L by omega)
    omega
  unfold drw; split <;> exact e0 _
end Wl

set_option Elab.async false
set_option linter.all false
set_option maxRecDepth 100000
namespace Wl
open Wv PySem
local macro_rules | `(tactic| trivial) => `(tactic| (simp only [List.length_map, List.length_append, List.length_cons, List.length_nil, List.length_range, List.length_reverse]; omega))
local macro_rules | `(tactic| trivial) => `(tactic| (simp [Function.comp_def]; done))
local macro_rules | `(tactic| trivial) => `(tactic| omega)
abbrev tieI (p : Nat × Nat) : Im := .tup [.int p.1, .int p.2]
abbrev tieD (p : Nat × Nat) : Dt := .im (tieI p)
def rowP (n a : Nat) : List (Nat × Nat) := (List.range (n - (a + 1))).map fun k => (a, a + 1 + k)
def pairsN (n : Nat) : List (Nat × Nat) := (List.range n).flatMap (rowP n)
theorem length_flatMap_le {α β : Type} (f : α → List β) (B : Nat) (l : List α) (h : ∀ x ∈ l, (f x).length ≤ B) : (l.flatMap f).length ≤ l.length * B := by
  induction l with
  | nil => simp
  | cons x r ih =>
    have := h x List.mem_cons_self
    have := ih fun y hy => h y (List.mem_cons_of_mem _ hy)
    simp only [List.flatMap_cons, List.length_append, List.length_cons, Nat.succ_mul]
    omega
theorem rowP_len (n a : Nat) : (rowP n a).length = n - (a + 1) := by simp [rowP]
theorem pairs_ok (n : Nat) (h : n ≤ 1000) : φ__law_pairs [vI n] = .ok (.o (.lst ((pairsN n).map tieD)), []) := by
  refine Tr.eq ?_
  simp (disch := trivial) [φ__law_pairs, fs__law_pairs]
  refine (forL_tr (fun ys ρ => ∃ j, ρ = [.o (.im (.int n)), .o (.lst ((ys.flatMap (rowP n)).map tieD)), j, .e]) ⟨_, rfl⟩ ?_).bind ?_
  · rintro ys a zs _ e ⟨j, rfl⟩
    have ha : a < n := by
      have : a ∈ List.range n := by rw [e]; simp
      simpa using this
    have hy : ys.length < n := by
      have := congrArg List.length e
      simp at this; omega
    have hl := length_flatMap_le (rowP n) 1000 ys (fun x _ => by rw [rowP_len]; omega)
    have e1 : (↑n - ((a:Int) + 1)).toNat = n - (a + 1) := by omega
    refine Tr.gen fun P hP => ?_
    simp (disch := trivial) [e1]
    rw [lcL_map (fun k => tieD (a, a + 1 + k)) (by intro k hk; simp)]
    simp (disch := trivial)
    exact ⟨_, rfl, hP _ ⟨_, rfl, _, by simp [rowP]; rfl⟩⟩
  · rintro _ ⟨_, rfl, j, rfl⟩
    simp
    exact ⟨_, rfl, rfl⟩
end Wl

set_option Elab.async false
set_option linter.all false
set_option maxRecDepth 100000
namespace Wl
open Wv PySem

@[simp] theorem filter_true {α : Type} (l : List α) : (l.filter fun _ => true) = l := List.filter_eq_self.mpr (by simp)
/-! ## sorted lists of pairs -/
def ltP (p q : Nat × Nat) : Prop := p.1 < q.1 ∨ (p.1 = q.1 ∧ p.2 < q.2)
theorem ltP_irr (p : Nat × Nat) : ¬ ltP p p := by unfold ltP; omega
theorem ltP_asym {p q : Nat × Nat} (h : ltP p q) : ¬ ltP q p := by unfold ltP at *; omega
/-- two lists in one strict order with the same members are the same -/
theorem sorted_ext {α : Type} {R : α → α → Prop} (irr : ∀ a, ¬ R a a) (asym : ∀ {a b}, R a b → ¬ R b a) : ∀ {l m : List α}, l.Pairwise R → m.Pairwise R → (∀ x, x ∈ l ↔ x ∈ m) → l = m
  | [], [], _, _, _ => rfl
  | [], b :: m, _, _, h => by have := (h b).mpr List.mem_cons_self; cases this
  | a :: l, [], _, _, h => by have := (h a).mp List.mem_cons_self; cases this
  | a :: l, b :: m, hl, hm, h => by
    rw [List.pairwise_cons] at hl hm
    have e : a = b := by
      rcases List.mem_cons.mp ((h a).mp List.mem_cons_self) with e | e
      · exact e
      · rcases List.mem_cons.mp ((h b).mpr List.mem_cons_self) with e2 | e2
        · exact e2.symm
        · exact (asym (hm.1 a e) (hl.1 b e2)).elim
    subst e
    rw [sorted_ext irr asym hl.2 hm.2 fun x => ?_]
    constructor
    · intro hx
      rcases List.mem_cons.mp ((h x).mp (List.mem_cons_of_mem _ hx)) with e | e
      · subst e; exact (irr _ (hl.1 _ hx)).elim
      · exact e
    · intro hx
      rcases List.mem_cons.mp ((h x).mpr (List.mem_cons_of_mem _ hx)) with e | e
      · subst e; exact (irr _ (hm.1 _ hx)).elim
      · exact e
theorem mem_rowP {n a : Nat} {p : Nat × Nat} : p ∈ rowP n a ↔ p.1 = a ∧ a < p.2 ∧ p.2 < n := by
  obtain ⟨x, y⟩ := p
  simp only [rowP, List.mem_map, List.mem_range, Prod.mk.injEq]
  constructor
  · rintro ⟨k, hk, rfl, rfl⟩; omega
  · rintro ⟨rfl, h1, h2⟩; exact ⟨y - (x + 1), by omega, rfl, by omega⟩
theorem mem_pairsN {n : Nat} {p : Nat × Nat} : p ∈ pairsN n ↔ p.1 < p.2 ∧ p.2 < n := by
  simp only [pairsN, List.mem_flatMap, List.mem_range, mem_rowP]
  constructor
  · rintro ⟨a, h, rfl, h1, h2⟩; exact ⟨h1, h2⟩
  · rintro ⟨h1, h2⟩; exact ⟨p.1, by omega, rfl, h1, h2⟩
theorem pairwise_flatMap {α β : Type} {R : β → β → Prop} {S : α → α → Prop} {f : α → List β} {l : List α} (hl : l.Pairwise S) (h1 : ∀ a ∈ l, (f a).Pairwise R) (h2 : ∀ a b, S a b → ∀ x ∈ f a, ∀ y ∈ f b, R x y) : (l.flatMap f).Pairwise R := by
  induction l with
  | nil => simp
  | cons a r ih =>
    rw [List.pairwise_cons] at hl
    rw [List.flatMap_cons, List.pairwise_append]
    refine ⟨h1 a List.mem_cons_self, ih hl.2 fun b hb => h1 b (List.mem_cons_of_mem _ hb), fun x hx y hy => ?_⟩
    obtain ⟨b, hb, hy⟩ := List.mem_flatMap.mp hy
    exact h2 a b (hl.1 b hb) x hx y hy
theorem pairsN_sorted (n : Nat) : (pairsN n).Pairwise ltP := by
  refine pairwise_flatMap (S := (· < ·)) List.pairwise_lt_range (fun a _ => ?_) fun a b h x hx y hy => ?_
  · refine List.Pairwise.map _ (S := ltP) (R := (· < ·)) (fun x y h => ?_) List.pairwise_lt_range
    have h : x < y := h
    exact .inr ⟨rfl, show a + 1 + x < a + 1 + y by omega⟩
  · have h : a < b := h
    rw [mem_rowP] at hx hy
    unfold ltP; omega
/-! ## webs -/
def tsE (n : Nat) (E : Nat → Nat → Bool) : List (Nat × Nat) := (pairsN n).filter fun p => E p.1 p.2
theorem mem_tsE {n : Nat} {E : Nat → Nat → Bool} {p : Nat × Nat} : p ∈ tsE n E ↔ p.1 < p.2 ∧ p.2 < n ∧ E p.1 p.2 = true := by
  simp only [tsE, List.mem_filter, mem_pairsN, and_assoc]
theorem tsE_sorted (n : Nat) (E : Nat → Nat → Bool) : (tsE n E).Pairwise ltP := (pairsN_sorted n).filter _
theorem tsE_nodup (n : Nat) (E : Nat → Nat → Bool) : (tsE n E).Nodup := (tsE_sorted n E).imp fun {a b} h e => by subst e; exact ltP_irr _ h
theorem tsE_of {n : Nat} {E : Nat → Nat → Bool} {l : List (Nat × Nat)} (hs : l.Pairwise ltP) (h : ∀ p : Nat × Nat, p ∈ l ↔ p.1 < p.2 ∧ p.2 < n ∧ E p.1 p.2 = true) : l = tsE n E :=
  sorted_ext ltP_irr ltP_asym hs (tsE_sorted n E) fun p => by rw [h, mem_tsE]
theorem tsE_ext {n : Nat} {E F : Nat → Nat → Bool} (h : ∀ a b, a < b → b < n → E a b = F a b) : tsE n E = tsE n F :=
  tsE_of (tsE_sorted n E) fun p => by
    rw [mem_tsE]
    constructor
    · rintro ⟨h1, h2, h3⟩; exact ⟨h1, h2, by rw [← h _ _ h1 h2]; exact h3⟩
    · rintro ⟨h1, h2, h3⟩; exact ⟨h1, h2, by rw [h _ _ h1 h2]; exact h3⟩
theorem pairsN_len (n : Nat) : (pairsN n).length ≤ n * n := by
  have := length_flatMap_le (rowP n) n (List.range n) fun x _ => by rw [rowP_len]; omega
  simpa [pairsN] using this
theorem tsE_len (n : Nat) (E : Nat → Nat → Bool) : (tsE n E).length ≤ n * n := Nat.le_trans (List.length_filter_le _ _) (pairsN_len n)
/-- tied, either way -/
def ad (n : Nat) (E : Nat → Nat → Bool) (a b : Nat) : Bool := if a < b then decide (b < n) && E a b else if b < a then decide (a < n) && E b a else false
theorem ad_comm (n : Nat) (E : Nat → Nat → Bool) (a b : Nat) : ad n E a b = ad n E b a := by
  unfold ad
  by_cases h : a < b
  · rw [if_pos h, if_neg (by omega), if_pos h]
  · by_cases k : b < a
    · rw [if_neg h, if_pos k, if_pos k]
    · rw [if_neg h, if_neg k, if_neg k, if_neg h]
theorem ad_irr (n : Nat) (E : Nat → Nat → Bool) (a : Nat) : ad n E a a = false := by simp [ad]
theorem ad_lt {n : Nat} {E : Nat → Nat → Bool} {a b : Nat} (h : ad n E a b = true) : a < n ∧ b < n ∧ a ≠ b := by
  unfold ad at h
  split at h
  · simp at h; omega
  · split at h
    · simp at h; omega
    · cases h
theorem ad_lo {n : Nat} {E : Nat → Nat → Bool} {a b : Nat} (h : a < b) (k : b < n) : ad n E a b = E a b := by
  unfold ad; rw [if_pos h, decide_eq_true k]; rfl
theorem ad_hi {n : Nat} {E : Nat → Nat → Bool} {a b : Nat} (h : b < a) (k : a < n) : ad n E a b = E b a := by
  rw [ad_comm, ad_lo h k]
theorem ad_mem {n : Nat} {E : Nat → Nat → Bool} {a b : Nat} : ad n E a b = true ↔ (a, b) ∈ tsE n E ∨ (b, a) ∈ tsE n E := by
  rw [mem_tsE, mem_tsE]; unfold ad
  by_cases h : a < b
  · rw [if_pos h]; simp [h]; intro; omega
  · by_cases k : b < a
    · rw [if_neg h, if_pos k]; simp [k]; intro; omega
    · rw [if_neg h, if_neg k]; simp; omega
theorem tsE_ad (n : Nat) (E : Nat → Nat → Bool) : tsE n (ad n E) = tsE n E := tsE_ext fun a b h k => ad_lo h k
theorem tsE_ext' {n : Nat} {E F : Nat → Nat → Bool} (h : ∀ a b, ad n E a b = ad n F a b) : tsE n E = tsE n F := by
  rw [← tsE_ad n E, ← tsE_ad n F]; exact tsE_ext fun a b _ _ => h a b
def nb (n : Nat) (E : Nat → Nat → Bool) (a : Nat) : List Nat := (List.range n).filter fun b => ad n E a b
theorem mem_nb {n : Nat} {E : Nat → Nat → Bool} {a b : Nat} : b ∈ nb n E a ↔ ad n E a b = true := by
  simp only [nb, List.mem_filter, List.mem_range]
  exact ⟨fun h => h.2, fun h => ⟨(ad_lt h).2.1, h⟩⟩
theorem nb_sorted (n : Nat) (E : Nat → Nat → Bool) (a : Nat) : (nb n E a).Pairwise (· < ·) := List.pairwise_lt_range.filter _
theorem nb_len (n : Nat) (E : Nat → Nat → Bool) (a : Nat) : (nb n E a).length ≤ n := by
  have := List.length_filter_le (fun b => ad n E a b) (List.range n); simpa [nb] using this
/-! ## encoded -/
abbrev intI (i : Nat) : Im := .int i
abbrev intD (i : Nat) : Dt := .im (.int i)
abbrev tiesI (l : List (Nat × Nat)) : Im := .tup (l.map tieI)
abbrev webE (n : Nat) (E : Nat → Nat → Bool) : Im := .tup [.int n, tiesI (tsE n E)]
theorem tieI_inj {p q : Nat × Nat} (h : tieI p = tieI q) : p = q := by
  obtain ⟨a, b⟩ := p; obtain ⟨c, d⟩ := q
  simp only [tieI, Im.tup.injEq, List.cons.injEq, Im.int.injEq, and_true] at h
  rw [Int.ofNat_inj.mp h.1, Int.ofNat_inj.mp h.2]
/-! ## sorting -/
theorem ltI_tie (p q : Nat × Nat) : ltI (tieI p) (tieI q) = true ↔ ltP p q := by
  simp only [ltI, imK, List.map_cons, List.map_nil, imInt, lexI]
  by_cases h : (p.1 : Int) = q.1
  · have : p.1 = q.1 := Int.ofNat_inj.mp h
    rw [if_pos h]
    by_cases k : (p.2 : Int) = q.2
    · have : p.2 = q.2 := Int.ofNat_inj.mp k
      rw [if_pos k]; simp [ltP]; omega
    · rw [if_neg k]; simp [ltP]; omega
  · rw [if_neg h]; simp [ltP]; omega
@[simp] theorem okS_ties (l : List (Nat × Nat)) : okS (l.map tieI) = true := by
  have : (l.map tieI).all Im.isRow = true := by simp [Im.isRow, Im.isInt]
  rw [okS, this, Bool.or_true, Bool.true_or]
@[simp] theorem okS_ii (a b : Int) : okS [.int a, .int b] = true := by simp [okS, Im.isInt]
@[simp] theorem okS_ints (l : List Nat) : okS (l.map intI) = true := by
  have : (l.map intI).all Im.isInt = true := by simp [Im.isInt]
  rw [okS, this, Bool.true_or, Bool.true_or]
theorem perm_of {α : Type} [DecidableEq α] {l m : List α} (hl : l.Nodup) (hm : m.Nodup) (h : ∀ x, x ∈ l ↔ x ∈ m) : l.Perm m := by
  rw [List.perm_iff_count]; intro x
  rw [hl.count, hm.count]
  by_cases c : x ∈ l
  · rw [if_pos c, if_pos ((h x).mp c)]
  · rw [if_neg c, if_neg fun k => c ((h x).mpr k)]
theorem srt_ties {l m : List (Nat × Nat)} (hl : l.Nodup) (hm : m.Pairwise ltP) (h : ∀ p, p ∈ m ↔ p ∈ l) : srtI (l.map tieI) = m.map tieI := by
  refine (srtI_uniq (okS_ties l) ?_ ?_).symm
  · refine List.Pairwise.map _ (fun x y k => ?_) hm
    rw [Bool.eq_false_iff]; intro e
    exact ltP_asym k ((ltI_tie _ _).mp e)
  · exact (perm_of (hm.imp fun {a b} h e => by subst e; exact ltP_irr _ h) hl h).map _
theorem ltI_int (a b : Nat) : ltI (intI a) (intI b) = true ↔ a < b := by
  simp only [ltI, imK, intI, lexI]
  by_cases h : (a : Int) = b
  · rw [if_pos h]; simp; omega
  · rw [if_neg h]; simp
theorem srt_ints {l m : List Nat} (hl : l.Nodup) (hm : m.Pairwise (· < ·)) (h : ∀ p, p ∈ m ↔ p ∈ l) : srtI (l.map intI) = m.map intI := by
  refine (srtI_uniq (okS_ints l) ?_ ?_).symm
  · refine List.Pairwise.map _ (fun x y k => ?_) hm
    rw [Bool.eq_false_iff]; intro e
    have := (ltI_int _ _).mp e
    omega
  · exact (perm_of (hm.imp fun {a b} h e => by omega) hl h).map _
/-! ## dicts as finite functions -/
section
variable {α : Type}
theorem put_mem {l : List (Im × α)} {k : Im} {v : α} {x : Im} : x ∈ (put l k v).map (·.1) ↔ x ∈ l.map (·.1) ∨ x = k := by
  induction l with
  | nil => simp [put]
  | cons p r ih =>
    by_cases h : p.1 = k
    · have : ∀ (l : List (Im × α)), (l.map fun p => if p.1 = k then (p.1, v) else p).map (·.1) = l.map (·.1) := by
        intro l; rw [List.map_map]; apply List.map_congr_left; intro q _; simp only [Function.comp]; split <;> rfl
      unfold put
      rw [if_pos (by simp [h]), this]
      simp [← h]
      intro e; exact .inl e
    · rw [put_neg h]
      simp only [List.map_cons, List.mem_cons, ih, or_assoc]
theorem put_nodup {l : List (Im × α)} {k : Im} {v : α} (h : (l.map (·.1)).Nodup) : ((put l k v).map (·.1)).Nodup := by
  unfold put
  split
  · have : (l.map fun p => if p.1 = k then (p.1, v) else p).map (·.1) = l.map (·.1) := by
      rw [List.map_map]; apply List.map_congr_left; intro q _; simp only [Function.comp]; split <;> rfl
    rw [this]; exact h
  · rename_i c
    rw [List.map_append, List.nodup_append]
    refine ⟨h, by simp, ?_⟩
    intro a ha b hb e
    simp at hb
    subst hb; subst e
    simp only [List.any_eq_true, decide_eq_true_eq, not_exists, not_and] at c
    obtain ⟨q, hq, e⟩ := List.mem_map.mp ha
    exact c q hq e
@[simp] theorem look_nil (k : Im) : look ([] : List (Im × α)) k = none := rfl
theorem look_cons (p : Im × α) (l : List (Im × α)) (k : Im) : look (p :: l) k = if p.1 = k then some p.2 else look l k := by
  unfold look
  rw [List.find?_cons]
  by_cases h : p.1 = k <;> simp [h]
theorem look_put (l : List (Im × α)) (k : Im) (v : α) (x : Im) : look (put l k v) x = if x = k then some v else look l x := by
  induction l with
  | nil => rw [put_nil, look_cons]; simp only [look_nil]; by_cases h : k = x <;> simp [h, eq_comm]
  | cons p r ih =>
    by_cases h : p.1 = k
    · have : put (p :: r) k v = (p.1, v) :: r.map fun p => if p.1 = k then (p.1, v) else p := by
        unfold put; rw [if_pos (by simp [h])]; simp [h]
      rw [this, look_cons, look_cons]
      have e : ∀ r : List (Im × α), x ≠ k → look (r.map fun p => if p.1 = k then (p.1, v) else p) x = look r x := by
        intro r hx
        induction r with
        | nil => rfl
        | cons q r ih2 =>
          rw [List.map_cons, look_cons, look_cons, ih2]
          by_cases hq : q.1 = k
          · rw [if_pos hq, if_neg (by simp only; rw [hq]; exact fun z => hx z.symm), if_neg (by rw [hq]; exact fun z => hx z.symm)]
          · rw [if_neg hq]
      by_cases hx : x = k
      · simp [h, hx]
      · rw [if_neg (by simp only; rw [h]; exact fun z => hx z.symm), if_neg hx, if_neg (by rw [h]; exact fun z => hx z.symm), e r hx]
    · rw [put_neg h, look_cons, look_cons, ih]
      by_cases hx : x = k
      · subst hx; rw [if_neg h, if_pos rfl, if_pos rfl]
      · rw [if_neg hx, if_neg hx]
theorem look_mem {l : List (Im × α)} {k : Im} : (look l k).isSome = true ↔ k ∈ l.map (·.1) := by
  induction l with
  | nil => simp
  | cons p r ih =>
    rw [look_cons, List.map_cons, List.mem_cons]
    by_cases h : p.1 = k
    · simp [h]
    · rw [if_neg h, ih]
      exact ⟨.inr, fun z => z.resolve_left fun z => h z.symm⟩
end
/-- the keys of a dict filled with ties -/
theorem puts_ties {α : Type} (v : α) (qs : List (Nat × Nat)) : ∀ l : List (Im × α), (∃ ks : List (Nat × Nat), l.map (·.1) = ks.map tieI ∧ ks.Nodup) →
    ∃ ks : List (Nat × Nat), (qs.foldl (fun a q => put a (tieI q) v) l).map (·.1) = ks.map tieI ∧ ks.Nodup ∧ ∀ q, q ∈ ks ↔ tieI q ∈ l.map (·.1) ∨ q ∈ qs := by
  induction qs with
  | nil =>
    rintro l ⟨ks, e, n⟩
    refine ⟨ks, e, n, fun q => ?_⟩
    rw [e]; simp only [List.mem_map, List.not_mem_nil, or_false]
    exact ⟨fun h => ⟨q, h, rfl⟩, fun ⟨r, h, e⟩ => tieI_inj e ▸ h⟩
  | cons q r ih =>
    rintro l ⟨ks, e, n⟩
    have : ∃ ks : List (Nat × Nat), (put l (tieI q) v).map (·.1) = ks.map tieI ∧ ks.Nodup := by
      by_cases c : tieI q ∈ l.map (·.1)
      · refine ⟨ks, ?_, n⟩
        rw [← e]; unfold put
        have : (l.any fun p => decide (p.1 = tieI q)) = true := by
          obtain ⟨p, hp, e⟩ := List.mem_map.mp c
          rw [List.any_eq_true]; exact ⟨p, hp, decide_eq_true e⟩
        rw [if_pos this, List.map_map]; apply List.map_congr_left; intro p _; simp only [Function.comp]; split <;> rfl
      · refine ⟨ks ++ [q], ?_, ?_⟩
        · unfold put
          have : ¬ (l.any fun p => decide (p.1 = tieI q)) = true := by
            rw [List.any_eq_true]; rintro ⟨p, hp, e⟩
            exact c (List.mem_map.mpr ⟨p, hp, of_decide_eq_true e⟩)
          rw [if_neg this, List.map_append, e, List.map_append]; rfl
        · rw [List.nodup_append]
          refine ⟨n, by simp, fun a ha b hb z => ?_⟩
          simp at hb; subst hb; subst z
          exact c (by rw [e]; exact List.mem_map_of_mem ha)
    obtain ⟨ks', e', n', m'⟩ := ih _ this
    refine ⟨ks', e', n', fun x => ?_⟩
    rw [m', put_mem, List.mem_cons]
    constructor
    · rintro ((h | h) | h)
      · exact .inl h
      · exact .inr (.inl (tieI_inj h))
      · exact .inr (.inr h)
    · rintro (h | h | h)
      · exact .inl (.inl h)
      · exact .inl (.inr (by rw [h]))
      · exact .inr h
theorem range_map_set {α : Type} (n i : Nat) (f : Nat → α) (x : α) : ((List.range n).map f).set i x = (List.range n).map fun a => if a = i then x else f a := by
  apply List.ext_getElem?
  intro j
  rw [List.getElem?_set]
  by_cases h : i = j
  · subst h
    simp only [if_true, List.length_map, List.length_range, List.getElem?_map]
    by_cases k : i < n
    · rw [if_pos k, List.getElem?_range k]; simp
    · rw [if_neg k, List.getElem?_eq_none (by simpa using k)]; rfl
  · rw [if_neg h, List.getElem?_map, List.getElem?_map]
    by_cases k : j < n
    · rw [List.getElem?_range k]; simp; exact fun z => (h z.symm).elim
    · rw [List.getElem?_eq_none (by simpa using k)]; rfl
theorem foldl_pair {α β : Type} (k : α → Im) (v : β) (l : List α) (acc : List (Im × β)) : (l.map fun x => (k x, v)).foldl (fun a y => put a y.1 y.2) acc = l.foldl (fun a x => put a (k x) v) acc := by
  induction l generalizing acc with
  | nil => rfl
  | cons x r ih => exact ih _
end Wl

set_option Elab.async false
set_option linter.all false
set_option maxRecDepth 100000
namespace Wv
open PySem
local macro_rules | `(tactic| trivial) => `(tactic| (simp only [List.length_map, List.length_append, List.length_cons, List.length_nil, List.length_range, List.length_reverse]; omega))
local macro_rules | `(tactic| trivial) => `(tactic| (simp [Function.comp_def]; done))
local macro_rules | `(tactic| trivial) => `(tactic| assumption)
local macro_rules | `(tactic| trivial) => `(tactic| omega)
/-! ## equality by value -/
mutual
/-- no bools, texts that can be laid, at most so deep -/
def Pl : Nat → Im → Bool
  | _, .non => true
  | _, .bl _ => false
  | _, .int _ => true
  | _, .str x => PyData.canLay0 (.str x)
  | 0, .tup _ => false
  | d + 1, .tup l => Pls d l
def Pls : Nat → List Im → Bool
  | _, [] => true
  | d, i :: r => Pl d i && Pls d r
end
theorem Pls_all (d : Nat) (l : List Im) : Pls d l = l.all (Pl d) := by
  induction l with
  | nil => simp [Pls]
  | cons i r ih => simp [Pls, ih]
@[simp] theorem Pl_int (d : Nat) (i : Int) : Pl d (.int i) = true := by simp [Pl]
@[simp] theorem Pl_non (d : Nat) : Pl d .non = true := by simp [Pl]
@[simp] theorem Pl_tup (d : Nat) (l : List Im) : Pl (d + 1) (.tup l) = l.all (Pl d) := by simp [Pl, Pls_all]
mutual
theorem Pl_lay : ∀ (d : Nat) (i : Im), Pl d i = true → PyData.canLay0 (pdI i) = true ∧ PyData.depth (pdI i) ≤ d
  | d, .non, _ => by simp [pdI, PyData.canLay0, PyData.depth]
  | d, .bl _, h => by simp [Pl] at h
  | d, .int _, _ => by simp [pdI, PyData.canLay0, PyData.depth]
  | d, .str x, h => by
    refine ⟨?_, by simp [pdI, PyData.depth]⟩
    cases d <;> simpa [Pl, pdI] using h
  | 0, .tup l, h => by simp [Pl] at h
  | d + 1, .tup l, h => by
    have := Pls_lay d l (by simpa [Pl] using h)
    simp only [pdI, PyData.canLay0, PyData.depth]
    exact ⟨this.1, by omega⟩
theorem Pls_lay : ∀ (d : Nat) (l : List Im), Pls d l = true → PyData.canLayAll0 (pdIs l) = true ∧ PyData.depthAll (pdIs l) ≤ d
  | d, [], _ => by simp [pdIs, PyData.canLayAll0, PyData.depthAll]
  | d, i :: r, h => by
    simp only [Pls, Bool.and_eq_true] at h
    have h1 := Pl_lay d i h.1
    have h2 := Pls_lay d r h.2
    simp only [pdIs, PyData.canLayAll0, PyData.depthAll, Bool.and_eq_true]
    exact ⟨⟨h1.1, h2.1⟩, by omega⟩
end
mutual
theorem Pl_eqv : ∀ (d e : Nat) (a b : Im), Pl d a = true → Pl e b = true → PyData.eqv (pdI a) (pdI b) = decide (a = b)
  | d, e, .non, b, _, h => by cases b <;> simp [pdI, PyData.eqv]
  | d, e, .bl _, b, h, _ => by simp [Pl] at h
  | d, e, .int i, b, _, h => by
    cases b with
    | bl _ => simp [Pl] at h
    | int j =>
      simp only [pdI, PyData.eqv, Im.int.injEq]
      by_cases c : i = j <;> simp [c]
    | _ => simp [pdI, PyData.eqv]
  | d, e, .str x, b, _, h => by
    cases b with
    | bl _ => simp [Pl] at h
    | str y =>
      simp only [pdI, PyData.eqv, Im.str.injEq]
      by_cases c : x = y <;> simp [c]
    | _ => simp [pdI, PyData.eqv]
  | 0, e, .tup l, b, h, _ => by simp [Pl] at h
  | d + 1, e, .tup l, b, h, k => by
    cases b with
    | bl _ => simp [Pl] at k
    | tup m =>
      cases e with
      | zero => simp [Pl] at k
      | succ e =>
        simp only [pdI, PyData.eqv, Im.tup.injEq]
        exact Pls_eqv d e l m (by simpa [Pl] using h) (by simpa [Pl] using k)
    | _ => simp [pdI, PyData.eqv]
theorem Pls_eqv : ∀ (d e : Nat) (a b : List Im), Pls d a = true → Pls e b = true → PyData.eqvAll (pdIs a) (pdIs b) = decide (a = b)
  | d, e, [], b, _, _ => by cases b <;> simp [pdIs, PyData.eqvAll]
  | d, e, i :: r, [], _, _ => by simp [pdIs, PyData.eqvAll]
  | d, e, i :: r, j :: s, h, k => by
    simp only [Pls, Bool.and_eq_true] at h k
    simp only [pdIs, PyData.eqvAll, Pl_eqv d e i j h.1 k.1, Pls_eqv d e r s h.2 k.2, List.cons.injEq, Bool.decide_and]
end
theorem okEq_im {i : Im} (h : Pl 60 i = true) : okEq (.im i) = true := by
  obtain ⟨h1, h2⟩ := Pl_lay 60 i h
  simp only [okEq, SeqAt.shaped, pdD, h1, Bool.true_and, decide_eq_true_eq]; exact decide_eq_true (Nat.le_trans h2 (by decide : 60 ≤ 64))
theorem eqD_im {i j : Im} (h : Pl 60 i = true) (k : Pl 60 j = true) : eqD (.im i) (.im j) = decide (i = j) := Pl_eqv _ _ i j h k
theorem okEq_lst {l : List Im} (h : l.all (Pl 60) = true) : okEq (.lst (l.map .im)) = true := by
  obtain ⟨h1, h2⟩ := Pls_lay 60 l (by rw [Pls_all]; exact h)
  have e : pdDs (l.map .im) = pdIs l := by clear h h1 h2; induction l with | nil => rfl | cons i r ih => simp [pdDs, pdIs, pdD, ih]
  simp only [okEq, SeqAt.shaped, pdD, e, PyData.canLay0, PyData.depth, h1, Bool.true_and, decide_eq_true_eq]; omega
theorem eqD_lst {l m : List Im} (h : l.all (Pl 60) = true) (k : m.all (Pl 60) = true) : eqD (.lst (l.map .im)) (.lst (m.map .im)) = decide (l = m) := by
  have e : ∀ l : List Im, pdDs (l.map .im) = pdIs l := fun l => by induction l with | nil => rfl | cons i r ih => simp [pdDs, pdIs, pdD, ih]
  simp only [eqD, pdD, PyData.eqv, e]
  exact Pls_eqv 60 60 l m (by rw [Pls_all]; exact h) (by rw [Pls_all]; exact k)
@[simp] theorem eqH_im (i j : Im) (h : Pl 60 i = true) (k : Pl 60 j = true) : eqH [.o (.im i), .o (.im j)] = .ok (vB (decide (i = j))) := by
  have e : eqDH false [.o (.im i), .o (.im j)] = .ok (vB (decide (i = j))) := by simp [eqDH, okEq_im h, okEq_im k, eqD_im h k]
  unfold eqH altH
  rw [e]
  cases i <;> cases j <;> first | rfl | (simp [int2]; done)
@[simp] theorem neH_im (i j : Im) (h : Pl 60 i = true) (k : Pl 60 j = true) : neH [.o (.im i), .o (.im j)] = .ok (vB (!decide (i = j))) := by
  have e : eqDH true [.o (.im i), .o (.im j)] = .ok (vB (!decide (i = j))) := by simp [eqDH, okEq_im h, okEq_im k, eqD_im h k]
  unfold neH altH
  rw [e]
  cases i <;> cases j <;> first | rfl | (simp [int2]; done)
theorem int2_lst {C : Int → Int → Bool} {g : Int → Int → Im} {a b : Vl} {l : List Dt} (h : a.d = .lst l) : int2 C g [a, b] = .no := by
  cases a <;> simp only [Vl.d] at h <;> subst h <;> rfl
theorem eqH_lst (a b : Vl) (l m : List Im) (ha : a.d = .lst (l.map .im)) (hb : b.d = .lst (m.map .im)) (h : l.all (Pl 60) = true) (k : m.all (Pl 60) = true) : eqH [a, b] = .ok (vB (decide (l = m))) := by
  unfold eqH altH
  rw [int2_lst ha]
  simp only [eqDH, ha, hb, okEq_lst h, okEq_lst k, eqD_lst h k, Bool.and_self, if_true]; rfl
theorem neH_lst (a b : Vl) (l m : List Im) (ha : a.d = .lst (l.map .im)) (hb : b.d = .lst (m.map .im)) (h : l.all (Pl 60) = true) (k : m.all (Pl 60) = true) : neH [a, b] = .ok (vB (!decide (l = m))) := by
  unfold neH altH
  rw [int2_lst ha]
  simp only [eqDH, ha, hb, okEq_lst h, okEq_lst k, eqD_lst h k, Bool.and_self, if_true]
theorem any_eqD {l : List Im} {x : Im} (hx : Pl 60 x = true) (h : l.all (Pl 60) = true) : (l.map Dt.im).any (fun z => eqD z (.im x)) = decide (x ∈ l) := by
  induction l with
  | nil => rfl
  | cons i r ih =>
    simp only [List.all_cons, Bool.and_eq_true] at h
    simp only [List.map_cons, List.any_cons, eqD_im h.1 hx, ih h.2, List.mem_cons]
    by_cases c : x = i
    · simp [c]
    · simp [c]; exact fun z => (c z.symm).elim
theorem all_Pl {l : List Im} (h : l.all (Pl 59) = true) : Pl 60 (.tup l) = true := by rw [Pl_tup]; exact h
mutual
theorem Pl_mono : ∀ (d : Nat) (i : Im), Pl d i = true → Pl (d + 1) i = true
  | d, .non, _ => by simp
  | d, .bl _, h => by simp [Pl] at h
  | d, .int _, _ => by simp
  | d, .str x, h => by cases d <;> simpa [Pl] using h
  | 0, .tup l, h => by simp [Pl] at h
  | d + 1, .tup l, h => by
    have : Pls d l = true := by simpa [Pl] using h
    have := Pls_mono d l this
    rw [Pl_tup, ← Pls_all]; exact this
theorem Pls_mono : ∀ (d : Nat) (l : List Im), Pls d l = true → Pls (d + 1) l = true
  | d, [], _ => by simp [Pls]
  | d, i :: r, h => by
    simp only [Pls, Bool.and_eq_true] at h ⊢
    exact ⟨Pl_mono d i h.1, Pls_mono d r h.2⟩
end
@[simp] theorem in_tup (neg : Bool) (x : Im) (l : List Im) (hx : Pl 60 x = true) (h : l.all (Pl 59) = true) : inH neg [.o (.im x), .o (.im (.tup l))] = .ok (vB (if neg then !decide (x ∈ l) else decide (x ∈ l))) := by
  have h' : l.all (Pl 60) = true := by
    rw [List.all_eq_true] at h ⊢
    exact fun y hy => Pl_mono 59 y (h y hy)
  unfold inH altH
  have : altH (inSeq neg) (inStr neg) [.o (.im x), .o (.im (.tup l))] = .ok (vB (if neg then !decide (x ∈ l) else decide (x ∈ l))) := by
    unfold altH
    simp only [inSeq, Vl.d, itemsOf, okEq_im hx, okEq_im (all_Pl h), any_eqD hx h', Bool.and_self, if_true]
  unfold altH at this
  rw [this]
theorem in_lst (neg : Bool) (x : Im) (a : Vl) (l : List Im) (ha : a.d = .lst (l.map .im)) (hx : Pl 60 x = true) (h : l.all (Pl 60) = true) : inH neg [.o (.im x), a] = .ok (vB (if neg then !decide (x ∈ l) else decide (x ∈ l))) := by
  have : altH (inSeq neg) (inStr neg) [.o (.im x), a] = .ok (vB (if neg then !decide (x ∈ l) else decide (x ∈ l))) := by
    unfold altH
    simp only [inSeq, ha, d_o, itemsOf, okEq_im hx, okEq_lst h, any_eqD hx h, Bool.and_self, if_true]
  unfold inH altH
  unfold altH at this
  rw [this]
end Wv

set_option Elab.async false
set_option linter.all false
set_option maxRecDepth 100000
namespace Wv
open PySem
def acTK (T : String) (q2 : Bool) (g : Fa) (p : Vl × Ev) : R (List Vl × Ev) := if (tyR T p.1.d && (q2 || !p.1.isB)) = true then (g p.2).bind (acR p.1) else .no
@[simp] theorem acT_ap (T : String) (q2 : Bool) (f : Fe) (g : Fa) (ρ : Ev) : acT T q2 f g ρ = (f ρ).bind (acTK T q2 g) := (rfl)
@[simp] theorem acTK_ap (T : String) (q2 : Bool) (g : Fa) (r : Vl) (ρ : Ev) : acTK T q2 g (r, ρ) = if (tyR T r.d && (q2 || !r.isB)) = true then (g ρ).bind (acR r) else .no := (rfl)
@[simp] theorem tyR_l (l : List Dt) : tyR "list" (.lst l) = true := (rfl)
theorem idx_im (a : Vl) (l : List Im) (x : Im) (ha : a.d = .lst (l.map .im)) (hl : l.all (Pl 60) = true) (hx : Pl 60 x = true) (hm : x ∈ l) : idxH [a, .o (.im x)] = .ok (vI (l.idxOf x : Nat)) := by
  simp only [idxH, ha, d_o, okEq_lst hl, okEq_im hx, Bool.and_self, if_true]
  have : (l.map Dt.im).findIdx? (fun z => eqD z (.im x)) = some (l.idxOf x) := by
    clear ha
    induction l with
    | nil => cases hm
    | cons y r ih =>
      simp only [List.all_cons, Bool.and_eq_true] at hl
      rw [List.map_cons, List.findIdx?_cons, eqD_im hl.1 hx, List.idxOf_cons]
      by_cases c : y = x
      · simp [c]
      · have hm' : x ∈ r := (List.mem_cons.mp hm).resolve_left fun z => c z.symm
        rw [ih hl.2 hm', beq_eq_false_iff_ne.mpr c]; simp [c]
  rw [this]
theorem okEq_bl (b : Bool) : okEq (.im (.bl b)) = true := by cases b <;> rfl
theorem eqD_bl (a b : Bool) : eqD (.im (.bl a)) (.im (.bl b)) = decide (a = b) := by cases a <;> cases b <;> rfl
@[simp] theorem neH_bl (a b : Bool) : neH [.o (.im (.bl a)), .o (.im (.bl b))] = .ok (vB (!decide (a = b))) := by
  have e : eqDH true [.o (.im (.bl a)), .o (.im (.bl b))] = .ok (vB (!decide (a = b))) := by simp [eqDH, okEq_bl, eqD_bl]
  unfold neH altH
  rw [e]; rfl
@[simp] theorem eqH_bl (a b : Bool) : eqH [.o (.im (.bl a)), .o (.im (.bl b))] = .ok (vB (decide (a = b))) := by
  have e : eqDH false [.o (.im (.bl a)), .o (.im (.bl b))] = .ok (vB (decide (a = b))) := by simp [eqDH, okEq_bl, eqD_bl]
  unfold eqH altH
  rw [e]; rfl
end Wv

set_option Elab.async false
set_option linter.all false
set_option maxRecDepth 100000
namespace Wl
open Wv PySem
local macro_rules | `(tactic| trivial) => `(tactic| (simp only [List.length_map, List.length_append, List.length_cons, List.length_nil, List.length_range, List.length_reverse, List.length_set]; omega))
local macro_rules | `(tactic| trivial) => `(tactic| (simp [Function.comp_def]; done))
local macro_rules | `(tactic| trivial) => `(tactic| assumption)
local macro_rules | `(tactic| trivial) => `(tactic| omega)
theorem madeL (n : Nat) (src : Sl) (ps : List (Nat × Nat)) (h : ps.length ≤ 10000000) :
    Tr (forL (.tp [3, 4]) (seqM (ifS (tbM (b2M true (rdM 3) (rdM 4) neH)) (seqM (stoM 2 (plM 2) (naM (acM true (naM (acM true (rdM 3) (acM true (rdM 4) anM)) min2H) (acM true (naM (acM true (rdM 3) (acM true (rdM 4) anM)) max2H) anM)) tupH) (kM (.bl true)) setH) nxM) nxM) nxM)
      (ps.map fun p => .one (.im (tieI p))) [.o (.im (.int n)), src, .o (.dic true []), .e, .e]) fun u => ∃ kvs j1 j2, u = .nx [.o (.im (.int n)), src, .o (.dic true kvs), j1, j2] ∧
      ∃ ks : List (Nat × Nat), kvs.map (·.1) = ks.map tieI ∧ ks.Nodup ∧ ∀ q : Nat × Nat, q ∈ ks ↔ q.1 < q.2 ∧ (q ∈ ps ∨ (q.2, q.1) ∈ ps) := by
  refine (forL_tr (fun ys ρ => ∃ kvs j1 j2, ρ = [.o (.im (.int n)), src, .o (.dic true kvs), j1, j2] ∧ kvs.length ≤ ys.length ∧
      ∃ ks : List (Nat × Nat), kvs.map (·.1) = ks.map tieI ∧ ks.Nodup ∧ ∀ q : Nat × Nat, q ∈ ks ↔ q.1 < q.2 ∧ (q ∈ ys ∨ (q.2, q.1) ∈ ys)) ⟨[], _, _, rfl, by simp, [], by simp⟩ ?_).mono ?_
  · rintro ys ⟨a, b⟩ zs _ e ⟨kvs, j1, j2, rfl, hl, ks, h1, h2, h3⟩
    have hy : ys.length < ps.length := by rw [e]; simp
    have key : ∀ c d, c < d → (c = a ∧ d = b ∨ c = b ∧ d = a) → ∃ ks : List (Nat × Nat), (put kvs (tieI (c, d)) (Dt.im (.bl true))).map (·.1) = ks.map tieI ∧ ks.Nodup ∧ ∀ q : Nat × Nat, q ∈ ks ↔ q.1 < q.2 ∧ (q ∈ ys ++ [(a, b)] ∨ (q.2, q.1) ∈ ys ++ [(a, b)]) := by
      intro c d hcd hab
      obtain ⟨ks', e', n', m'⟩ := puts_ties (.im (.bl true)) [(c, d)] kvs ⟨ks, h1, h2⟩
      refine ⟨ks', e', n', fun q => ?_⟩
      rw [m', h1]
      have : tieI q ∈ ks.map tieI ↔ q ∈ ks := by
        simp only [List.mem_map]
        exact ⟨fun ⟨r, h, e⟩ => tieI_inj e ▸ h, fun h => ⟨q, h, rfl⟩⟩
      rw [this, h3]
      obtain ⟨x, y⟩ := q
      simp only [List.mem_append, List.mem_singleton, Prod.mk.injEq]
      grind
    have pl := fun k => put_len kvs k (Dt.im (.bl true))
    refine Tr.gen fun P hP => ?_
    by_cases c1 : a < b
    · have c2 : ¬ b < a := by omega
      have c3 : a ≠ b := by omega
      simp (disch := trivial) [c1, c2, c3]
      exact ⟨_, rfl, hP _ ⟨_, rfl, _, _, _, rfl, Nat.le_trans (pl _) (by simp; omega), key a b c1 (.inl ⟨rfl, rfl⟩)⟩⟩
    · by_cases c2 : b < a
      · have c3 : a ≠ b := by omega
        simp (disch := trivial) [c1, c2, c3]
        exact ⟨_, rfl, hP _ ⟨_, rfl, _, _, _, rfl, Nat.le_trans (pl _) (by simp; omega), key b a c2 (.inr ⟨rfl, rfl⟩)⟩⟩
      · have c3 : a = b := by omega
        subst c3
        simp (disch := trivial)
        refine ⟨_, rfl, hP _ ⟨_, rfl, _, _, _, rfl, by simp; omega, ks, h1, h2, fun q => ?_⟩⟩
        rw [h3]
        obtain ⟨x, y⟩ := q
        simp only [List.mem_append, List.mem_singleton, Prod.mk.injEq]
        grind
  · rintro _ ⟨_, rfl, kvs, j1, j2, rfl, -, k⟩
    exact ⟨kvs, j1, j2, rfl, k⟩
def Eof (ps : List (Nat × Nat)) (a b : Nat) : Bool := decide ((a, b) ∈ ps ∨ (b, a) ∈ ps)
theorem keys_web {n : Nat} {ps ks : List (Nat × Nat)} (hp : ∀ p ∈ ps, p.1 < n ∧ p.2 < n) (h2 : ks.Nodup) (h3 : ∀ q : Nat × Nat, q ∈ ks ↔ q.1 < q.2 ∧ (q ∈ ps ∨ (q.2, q.1) ∈ ps)) :
    srtI (ks.map tieI) = (tsE n (Eof ps)).map tieI := by
  refine srt_ties h2 (tsE_sorted _ _) fun p => ?_
  rw [mem_tsE, h3, Eof, decide_eq_true_eq]
  constructor
  · rintro ⟨a, b, c⟩; exact ⟨a, c⟩
  · rintro ⟨a, c⟩
    refine ⟨a, ?_, c⟩
    rcases c with c | c
    · exact (hp _ c).2
    · exact (hp _ c).1
theorem made_ok (n : Nat) (ps : List (Nat × Nat)) (h : ps.length ≤ 10000000) (hp : ∀ p ∈ ps, p.1 < n ∧ p.2 < n) :
    φ__law_made [vI n, .s (.lst (ps.map tieD))] = .ok (.o (.im (webE n (Eof ps))), []) := by
  refine Tr.eq ?_
  simp (disch := trivial) [φ__law_made, fs__law_made, Function.comp_def]
  refine (madeL n _ ps h).bind ?_
  rintro _ ⟨kvs, j1, j2, rfl, ks, h1, h2, h3⟩
  simp (disch := trivial) [sortedH, colOf, h1, okS_ties, keys_web hp h2 h3]
  exact ⟨_, rfl, rfl⟩
end Wl

set_option Elab.async false
set_option linter.all false
set_option maxRecDepth 100000
namespace Wl
open Wv PySem
local macro_rules | `(tactic| trivial) => `(tactic| (simp only [List.length_map, List.length_append, List.length_cons, List.length_nil, List.length_range, List.length_reverse, List.length_set]; omega))
local macro_rules | `(tactic| trivial) => `(tactic| (simp [Function.comp_def]; done))
local macro_rules | `(tactic| trivial) => `(tactic| assumption)
local macro_rules | `(tactic| trivial) => `(tactic| omega)
theorem Pl_tie (d : Nat) (p : Nat × Nat) : Pl (d + 1) (tieI p) = true := by simp
@[simp] theorem Pl_ties (d : Nat) (l : List (Nat × Nat)) : (l.map tieI).all (Pl (d + 1)) = true := by simp
theorem mem_ties {p : Nat × Nat} {l : List (Nat × Nat)} : tieI p ∈ l.map tieI ↔ p ∈ l := by
  simp only [List.mem_map]
  exact ⟨fun ⟨r, h, e⟩ => tieI_inj e ▸ h, fun h => ⟨p, h, rfl⟩⟩
theorem tied_ok (n : Nat) (E : Nat → Nat → Bool) (a b : Nat) : φ_tied [.o (.im (webE n E)), vI a, vI b] = .ok (vB (ad n E a b), []) := by
  by_cases c1 : a < b
  · have c2 : ¬ b < a := by omega
    simp (disch := trivial) [φ_tied, fs_tied, c1, c2]
    rw [Bool.eq_iff_iff, decide_eq_true_eq, mem_tsE]
    simp [ad, c1]
  · by_cases c2 : b < a
    · simp (disch := trivial) [φ_tied, fs_tied, c1, c2]
      rw [Bool.eq_iff_iff, decide_eq_true_eq, mem_tsE]
      simp [ad, c1, c2]
    · have : a = b := by omega
      subst this
      simp (disch := trivial) [φ_tied, fs_tied]
      rw [Bool.eq_iff_iff, decide_eq_true_eq, mem_tsE]
      simp [ad]
theorem beside_ok (n m : Nat) (E F : Nat → Nat → Bool) (hn : n ≤ 1000) (hm : m ≤ 1000) : φ_beside [.o (.im (webE n E)), .o (.im (webE m F))] = .ok (.o (.im (.tup [.int (n + m : Nat), tiesI (tsE n E ++ (tsE m F).map fun p => (p.1 + n, p.2 + n))])), []) := by
  have h1 := tsE_len n E
  have h2 := tsE_len m F
  have h3 : n * n ≤ 1000 * 1000 := Nat.mul_le_mul hn hn
  have h4 : m * m ≤ 1000 * 1000 := Nat.mul_le_mul hm hm
  simp (disch := trivial) [φ_beside, fs_beside, Function.comp_def]
  rw [lcL_map (fun p => tieD (p.1 + n, p.2 + n)) (by intro k hk; simp)]
  simp (disch := trivial) [Function.comp_def]
def mmP (q : Nat × Nat) : Nat × Nat := (min q.1 q.2, max q.1 q.2)
theorem webofL (n : Nat) (src : Sl) (ps : List (Nat × Nat)) (h : ps.length ≤ 10000000) :
    ∃ kvs, dcL true false [3] (Tgt.nm 3) (tbM (b2M true (b2M true (rdM 3) (kM (Im.int 0)) ixH) (b2M true (rdM 3) (kM (Im.int 1)) ixH) neH))
      (naM (acM true (naM (acM true (rdM 3) anM) (bestH false)) (acM true (naM (acM true (rdM 3) anM) (bestH true)) anM)) tupH) (kM (Im.bl true))
      (List.map (fun x => Itm.one (Dt.im (tieI x))) ps) [Sl.o (Dt.im (Im.int ↑n)), src, Sl.e, Sl.e] [] = .ok (kvs, [Sl.o (Dt.im (Im.int ↑n)), src, Sl.e, Sl.e]) ∧
      ∃ ks : List (Nat × Nat), kvs.map (·.1) = ks.map tieI ∧ ks.Nodup ∧ ∀ q : Nat × Nat, q ∈ ks ↔ q.1 < q.2 ∧ (q ∈ ps ∨ (q.2, q.1) ∈ ps) := by
  rw [dcL_pure (fun q => decide (q.1 ≠ q.2)) (fun q => tieI (mmP q)) (fun _ => .im (.bl true)) (by simp; omega) (by
    rintro ⟨a, b⟩ hq
    by_cases c1 : a < b
    · have c2 : ¬ b < a := by omega
      have c3 : ¬ a = b := by omega
      have c4 : min a b = a := by omega
      have c5 : max a b = b := by omega
      simp (disch := trivial) [c1, c2, c3, c4, c5, best2, mmP]
    · by_cases c2 : b < a
      · have c3 : ¬ a = b := by omega
        have c4 : min a b = b := by omega
        have c5 : max a b = a := by omega
        simp (disch := trivial) [c1, c2, c3, c4, c5, best2, mmP]
      · have c3 : a = b := by omega
        simp (disch := trivial) [c3])]
  refine ⟨_, rfl, ?_⟩
  have e : ∀ (l : List (Nat × Nat)) (acc : List (Im × Dt)), (l.map fun x => (tieI (mmP x), Dt.im (.bl true))).foldl (fun a y => put a y.1 y.2) acc = (l.map mmP).foldl (fun a q => put a (tieI q) (Dt.im (.bl true))) acc := by
    intro l
    induction l with
    | nil => intro acc; rfl
    | cons x r ih => intro acc; exact ih _
  rw [e]
  obtain ⟨ks, h1, h2, h3⟩ := puts_ties (Dt.im (.bl true)) ((ps.filter fun q : Nat × Nat => decide (q.1 ≠ q.2)).map mmP) [] ⟨[], by simp⟩
  refine ⟨ks, h1, h2, fun q => ?_⟩
  rw [h3]
  simp only [List.map_nil, List.not_mem_nil, false_or, List.mem_map, List.mem_filter, decide_eq_true_eq]
  obtain ⟨x, y⟩ := q
  constructor
  · rintro ⟨⟨a, b⟩, ⟨hm, hn⟩, he⟩
    simp only [mmP, Prod.mk.injEq] at he hn
    by_cases c : a < b
    · have h1 : x = a := by omega
      have h2 : y = b := by omega
      subst h1; subst h2; exact ⟨c, .inl hm⟩
    · have h1 : x = b := by omega
      have h2 : y = a := by omega
      subst h1; subst h2; exact ⟨by simp only; omega, .inr hm⟩
  · rintro ⟨hlt, hm | hm⟩
    · exact ⟨(x, y), ⟨hm, by simp only at hlt ⊢; omega⟩, by simp only [mmP, Prod.mk.injEq] at hlt ⊢; omega⟩
    · exact ⟨(y, x), ⟨hm, by simp only at hlt ⊢; omega⟩, by simp only [mmP, Prod.mk.injEq] at hlt ⊢; omega⟩
theorem web_of_ok (n : Nat) (ps : List (Nat × Nat)) (h : ps.length ≤ 10000000) (hp : ∀ p ∈ ps, p.1 < n ∧ p.2 < n) :
    φ_web_of [vI n, .o (.im (tiesI ps))] = .ok (.o (.im (webE n (Eof ps))), []) := by
  obtain ⟨kvs, e, ks, h1, h2, h3⟩ := webofL n (.o (.im (tiesI ps))) ps h
  simp (disch := trivial) [φ_web_of, fs_web_of, Function.comp_def]
  rw [e]
  simp (disch := trivial) [h1, okS_ties, keys_web hp h2 h3]
theorem web_of_lok (n : Nat) (ps : List (Nat × Nat)) (h : ps.length ≤ 10000000) (hp : ∀ p ∈ ps, p.1 < n ∧ p.2 < n) :
    φ_web_of [vI n, .s (.lst (ps.map tieD))] = .ok (.o (.im (webE n (Eof ps))), []) := by
  obtain ⟨kvs, e, ks, h1, h2, h3⟩ := webofL n (.s (.lst (ps.map tieD))) ps h
  simp (disch := trivial) [φ_web_of, fs_web_of, Function.comp_def]
  rw [e]
  simp (disch := trivial) [h1, okS_ties, keys_web hp h2 h3]
theorem other_web_ok (n : Nat) (E : Nat → Nat → Bool) (hn : n ≤ 1000) : φ_other_web [.o (.im (webE n E))] = .ok (.o (.im (webE n fun a b => !E a b)), []) := by
  have hl := tsE_len n E
  have h3 : n * n ≤ 1000 * 1000 := Nat.mul_le_mul hn hn
  simp (disch := trivial) [φ_other_web, fs_other_web, Function.comp_def]
  rw [dcL_pure (fun _ => true) tieI (fun _ => .im (.bl true)) (by simp; omega) (by intro x hx; simp)]
  rw [foldl_pair]
  obtain ⟨ks, h1, h2, h3⟩ := puts_ties (Dt.im (.bl true)) ((tsE n E).filter fun _ => true) [] ⟨[], by simp⟩
  generalize (List.foldl (fun a q => put a (tieI q) (Dt.im (Im.bl true))) [] ((tsE n E).filter fun _ => true)) = kvs at *
  have hk : ∀ p : Nat × Nat, (look kvs (tieI p)).isSome = decide (p ∈ tsE n E) := by
    intro p
    rw [Bool.eq_iff_iff, look_mem, h1, mem_ties, h3]
    simp
  have hk2 : ∀ a k : Nat, look kvs (Im.tup [.int a, .int (a + 1 + k)]) = none ↔ (a, a + 1 + k) ∉ tsE n E := fun a k => by
    have := hk (a, a + 1 + k)
    have e : tieI (a, a + 1 + k) = Im.tup [.int a, .int (a + 1 + k)] := by simp [tieI]
    rw [← e, ← Option.not_isSome_iff_eq_none, this, decide_eq_true_eq]
  simp (disch := trivial) [Function.comp_def]
  rw [lc2L_pure (fun a => ((rowP n a).filter fun p => !decide (p ∈ tsE n E)).map tieD) 16000000 ?len (by
    intro a ha acc hacc
    have := List.mem_range.mp ha
    have e1 : (↑n - ((a : Int) + 1)).toNat = n - (a + 1) := by omega
    have hla : acc.length ≤ 16000000 := by omega
    simp (disch := trivial) only [lc2S_ap, tgM_nm1, putI_im, List.length_cons, List.length_nil, R.bind_ok, lc2G_ap, yesT_ap, lc2T_ap]
    simp (disch := trivial) [e1]
    rw [lc2I_pure (fun k => !decide ((a, a + 1 + k) ∈ tsE n E)) (fun k => tieD (a, a + 1 + k)) (by simp; omega) (by
      intro k hk'
      simp (disch := trivial) [hk2]
      rfl)]
    simp [rowP, List.filter_map, Function.comp_def])]
  case len =>
    have := length_flatMap_le (fun a => ((rowP n a).filter fun p => !decide (p ∈ tsE n E)).map tieD) n (List.range n) (fun x _ => by
      rw [List.length_map]
      exact Nat.le_trans (List.length_filter_le _ _) (by rw [rowP_len]; omega))
    rw [List.length_range] at this
    simp only [List.length_nil]; omega
  have e3 : (List.range n).flatMap (fun a => ((rowP n a).filter fun p => !decide (p ∈ tsE n E)).map tieD) = (tsE n fun a b => !E a b).map tieD := by
    have : (tsE n fun a b => !E a b) = (pairsN n).filter fun p => !decide (p ∈ tsE n E) := by
      refine (tsE_of ((pairsN_sorted n).filter _) fun p => ?_).symm
      rw [List.mem_filter, mem_pairsN, Bool.not_eq_true', decide_eq_false_iff_not, mem_tsE, Bool.not_eq_true', ← Bool.not_eq_true, and_assoc]
      exact ⟨fun ⟨h1, h2, h3⟩ => ⟨h1, h2, fun h => h3 ⟨h1, h2, h⟩⟩, fun ⟨h1, h2, h3⟩ => ⟨h1, h2, fun h => h3 h.2.2⟩⟩
    rw [this]
    simp only [pairsN, List.filter_flatMap, List.map_flatMap]
  rw [e3]
  simp (disch := trivial) [Function.comp_def]
/-- the partners of a place, as they come -/
def rowN (ys : List (Nat × Nat)) (a : Nat) : List Nat := ys.filterMap fun p => if p.1 = a then some p.2 else if p.2 = a then some p.1 else none
theorem rowN_len (ys : List (Nat × Nat)) (a : Nat) : (rowN ys a).length ≤ ys.length := List.length_filterMap_le _ _
theorem rowN_nb (n : Nat) (E : Nat → Nat → Bool) (a : Nat) : srtI ((rowN (tsE n E) a).map intI) = (nb n E a).map intI := by
  refine srt_ints ?_ (nb_sorted n E a) fun p => ?_
  · unfold rowN
    have h := tsE_nodup n E
    have m : ∀ p ∈ tsE n E, p.1 < p.2 := fun p hp => (mem_tsE.mp hp).1
    revert h m
    generalize tsE n E = l
    intro h m
    induction l with
    | nil => simp
    | cons p r ih =>
      rw [List.nodup_cons] at h
      have ih := ih h.2 fun q hq => m q (List.mem_cons_of_mem _ hq)
      have m0 := m p List.mem_cons_self
      have key : ∀ x, (if p.1 = a then some p.2 else if p.2 = a then some p.1 else none) = some x → x ∉ r.filterMap fun p => if p.1 = a then some p.2 else if p.2 = a then some p.1 else none := by
        intro x hx hm
        obtain ⟨q, hq, e⟩ := List.mem_filterMap.mp hm
        have m1 := m q (List.mem_cons_of_mem _ hq)
        apply h.1
        have : p = q := by
          obtain ⟨p1, p2⟩ := p; obtain ⟨q1, q2⟩ := q
          simp only at hx e m0 m1
          grind
        rw [this]; exact hq
      rw [List.filterMap_cons]
      split
      · exact ih
      · rename_i x e
        exact List.nodup_cons.mpr ⟨key x e, ih⟩
  · rw [mem_nb, ad_mem]
    simp only [rowN, List.mem_filterMap]
    constructor
    · rintro (h | h)
      · exact ⟨_, h, by simp⟩
      · refine ⟨_, h, ?_⟩
        have := (mem_tsE.mp h).1
        simp only at this ⊢
        rw [if_neg (by omega)]; simp
    · rintro ⟨⟨x, y⟩, h, e⟩
      simp only at e
      by_cases c : x = a
      · rw [if_pos c] at e; cases e; subst c; exact .inl h
      · rw [if_neg c] at e
        by_cases d : y = a
        · rw [if_pos d] at e; cases e; subst d; exact .inr h
        · rw [if_neg d] at e; cases e
abbrev rowsD (n : Nat) (f : Nat → List Nat) : Dt := .lst ((List.range n).map fun a => .lst ((f a).map intD))
theorem neighbours_ok (n : Nat) (E : Nat → Nat → Bool) (hn : n ≤ 1000) : φ_neighbours [.o (.im (webE n E))] = .ok (.o (rowsD n (nb n E)), []) := by
  refine Tr.eq ?_
  have hl := tsE_len n E
  have h3 : n * n ≤ 1000 * 1000 := Nat.mul_le_mul hn hn
  simp (disch := trivial) [φ_neighbours, fs_neighbours, Function.comp_def]
  rw [lcL_map (fun _ => .lst []) (by intro k hk; simp)]
  simp (disch := trivial) [Function.comp_def]
  refine (forL_tr (fun ys ρ => ∃ j1 j2, ρ = [Sl.o (Dt.im (webE n E)), .o (rowsD n (rowN ys)), j1, j2, .e, .e]) ⟨.e, .e, ?_⟩ ?_).bind ?_
  · simp [rowN]
  · rintro ys ⟨a, b⟩ zs _ e ⟨j1, j2, rfl⟩
    have hm : (a, b) ∈ tsE n E := by rw [e]; simp
    have hy : ys.length < (tsE n E).length := by rw [e]; simp
    have ⟨hab, hb, _⟩ := mem_tsE.mp hm
    simp only at hab hb
    have l1 := rowN_len ys a
    have l2 := rowN_len ys b
    refine Tr.gen fun P hP => ?_
    have ha : a < n := by omega
    have hc : ¬ b = a := by omega
    simp (disch := trivial) [setI, hc]
    have he : (((List.range n).map fun a => Dt.lst ((rowN ys a).map intD)).set a (Dt.lst ((rowN ys a).map intD ++ [intD b]))).set b (Dt.lst ((rowN ys b).map intD ++ [intD a])) = (List.range n).map fun x => Dt.lst ((rowN (ys ++ [(a, b)]) x).map intD) := by
      rw [range_map_set, range_map_set]
      apply List.map_congr_left
      intro x _
      by_cases c1 : x = b
      · subst c1
        have hc' : ¬ a = x := by omega
        simp [rowN, hc, List.filterMap_cons, hc']
      · by_cases c2 : x = a
        · subst c2; simp [rowN, c1]
        · simp [rowN, c1, c2]
          rw [if_neg (fun z => c2 z.symm), if_neg (fun z => c1 z.symm)]
    rw [he]
    exact ⟨_, rfl, hP _ ⟨_, rfl, _, _, rfl⟩⟩
  · rintro _ ⟨_, rfl, j1, j2, rfl⟩
    simp (disch := trivial) [Function.comp_def]
    rw [lcL_map (fun a => .lst ((nb n E a).map intD)) (by
      intro k hk
      simp (disch := trivial) [Function.comp_def]
      have := rowN_nb n E k
      unfold intI at this
      rw [this, List.map_map]; rfl)]
    simp
    exact ⟨_, rfl, rfl⟩
end Wl

set_option Elab.async false
set_option linter.all false
set_option maxRecDepth 100000
namespace Wl
open Wv PySem
local macro_rules | `(tactic| trivial) => `(tactic| (simp only [List.length_map, List.length_append, List.length_cons, List.length_nil, List.length_range, List.length_reverse, List.length_set]; omega))
local macro_rules | `(tactic| trivial) => `(tactic| (simp [Function.comp_def]; done))
local macro_rules | `(tactic| trivial) => `(tactic| assumption)
local macro_rules | `(tactic| trivial) => `(tactic| omega)
theorem degree_row_ok (n : Nat) (E : Nat → Nat → Bool) (hn : n ≤ 1000) : φ_degree_row [.o (.im (webE n E))] = .ok (.o (.im (.tup ((List.range n).map fun a => intI (nb n E a).length))), []) := by
  simp (disch := trivial) [φ_degree_row, fs_degree_row, neighbours_ok n E hn, Function.comp_def]
  rw [lcL_map (fun a => intD (nb n E a).length) (by intro k hk; simp)]
  simp (disch := trivial) [Function.comp_def]
theorem without_tie_ok (n : Nat) (E : Nat → Nat → Bool) (q : Nat × Nat) : φ_without_tie [.o (.im (webE n E)), .o (.im (tieI q))] = .ok (.o (.im (webE n fun a b => E a b && decide ((a, b) ≠ q))), []) := by
  simp (disch := trivial) [φ_without_tie, fs_without_tie, Function.comp_def]
  rw [lcL_pure (fun p => decide (p ≠ q)) tieD (by
    intro k hk
    by_cases c : k = q
    · subst c; simp (disch := trivial)
    · have : ¬ (k.1 = q.1 ∧ k.2 = q.2) := fun z => c (Prod.ext z.1 z.2)
      simp (disch := trivial) [c]
      intro z1 z2; exact this ⟨z1, z2⟩)]
  simp (disch := trivial) [Function.comp_def]
  have e : (tsE n fun a b => E a b && !decide ((a, b) = q)) = (tsE n E).filter fun p => !decide (p = q) := by
    refine (tsE_of ((tsE_sorted n E).filter _) fun p => ?_).symm
    simp [mem_tsE, and_assoc]
  rw [e]
theorem with_tie_ok (n : Nat) (E : Nat → Nat → Bool) (hn : n ≤ 1000) (q : Nat × Nat) (h1 : q.1 < n) (h2 : q.2 < n) : φ_with_tie [.o (.im (webE n E)), .o (.im (tieI q))] = .ok (.o (.im (webE n fun a b => E a b || decide ((a, b) = q ∨ (b, a) = q))), []) := by
  have hl := tsE_len n E
  have h3 : n * n ≤ 1000 * 1000 := Nat.mul_le_mul hn hn
  have := web_of_ok n (tsE n E ++ [q]) (by simp; omega) (by
    intro p hp
    rcases List.mem_append.mp hp with hp | hp
    · have := mem_tsE.mp hp; omega
    · simp at hp; subst hp; exact ⟨h1, h2⟩)
  simp only [tiesI, List.map_append, List.map_cons, List.map_nil] at this
  simp (disch := trivial) [φ_with_tie, fs_with_tie, this]
  congr 1
  refine tsE_ext fun a b hab hb => ?_
  rw [Bool.eq_iff_iff]
  simp only [Eof, List.mem_append, mem_tsE, decide_eq_true_eq, Bool.or_eq_true, List.mem_singleton]
  grind
def bsE (n : Nat) (E F : Nat → Nat → Bool) (a b : Nat) : Bool := if b < n then E a b else if n ≤ a then F (a - n) (b - n) else false
def atE (n : Nat) (E F : Nat → Nat → Bool) (a b : Nat) : Bool := if b < n then E a b else if n ≤ a then F (a - n) (b - n) else true
theorem bs_ts (n m : Nat) (E F : Nat → Nat → Bool) : tsE n E ++ (tsE m F).map (fun p => (p.1 + n, p.2 + n)) = tsE (n + m) (bsE n E F) := by
  refine tsE_of ?_ fun p => ?_
  · rw [List.pairwise_append]
    refine ⟨tsE_sorted n E, List.Pairwise.map _ (fun x y h => ?_) (tsE_sorted m F), ?_⟩
    · unfold ltP at *; simp only; omega
    · intro p hp q hq
      obtain ⟨r, hr, rfl⟩ := List.mem_map.mp hq
      have := mem_tsE.mp hp
      exact .inl (by simp only; omega)
  · rw [List.mem_append, mem_tsE, List.mem_map]
    unfold bsE
    constructor
    · rintro (⟨h1, h2, h3⟩ | ⟨q, hq, rfl⟩)
      · exact ⟨h1, by omega, by rw [if_pos h2]; exact h3⟩
      · obtain ⟨h1, h2, h3⟩ := mem_tsE.mp hq
        refine ⟨by simp only; omega, by simp only; omega, ?_⟩
        simp only
        rw [if_neg (by omega), if_pos (by omega), Nat.add_sub_cancel, Nat.add_sub_cancel]; exact h3
    · rintro ⟨h1, h2, h3⟩
      by_cases c : p.2 < n
      · rw [if_pos c] at h3; exact .inl ⟨h1, c, h3⟩
      · rw [if_neg c] at h3
        by_cases d : n ≤ p.1
        · rw [if_pos d] at h3
          exact .inr ⟨(p.1 - n, p.2 - n), mem_tsE.mpr ⟨by simp only; omega, by simp only; omega, h3⟩, Prod.ext (by simp only; omega) (by simp only; omega)⟩
        · rw [if_neg d] at h3; cases h3
theorem beside_ok' (n m : Nat) (E F : Nat → Nat → Bool) (hn : n ≤ 1000) (hm : m ≤ 1000) : φ_beside [.o (.im (webE n E)), .o (.im (webE m F))] = .ok (.o (.im (webE (n + m) (bsE n E F))), []) := by
  rw [beside_ok n m E F hn hm, bs_ts]
theorem all_tied_ok (n m : Nat) (E F : Nat → Nat → Bool) (hn : n ≤ 1000) (hm : m ≤ 1000) : φ_all_tied [.o (.im (webE n E)), .o (.im (webE m F))] = .ok (.o (.im (webE (n + m) (atE n E F))), []) := by
  have hl := tsE_len (n + m) (bsE n E F)
  have h3 : (n + m) * (n + m) ≤ 2000 * 2000 := Nat.mul_le_mul (by omega) (by omega)
  have hf : ((List.range n).flatMap fun a => (List.range m).map fun b => (a, n + b)).length ≤ n * m := by
    have := length_flatMap_le (fun a => (List.range m).map fun b => (a, n + b)) m (List.range n) (fun x _ => by simp)
    simpa using this
  have h4 : n * m ≤ 1000 * 1000 := Nat.mul_le_mul hn hm
  have hw := web_of_ok (n + m) (tsE (n + m) (bsE n E F) ++ (List.range n).flatMap fun a => (List.range m).map fun b => (a, n + b)) (by rw [List.length_append]; omega) (by
    intro p hp
    rcases List.mem_append.mp hp with hp | hp
    · have := mem_tsE.mp hp; omega
    · obtain ⟨a, ha, hp⟩ := List.mem_flatMap.mp hp
      obtain ⟨b, hb, rfl⟩ := List.mem_map.mp hp
      rw [List.mem_range] at ha hb
      simp only; omega)
  simp (disch := trivial) [φ_all_tied, fs_all_tied, beside_ok' n m E F hn hm]
  rw [lc2L_pure (fun a => (List.range m).map fun b => tieD (a, n + b)) 16000000 ?len (by
    intro a ha acc hacc
    simp only [List.length_map, List.length_range] at hacc
    simp (disch := trivial)
    rw [lc2I_pure (fun _ => true) (fun b => tieD (a, n + b)) (by simp; omega) (by intro k hk; simp)]
    simp)]
  case len =>
    have : ((List.range n).flatMap fun a => (List.range m).map fun b => tieD (a, n + b)).length ≤ n * m := by
      have := length_flatMap_le (fun a => (List.range m).map fun b => tieD (a, n + b)) m (List.range n) (fun x _ => by simp)
      simpa using this
    simp only [List.length_nil]; omega
  have e : ((List.range n).flatMap fun a => (List.range m).map fun b => tieD (a, n + b)) = ((List.range n).flatMap fun a => (List.range m).map fun b => (a, n + b)).map tieD := by
    simp only [List.map_flatMap, List.map_map]; rfl
  rw [List.nil_append, e]
  have hmm : ∀ p : Nat × Nat, p ∈ ((List.range n).flatMap fun a => (List.range m).map fun b => (a, n + b)) ↔ p.1 < n ∧ n ≤ p.2 ∧ p.2 < n + m := by
    rintro ⟨x, y⟩
    simp only [List.mem_flatMap, List.mem_range, List.mem_map, Prod.mk.injEq]
    constructor
    · rintro ⟨a, ha, b, hb, rfl, rfl⟩; omega
    · rintro ⟨h1, h2, h3⟩; exact ⟨x, h1, y - n, by omega, rfl, by omega⟩
  generalize ((List.range n).flatMap fun a => (List.range m).map fun b => (a, n + b)) = more at *
  have he : tsE (n + m) (Eof (tsE (n + m) (bsE n E F) ++ more)) = tsE (n + m) (atE n E F) := by
    refine tsE_ext fun a b hab hb => ?_
    rw [Bool.eq_iff_iff]
    simp only [Eof, List.mem_append, mem_tsE, hmm, decide_eq_true_eq, bsE, atE]
    grind
  rw [show webE (n + m) (Eof (tsE (n + m) (bsE n E F) ++ more)) = webE (n + m) (atE n E F) by simp only [webE, he]] at hw
  simp only [tiesI, List.map_append, List.map_cons, List.map_nil, Int.natCast_add] at hw
  simp (disch := trivial) [hw]
theorem is_number_ok (i : Int) : φ_is_number [vI i] = .ok (vB (decide (0 ≤ i)), []) := by
  simp (disch := trivial) [φ_is_number, fs_is_number]
end Wl

set_option Elab.async false
set_option linter.all false
set_option maxRecDepth 100000
namespace Wl
open Wv PySem
local macro_rules | `(tactic| trivial) => `(tactic| (simp only [List.length_map, List.length_append, List.length_cons, List.length_nil, List.length_range, List.length_reverse, List.length_set]; omega))
local macro_rules | `(tactic| trivial) => `(tactic| (simp [Function.comp_def]; done))
local macro_rules | `(tactic| trivial) => `(tactic| assumption)
local macro_rules | `(tactic| trivial) => `(tactic| omega)
theorem look_puts_no {α β : Type} (k : α → Im) (v : α → β) (xs : List α) (acc : List (Im × β)) (key : Im) (h : ∀ x ∈ xs, k x ≠ key) : look ((xs.map fun x => (k x, v x)).foldl (fun a y => put a y.1 y.2) acc) key = look acc key := by
  induction xs generalizing acc with
  | nil => rfl
  | cons x r ih =>
    rw [List.map_cons, List.foldl_cons, ih _ fun y hy => h y (List.mem_cons_of_mem _ hy), look_put, if_neg fun z => h x List.mem_cons_self z.symm]
theorem look_puts {α β : Type} (k : α → Im) (v : α → β) (xs : List α) (acc : List (Im × β)) (hn : (xs.map k).Nodup) (x : α) (hx : x ∈ xs) : look ((xs.map fun x => (k x, v x)).foldl (fun a y => put a y.1 y.2) acc) (k x) = some (v x) := by
  induction xs generalizing acc with
  | nil => cases hx
  | cons y r ih =>
    rw [List.map_cons, List.nodup_cons] at hn
    rw [List.map_cons, List.foldl_cons]
    rcases List.mem_cons.mp hx with e | e
    · subst e
      rw [look_puts_no k v r _ _ fun z hz e => hn.1 (by rw [← e]; exact List.mem_map_of_mem hz), look_put, if_pos rfl]
    · exact ih _ hn.2 e
theorem intI_inj {a b : Nat} (h : intI a = intI b) : a = b := by simpa [intI] using h
/-- the place of the i-th -/
def pl (ps : List Nat) (i : Nat) : Nat := ps.getD i 0
theorem pl_get {ps : List Nat} {i : Nat} (h : i < ps.length) : pl ps i = ps[i] := by simp [pl, h]
theorem pl_inj {ps : List Nat} (hn : ps.Nodup) {i j : Nat} (hi : i < ps.length) (hj : j < ps.length) (h : pl ps i = pl ps j) : i = j := by
  rw [pl_get hi, pl_get hj] at h
  have := List.pairwise_iff_getElem.mp hn
  by_cases c : i < j
  · exact (this i j hi hj c h).elim
  · by_cases d : j < i
    · exact (this j i hj hi d h.symm).elim
    · omega
theorem part_of_ok (n : Nat) (E : Nat → Nat → Bool) (ps : List Nat) (hn : n ≤ 1000) (hps : ps.Nodup) (hl : ps.length ≤ 1000) : φ_part_of [.o (.im (webE n E)), .s (.lst (ps.map intD))] = .ok (.o (.im (webE ps.length fun i j => ad n E (pl ps i) (pl ps j))), []) := by
  have hl := tsE_len n E
  have h3 : n * n ≤ 1000 * 1000 := Nat.mul_le_mul hn hn
  simp (disch := trivial) [φ_part_of, fs_part_of]
  rw [List.zipIdx_map, List.map_map]
  rw [dcL_pure (fun _ => true) (fun p => intI p.1) (fun p => .im (.int (p.2 : Nat))) (by simp; omega) (by intro k hk; simp)]
  rw [filter_true]
  have hk1 : ∀ i (h : i < ps.length), look ((ps.zipIdx.map fun p => (intI p.1, Dt.im (.int (p.2 : Nat)))).foldl (fun a y => put a y.1 y.2) []) (intI ps[i]) = some (intD i) := by
    intro i hi
    exact look_puts (fun p : Nat × Nat => intI p.1) (fun p => Dt.im (.int (p.2 : Nat))) ps.zipIdx [] (by
      have : ps.zipIdx.map (fun p : Nat × Nat => intI p.1) = ps.map intI := by
        have e : ps.zipIdx.map (fun p : Nat × Nat => intI p.1) = (ps.zipIdx.map Prod.fst).map intI := by rw [List.map_map]; rfl
        rw [e, List.zipIdx_map_fst]
      rw [this]
      exact List.Pairwise.map _ (fun a b h e => h (intI_inj e)) hps) (ps[i], i) (by
      rw [List.mem_zipIdx_iff_getElem?]; simp [hi])
  have hk2 : ∀ a, a ∉ ps → look ((ps.zipIdx.map fun p => (intI p.1, Dt.im (.int (p.2 : Nat)))).foldl (fun a y => put a y.1 y.2) []) (intI a) = none := by
    intro a ha
    rw [look_puts_no]; rfl
    intro p hp e
    exact ha (intI_inj e ▸ List.fst_mem_of_mem_zipIdx hp)
  generalize (ps.zipIdx.map fun p => (intI p.1, Dt.im (.int (p.2 : Nat)))).foldl (fun a y => put a y.1 y.2) [] = kvs at *
  have hi1 : ∀ a, a ∈ ps → ps.idxOf a < ps.length := fun a h => List.idxOf_lt_length_of_mem h
  have hi2 : ∀ a, a ∈ ps → pl ps (ps.idxOf a) = a := fun a h => by rw [pl_get (hi1 a h)]; exact List.getElem_idxOf (hi1 a h)
  have hk3 : ∀ a : Nat, look kvs (.int a) = if a ∈ ps then some (intD (ps.idxOf a)) else none := by
    intro a
    by_cases c : a ∈ ps
    · rw [if_pos c, ← hk1 _ (hi1 a c), List.getElem_idxOf (hi1 a c)]
    · rw [if_neg c]; exact hk2 a c
  have hw := web_of_lok ps.length (((tsE n E).filter fun q => decide (q.1 ∈ ps ∧ q.2 ∈ ps)).map fun q => (ps.idxOf q.1, ps.idxOf q.2)) (by
      have := List.length_filter_le (fun q : Nat × Nat => decide (q.1 ∈ ps ∧ q.2 ∈ ps)) (tsE n E)
      rw [List.length_map]; omega) (by
    intro p hp
    obtain ⟨q, hq, rfl⟩ := List.mem_map.mp hp
    have := of_decide_eq_true (List.mem_filter.mp hq).2
    exact ⟨hi1 _ this.1, hi1 _ this.2⟩)
  have he : tsE ps.length (Eof (((tsE n E).filter fun q => decide (q.1 ∈ ps ∧ q.2 ∈ ps)).map fun q => (ps.idxOf q.1, ps.idxOf q.2))) = tsE ps.length fun i j => ad n E (pl ps i) (pl ps j) := by
    have key : ∀ x y, x < ps.length → y < ps.length → ((x, y) ∈ (((tsE n E).filter fun q => decide (q.1 ∈ ps ∧ q.2 ∈ ps)).map fun q => (ps.idxOf q.1, ps.idxOf q.2)) ↔ (pl ps x, pl ps y) ∈ tsE n E) := by
      intro x y hx hy
      simp only [List.mem_map, List.mem_filter, decide_eq_true_eq, Prod.mk.injEq]
      constructor
      · rintro ⟨⟨a, b⟩, ⟨hm, h1, h2⟩, rfl, rfl⟩
        rw [hi2 _ h1, hi2 _ h2]; exact hm
      · intro h
        have m1 : pl ps x ∈ ps := by rw [pl_get hx]; exact List.getElem_mem _
        have m2 : pl ps y ∈ ps := by rw [pl_get hy]; exact List.getElem_mem _
        exact ⟨_, ⟨h, m1, m2⟩, pl_inj hps (hi1 _ m1) hx (hi2 _ m1), pl_inj hps (hi1 _ m2) hy (hi2 _ m2)⟩
    refine tsE_ext fun a b hab hb => ?_
    rw [Bool.eq_iff_iff, ad_mem, Eof, decide_eq_true_eq, key a b (by omega) hb, key b a hb (by omega)]
  rw [show webE ps.length (Eof _) = webE ps.length (fun i j => ad n E (pl ps i) (pl ps j)) by simp only [webE]; rw [he]] at hw
  rw [List.map_map] at hw
  simp (disch := trivial) [Function.comp_def]
  rw [lcL_pure (fun q => decide (q.1 ∈ ps ∧ q.2 ∈ ps)) (fun q => tieD (ps.idxOf q.1, ps.idxOf q.2)) (by
    rintro ⟨a, b⟩ hq
    by_cases c : a ∈ ps <;> by_cases d : b ∈ ps <;> simp (disch := trivial) [hk3, c, d])]
  have e : (fun q : Nat × Nat => tieD (ps.idxOf q.1, ps.idxOf q.2)) = tieD ∘ fun q => (ps.idxOf q.1, ps.idxOf q.2) := rfl
  rw [e, List.nil_append]
  generalize (List.map (tieD ∘ fun q => (ps.idxOf q.1, ps.idxOf q.2)) ((tsE n E).filter fun q => decide (q.1 ∈ ps ∧ q.2 ∈ ps))) = more at *
  simp (disch := trivial) [hw]
end Wl

set_option Elab.async false
set_option linter.all false
set_option maxRecDepth 100000
set_option maxHeartbeats 4000000
namespace Wl
open Wv PySem
local macro_rules | `(tactic| trivial) => `(tactic| (simp only [List.length_map, List.length_append, List.length_cons, List.length_nil, List.length_range, List.length_reverse, List.length_set]; omega))
local macro_rules | `(tactic| trivial) => `(tactic| (simp [Function.comp_def]; done))
local macro_rules | `(tactic| trivial) => `(tactic| assumption)
local macro_rules | `(tactic| trivial) => `(tactic| omega)
@[simp] theorem draw_okI (d : Dr) (L : Int) (h : 0 < L) (h2 : L < 1073741824) : φ__law_draw [.o (drD d), .o (.im (.int L))] = .ok (vI (drw d L.toNat).1, [drD (drw d L.toNat).2]) := by
  have := draw_ok d L.toNat (by omega) (by omega)
  rw [show ((L.toNat : Nat) : Int) = L by omega] at this
  exact this
theorem without_place_ok (n : Nat) (E : Nat → Nat → Bool) (p : Nat) (hn : n ≤ 1000) : φ_without_place [.o (.im (webE n E)), vI p] = φ_part_of [.o (.im (webE n E)), .s (.lst (((List.range n).filter fun x => decide (x ≠ p)).map intD))] := by
  have hl : ((List.range n).filter fun x => decide (x ≠ p)).length ≤ 1000 := by
    have := List.length_filter_le (fun x => decide (x ≠ p)) (List.range n)
    rw [List.length_range] at this; omega
  have := part_of_ok n E ((List.range n).filter fun x => decide (x ≠ p)) hn (List.nodup_range.filter _) hl
  rw [this]
  simp (disch := trivial) [φ_without_place, fs_without_place]
  rw [lcL_pure (fun x => decide (x ≠ p)) intD (by
    intro k hk
    by_cases c : k = p
    · subst c; simp
    · simp [c])]
  simp at this
  simp [this]
abbrev lwE (d : Dr) (lo hi n w : Nat) (s5 s6 s7 s8 : Sl) : Ev := [Sl.o (drD d), Sl.o (Dt.im (Im.int lo)), Sl.o (Dt.im (Im.int hi)), Sl.o (Dt.im (Im.int n)), Sl.o (Dt.im (Im.int w)), s5, s6, s7, s8, Sl.e, Sl.e, Sl.e, Sl.e]
/-- ties that are drawn -/
def TsOk (n B : Nat) (acc : List Dt) : Prop := ∃ l : List (Nat × Nat), acc = l.map tieD ∧ l.length ≤ B ∧ ∀ p ∈ l, p.1 < n ∧ p.2 < n
theorem law_web_ok (d : Dr) (lo hi : Nat) (h : lo ≤ hi) (h2 : hi ≤ 100) : Tr (φ__law_web [.o (drD d), vI lo, vI hi]) fun r => ∃ n E d', r = (.o (.im (webE n E)), [drD d']) ∧ lo ≤ n ∧ n ≤ hi := by
  refine Tr.gen fun P hP => ?_
  have e1 : ((hi : Int) - lo + 1).toNat = hi - lo + 1 := by omega
  have b1 := drw_lt d (hi - lo + 1) (by omega)
  have b2 := drw_lt (drw d (hi - lo + 1)).2 8 (by omega)
  simp (disch := trivial) [φ__law_web, fs__law_web, e1]
  rw [show (lo : Int) + ((drw d (hi - lo + 1)).1 : Int) = ((lo + (drw d (hi - lo + 1)).1 : Nat) : Int) by simp]
  generalize (drw d (hi - lo + 1)).1 = x at *
  generalize hd : (drw d (hi - lo + 1)).2 = d1 at *
  generalize (drw d1 8).1 = w at *
  generalize (drw d1 8).2 = d2 at *
  have hn : lo + x ≤ hi := by omega
  have hn2 : lo ≤ lo + x := by omega
  generalize lo + x = n at *
  rw [pairs_ok n (by omega)]
  simp (disch := trivial)
  have hpn : ∀ p ∈ pairsN n, p.1 < n ∧ p.2 < n := fun p hp => by have := mem_pairsN.mp hp; omega
  have hpl := pairsN_len n
  have hnn : n * n ≤ 100 * 100 := Nat.mul_le_mul (by omega) (by omega)
  have fin : ∀ (l : List (Nat × Nat)) (d' : Dr), l.length ≤ 20000 → (∀ p ∈ l, p.1 < n ∧ p.2 < n) → φ__law_made [vI n, .s (.lst (l.map tieD))] = .ok (.o (.im (webE n (Eof l))), []) ∧ P (.o (.im (webE n (Eof l))), [drD d']) := fun l d' hl hp =>
    ⟨made_ok n l (by omega) hp, hP _ ⟨n, _, d', rfl, hn2, hn⟩⟩
  by_cases c0 : w = 0
  · simp (disch := trivial) [c0]
    refine (lcL_tr (fun ys ρ acc => ∃ d, ρ = lwE d lo hi n 0 (Sl.o (Dt.lst (List.map tieD (pairsN n)))) .e .e .e ∧ TsOk n ys.length acc) ⟨_, rfl, [], rfl, by simp, by simp⟩ ?_).bind ?_
    · rintro ys k zs _ acc e ⟨d, rfl, l, rfl, hl, hp⟩
      have hk : k < n - 1 := by
        have : k ∈ List.range (n - 1) := by rw [e]; simp
        simpa using this
      refine Tr.gen fun P hP => ?_
      have e2 : (1 + (k : Int)).toNat = 1 + k := by omega
      have b3 := drw_lt d (1 + k) (by omega)
      simp (disch := trivial) [e2]
      refine ⟨_, rfl, hP _ ⟨_, rfl, l ++ [(1 + k, (drw d (1 + k)).1)], by simp, by simp; omega, ?_⟩⟩
      intro p hp'
      rcases List.mem_append.mp hp' with h | h
      · exact hp p h
      · simp at h; subst h; exact ⟨by simp only; omega, by simp only; omega⟩
    · rintro ⟨_, _⟩ ⟨d, rfl, l, rfl, hl, hp⟩
      simp only [List.length_range] at hl
      obtain ⟨f1, f2⟩ := fin l d (by omega) hp
      simp (disch := trivial) [f1]
      exact ⟨_, rfl, f2⟩
  have sel : ∀ (d2 : Dr) (L : Nat) (T : Nat → Bool) (s6 s7 s8 : Sl) (f : Ft), 0 < L → L < 100 → (∀ d q, f [Sl.o (drD d), Sl.o (Dt.im (Im.int lo)), Sl.o (Dt.im (Im.int hi)), Sl.o (Dt.im (Im.int n)), Sl.o (Dt.im (Im.int w)), Sl.l (Dt.lst (List.map tieD (pairsN n))), s6, s7, s8, Sl.o (tieD q), Sl.e, Sl.e, Sl.e] = .ok (T (drw d L).1, [Sl.o (drD (drw d L).2), Sl.o (Dt.im (Im.int lo)), Sl.o (Dt.im (Im.int hi)), Sl.o (Dt.im (Im.int n)), Sl.o (Dt.im (Im.int w)), Sl.l (Dt.lst (List.map tieD (pairsN n))), s6, s7, s8, Sl.o (tieD q), Sl.e, Sl.e, Sl.e])) →
      Tr (lcL true [9] (Tgt.nm 9) f (rdM 9) (List.map (Itm.one ∘ tieD) (pairsN n)) (lwE d2 lo hi n w (Sl.l (Dt.lst (List.map tieD (pairsN n)))) s6 s7 s8) []) fun q => ∃ d, q.2 = lwE d lo hi n w (Sl.l (Dt.lst (List.map tieD (pairsN n)))) s6 s7 s8 ∧ TsOk n (pairsN n).length q.1 := by
    intro d2 L T s6 s7 s8 f hL hL2 hf
    refine lcL_tr (fun ys ρ acc => ∃ d, ρ = lwE d lo hi n w (Sl.l (Dt.lst (List.map tieD (pairsN n)))) s6 s7 s8 ∧ TsOk n ys.length acc) ⟨_, rfl, [], rfl, by simp, by simp⟩ ?_
    rintro ys q zs _ acc e ⟨d, rfl, l, rfl, hl, hp⟩
    refine Tr.gen fun P hP => ?_
    have hq : q ∈ pairsN n := by rw [e]; simp
    simp (disch := trivial) [hf]
    by_cases c : T (drw d L).1 = true
    · simp [c]
      refine ⟨_, rfl, hP _ ⟨_, rfl, l ++ [q], by simp, by simp; omega, ?_⟩⟩
      intro p hp'
      rcases List.mem_append.mp hp' with h | h
      · exact hp p h
      · simp at h; subst h; exact hpn p hq
    · simp [c]
      exact ⟨_, rfl, hP _ ⟨_, rfl, l, by simp, by simp; omega, hp⟩⟩
  by_cases c1 : w = 1 ∧ 2 < n
  · obtain ⟨c1, c2⟩ := c1
    subst c1
    have c2' : (2 : Int) < n := by omega
    simp (disch := trivial) [c2']
    refine (sel d2 5 (fun v => decide (v = 0)) .e .e .e _ (by omega) (by omega) ?_).bind ?_
    · intro d q
      simp (disch := trivial)
    · rintro ⟨_, _⟩ ⟨d, rfl, l, rfl, hl, hp⟩
      have e3 : ((n : Int) - 1).toNat = n - 1 := by omega
      obtain ⟨f1, f2⟩ := fin ((List.range (n - 1)).map (fun k => (k, k + 1)) ++ (0, n - 1) :: l) d (by simp; omega) (by
        intro p hp'
        rcases List.mem_append.mp hp' with hp' | hp'
        · obtain ⟨k, hk, rfl⟩ := List.mem_map.mp hp'
          have := List.mem_range.mp hk
          exact ⟨by simp only; omega, by simp only; omega⟩
        · rcases List.mem_cons.mp hp' with hp' | hp'
          · subst hp'; exact ⟨by simp only; omega, by simp only; omega⟩
          · exact hp p hp')
      simp (disch := trivial) [e3]
      rw [lcL_map (fun k => tieD (k, k + 1)) (by intro k hk; simp)]
      have e4 : (Dt.im (Im.tup [Im.int 0, Im.int ((n : Int) - 1)])) = tieD (0, n - 1) := by
        have : (n : Int) - 1 = ((n - 1 : Nat) : Int) := by omega
        simp only [tieD, tieI, this]; rfl
      have e5 : List.map tieD ((List.range (n - 1)).map (fun k => (k, k + 1)) ++ (0, n - 1) :: l) = List.map (fun k => tieD (k, k + 1)) (List.range (n - 1)) ++ tieD (0, n - 1) :: List.map tieD l := by simp
      rw [e5] at f1
      simp (disch := trivial) [e4, f1]
      exact ⟨_, rfl, f2⟩
  have c1' : w = 1 → ¬ (2 : Int) < n := by omega
  have c1i : ¬ (w = 1 ∧ (2 : Int) < n) := by omega
  by_cases c2 : w = 2
  · subst c2
    simp (disch := trivial)
    refine (lcL_tr (fun ys ρ acc => ∃ d, ρ = lwE d lo hi n 2 (Sl.o (Dt.lst (List.map tieD (pairsN n)))) .e .e .e ∧ ∃ vs : List Nat, acc = vs.map intD ∧ vs.length = ys.length) ⟨_, rfl, [], rfl, by simp⟩ ?_).bind ?_
    · rintro ys k zs _ acc e ⟨d, rfl, vs, rfl, hl⟩
      refine Tr.gen fun P hP => ?_
      simp (disch := trivial)
      exact ⟨_, rfl, hP _ ⟨_, rfl, vs ++ [(drw d 2).1], by simp, by simp; omega⟩⟩
    · rintro ⟨_, _⟩ ⟨d, rfl, vs, rfl, hl⟩
      simp only [List.length_range] at hl
      simp (disch := trivial)
      refine (lcL_tr (fun ys ρ acc => ∃ d, ρ = lwE d lo hi n 2 (Sl.l (Dt.lst (List.map tieD (pairsN n)))) .e .e (Sl.o (Dt.lst (List.map intD vs))) ∧ TsOk n ys.length acc) ⟨_, rfl, [], rfl, by simp, by simp⟩ ?_).bind ?_
      · rintro ys ⟨a, b⟩ zs _ acc e ⟨d, rfl, l, rfl, hl', hp⟩
        refine Tr.gen fun P hP => ?_
        have hq : (a, b) ∈ pairsN n := by rw [e]; simp
        have hq' := hpn _ hq
        simp only at hq'
        simp (disch := trivial)
        by_cases c : vs[a] = vs[b]
        · simp [c]
          exact ⟨_, rfl, hP _ ⟨_, rfl, l, by simp, by simp; omega, hp⟩⟩
        · by_cases c' : (drw d 3).1 = 0
          · simp [c, c']
            exact ⟨_, rfl, hP _ ⟨_, rfl, l, by simp, by simp; omega, hp⟩⟩
          · simp [c, c']
            refine ⟨_, rfl, hP _ ⟨_, rfl, l ++ [(a, b)], by simp [c'], by simp; omega, ?_⟩⟩
            intro p hp'
            rcases List.mem_append.mp hp' with h | h
            · exact hp p h
            · simp at h; subst h; exact hq'
      · rintro ⟨_, _⟩ ⟨d, rfl, l, rfl, hl, hp⟩
        obtain ⟨f1, f2⟩ := fin l d (by omega) hp
        simp (disch := trivial) [f1]
        exact ⟨_, rfl, f2⟩
  by_cases c3 : w = 3
  · subst c3
    simp (disch := trivial)
    refine (sel d2 6 (fun v => decide (0 < v)) .e .e .e _ (by omega) (by omega) ?_).bind ?_
    · intro d q
      simp (disch := trivial)
    · rintro ⟨_, _⟩ ⟨d, rfl, l, rfl, hl, hp⟩
      obtain ⟨f1, f2⟩ := fin l d (by omega) hp
      simp (disch := trivial) [f1]
      exact ⟨_, rfl, f2⟩
  · have d0 : ¬ (w : Int) = 0 := by omega
    have f2 : ¬ (w : Int) = 2 := by omega
    have d3 : ¬ (w : Int) = 3 := by omega
    have f1 : ¬ ((w : Int) = 1 ∧ (2 : Int) < n) := by omega
    simp (disch := trivial) [c0, f1, f2, d3]
    generalize hv : (drw _ 4).1 = v
    have hv4 : v < 4 := by rw [← hv]; exact drw_lt _ _ (by omega)
    generalize (drw _ 4).2 = d2'
    have e2 : ((2 : Int) + v).toNat = 2 + v := by omega
    refine (sel d2' (2 + v) (fun v => decide (v = 0)) (Sl.o (Dt.im (Im.int (2 + v)))) .e .e _ (by omega) (by omega) ?_).bind ?_
    · intro d q
      simp (disch := trivial) [e2]
    · rintro ⟨_, _⟩ ⟨d, rfl, l, rfl, hl, hp⟩
      obtain ⟨f1, f2⟩ := fin l d (by omega) hp
      simp (disch := trivial) [f1]
      exact ⟨_, rfl, f2⟩
end Wl

set_option Elab.async false
set_option linter.all false
set_option maxRecDepth 100000
set_option maxHeartbeats 4000000
namespace Wl
open Wv PySem
local macro_rules | `(tactic| trivial) => `(tactic| (simp only [List.length_map, List.length_append, List.length_cons, List.length_nil, List.length_range, List.length_reverse, List.length_set]; omega))
local macro_rules | `(tactic| trivial) => `(tactic| (simp [Function.comp_def]; done))
local macro_rules | `(tactic| trivial) => `(tactic| assumption)
local macro_rules | `(tactic| trivial) => `(tactic| omega)
/-- keys of a dict of places: as many as places only if none comes twice -/
theorem puts_len {α β : Type} (k : α → Im) (v : β) (xs : List α) (acc : List (Im × β)) : (xs.foldl (fun a x => put a (k x) v) acc).length ≤ acc.length + xs.length := by
  induction xs generalizing acc with
  | nil => simp
  | cons x r ih =>
    have := ih (put acc (k x) v)
    have := put_len acc (k x) v
    simp only [List.foldl_cons, List.length_cons]; omega
theorem put_in {β : Type} (l : List (Im × β)) (k : Im) (v : β) (h : k ∈ l.map (·.1)) : (put l k v).length = l.length := by
  unfold put
  obtain ⟨p, hp, e⟩ := List.mem_map.mp h
  rw [if_pos (List.any_eq_true.mpr ⟨p, hp, decide_eq_true e⟩), List.length_map]
theorem put_out {β : Type} (l : List (Im × β)) (k : Im) (v : β) (h : k ∉ l.map (·.1)) : (put l k v).length = l.length + 1 := by
  unfold put
  rw [if_neg, List.length_append]; rfl
  rw [List.any_eq_true]; rintro ⟨p, hp, e⟩
  exact h (List.mem_map.mpr ⟨p, hp, of_decide_eq_true e⟩)
theorem puts_nodup {α β : Type} (k : α → Im) (v : β) (xs : List α) (acc : List (Im × β)) : (xs.foldl (fun a x => put a (k x) v) acc).length = acc.length + xs.length ↔ (xs.map k).Nodup ∧ ∀ x ∈ xs, k x ∉ acc.map (·.1) := by
  induction xs generalizing acc with
  | nil => simp
  | cons x r ih =>
    simp only [List.foldl_cons, List.length_cons, List.map_cons, List.nodup_cons]
    by_cases c : k x ∈ acc.map (·.1)
    · have h1 := puts_len k v r (put acc (k x) v)
      rw [put_in acc (k x) v c] at h1
      constructor
      · intro h; omega
      · intro h; exact (h.2 x List.mem_cons_self c).elim
    · have h1 := ih (put acc (k x) v)
      rw [put_out acc (k x) v c] at h1
      rw [show acc.length + (r.length + 1) = acc.length + 1 + r.length by omega, h1]
      constructor
      · rintro ⟨h2, h3⟩
        refine ⟨⟨?_, h2⟩, ?_⟩
        · intro hm
          obtain ⟨y, hy, e⟩ := List.mem_map.mp hm
          exact h3 y hy (by rw [put_mem, e]; exact .inr rfl)
        · intro y hy
          rcases List.mem_cons.mp hy with rfl | hy
          · exact c
          · exact fun hm => h3 y hy (by rw [put_mem]; exact .inl hm)
      · rintro ⟨⟨h2, h3⟩, h4⟩
        refine ⟨h3, fun y hy hm => ?_⟩
        rw [put_mem] at hm
        rcases hm with hm | hm
        · exact h4 y (List.mem_cons_of_mem _ hy) hm
        · exact h2 (hm ▸ List.mem_map_of_mem hy)
theorem nodup_intI {l : List Nat} : (l.map intI).Nodup ↔ l.Nodup := by
  constructor
  · intro h
    exact (List.pairwise_map.mp h).imp fun {a b} h e => h (by rw [e])
  · intro h; exact List.Pairwise.map _ (fun a b h e => h (intI_inj e)) h
@[simp] theorem decide_cast (a b : Nat) : decide ((a : Int) = (b : Int)) = decide (a = b) := by simp
/-- a road: places of the web, none twice, each tied to the next -/
def isRoad (n : Nat) (E : Nat → Nat → Bool) (row : List Nat) : Bool := !row.isEmpty && row.all (fun a => decide (a < n)) && decide row.Nodup && (row.zip row.tail).all fun p => ad n E p.1 p.2
theorem is_road_ok (n : Nat) (E : Nat → Nat → Bool) (row : List Nat) (hr : row.length ≤ 1000) : φ_is_road [.o (.im (webE n E)), .o (.im (.tup (row.map intI)))] = .ok (vB (isRoad n E row), []) := by
  have e0 : List.map ((fun i => Itm.one (Dt.im i)) ∘ intI) row = row.map fun a => Itm.one (intD a) := rfl
  have e1 : ∀ ρ : Ev, ρ = [Sl.o (Dt.im (webE n E)), Sl.o (Dt.im (Im.tup (List.map intI row))), Sl.e, Sl.e] → lcL false [2] (Tgt.nm 2) yesT (Wv.andM (callM 1 [] φ_is_number (cyM 2 cnM)) (b2M true (rdM 2) (b2M true (rdM 0) (kM (Im.int 0)) ixH) ltH)) (row.map fun a => Itm.one (intD a)) ρ [] = .ok (row.map fun a => Dt.im (.bl (decide (a < n))), ρ) := by
    intro ρ hρ; subst hρ
    rw [lcL_map (fun a => Dt.im (.bl (decide (a < n)))) (by intro k hk; simp (disch := trivial) [is_number_ok]), List.nil_append]
  simp (disch := trivial) [φ_is_road, fs_is_road, is_number_ok, e0, e1]
  by_cases c : row = [] ∨ ∃ x, x ∈ row ∧ n ≤ x
  · simp [c]
    unfold isRoad
    rcases c with c | ⟨x, hx, hn⟩
    · subst c; rfl
    · have : row.all (fun a => decide (a < n)) = false := by
        rw [List.all_eq_false]; exact ⟨x, hx, by simp; omega⟩
      rw [this]; simp
  · simp (disch := trivial) [c]
    have c1 : row ≠ [] := fun h => c (.inl h)
    have c2 : ∀ x ∈ row, x < n := fun x hx => by
      have : ¬ n ≤ x := fun h => c (.inr ⟨x, hx, h⟩)
      omega
    rw [e0, dcL_pure (fun _ => true) intI (fun _ => .im (.bl true)) (by simp; omega) (by intro k hk; simp), filter_true, foldl_pair]
    have hl := puts_nodup intI (Dt.im (.bl true)) row []
    simp only [List.length_nil, Nat.zero_add, List.map_nil, List.not_mem_nil, not_false_eq_true, implies_true, and_true, nodup_intI] at hl
    generalize row.foldl (fun a x => put a (intI x) (Dt.im (.bl true))) [] = kvs at *
    have e3 : (row.all fun a => decide (a < n)) = true := by
      rw [List.all_eq_true]; exact fun x hx => decide_eq_true (c2 x hx)
    have e4 : row.isEmpty = false := by simpa using c1
    by_cases c3 : row.Nodup
    · have c4 := hl.mpr c3
      simp (disch := trivial) [c4, List.zip_map, Function.comp_def]
      rw [← List.map_tail, List.zip_map, List.map_map]
      rw [lcL_map (fun p => Dt.im (.bl (ad n E p.1 p.2))) (by
        rintro ⟨a, b⟩ hk
        simp (disch := trivial) [tied_ok])]
      simp (disch := trivial) [isRoad, e3, e4, c3]
    · have c4 : ¬ kvs.length = row.length := fun h => c3 (hl.mp h)
      simp (disch := trivial) [c4, isRoad, c3]
theorem atI_last {α : Type} (l : List α) (h : l ≠ []) : L2.atI l (-1) = some (l.getLast h) := by
  have hl : 0 < l.length := List.length_pos_iff.mpr h
  unfold L2.atI L2.ixN
  rw [if_neg (by omega), if_pos (by omega)]
  have : ((-1 : Int) + l.length).toNat = l.length - 1 := by omega
  rw [this, List.getLast_eq_getElem]
  simp [List.getElem?_eq_getElem (show l.length - 1 < l.length by omega)]
theorem atI_0 {α : Type} (l : List α) (h : l ≠ []) : L2.atI l 0 = some (l.head h) := by
  have hl : 0 < l.length := List.length_pos_iff.mpr h
  have := at_nat l 0 hl
  rw [List.getElem?_eq_getElem hl, List.getElem_zero] at this
  exact this
def isRing (n : Nat) (E : Nat → Nat → Bool) (row : List Nat) : Bool := isRoad n E row && (decide (2 < row.length) && ad n E (row.headD 0) (row.getLastD 0))
theorem is_ring_ok (n : Nat) (E : Nat → Nat → Bool) (row : List Nat) (hr : row.length ≤ 1000) : φ_is_ring [.o (.im (webE n E)), .o (.im (.tup (row.map intI)))] = .ok (vB (isRing n E row), []) := by
  by_cases c : isRoad n E row = true
  · by_cases c2 : 2 < row.length
    · have c3 : (2 : Int) < row.length := by omega
      have c4 : row ≠ [] := by rintro rfl; simp at c2
      have c5 : row.map intI ≠ [] := by simpa using c4
      have e1 : (row.map intI).head c5 = intI (row.headD 0) := by
        cases row with
        | nil => simp at c4
        | cons a r => rfl
      have e2 : (row.map intI).getLast c5 = intI (row.getLastD 0) := by
        rw [List.getLast_map, List.getLastD_eq_getLast?, List.getLast?_eq_some_getLast c4]; rfl
      simp (disch := trivial) [φ_is_ring, fs_is_ring, is_road_ok, c, c3, atI_0 _ c5, atI_last _ c5, e1, e2, tied_ok, isRing, c2]
    · have c3 : ¬ (2 : Int) < row.length := by omega
      simp (disch := trivial) [φ_is_ring, fs_is_ring, is_road_ok, c, c3, isRing, c2]
  · simp (disch := trivial) [φ_is_ring, fs_is_ring, is_road_ok, c, isRing]
end Wl

set_option Elab.async false
set_option linter.all false
set_option maxRecDepth 100000
set_option maxHeartbeats 4000000
namespace Wl
open Wv PySem
local macro_rules | `(tactic| trivial) => `(tactic| (simp only [List.length_map, List.length_append, List.length_cons, List.length_nil, List.length_range, List.length_reverse, List.length_set]; omega))
local macro_rules | `(tactic| trivial) => `(tactic| (simp [Function.comp_def]; done))
local macro_rules | `(tactic| trivial) => `(tactic| assumption)
local macro_rules | `(tactic| trivial) => `(tactic| omega)
/-! ## sets kept as dicts -/
abbrev setL (ks : List Nat) : List (Im × Dt) := ks.map fun (k : Nat) => (Im.int k, Dt.im (.bl true))
def addN (ks : List Nat) (k : Nat) : List Nat := if k ∈ ks then ks else ks ++ [k]
theorem setL_keys (ks : List Nat) : (setL ks).map (·.1) = ks.map intI := by simp [setL, Function.comp_def]
theorem mem_intI {k : Nat} {ks : List Nat} : Im.int k ∈ ks.map intI ↔ k ∈ ks := by
  simp only [List.mem_map]
  exact ⟨fun ⟨r, h, e⟩ => intI_inj e ▸ h, fun h => ⟨k, h, rfl⟩⟩
theorem put_setL (ks : List Nat) (k : Nat) : put (setL ks) (Im.int k) (Dt.im (.bl true)) = setL (addN ks k) := by
  unfold addN put
  by_cases c : k ∈ ks
  · have : ((setL ks).any fun p => decide (p.1 = Im.int k)) = true := by
      rw [List.any_eq_true]; exact ⟨(Im.int k, _), List.mem_map.mpr ⟨k, c, rfl⟩, by simp⟩
    rw [if_pos this, if_pos c, List.map_map]
    apply List.map_congr_left; intro x _
    simp only [Function.comp]
    split
    · rename_i h; exact Prod.ext rfl rfl
    · rfl
  · have : ¬ ((setL ks).any fun p => decide (p.1 = Im.int k)) = true := by
      rw [List.any_eq_true]; rintro ⟨p, hp, e⟩
      obtain ⟨x, hx, rfl⟩ := List.mem_map.mp hp
      exact c (by have := intI_inj (of_decide_eq_true e); exact this ▸ hx)
    rw [if_neg this, if_neg c]; simp [setL]
theorem look_setL (ks : List Nat) (k : Nat) : look (setL ks) (Im.int k) = if k ∈ ks then some (Dt.im (.bl true)) else none := by
  induction ks with
  | nil => rfl
  | cons x r ih =>
    rw [setL, List.map_cons, look_cons]
    by_cases c : x = k
    · subst c; simp
    · rw [if_neg (fun z => c (intI_inj z))]
      simp only [List.mem_cons, fun z : k = x => c z.symm]
      have : (k = x ∨ k ∈ r) ↔ k ∈ r := ⟨fun h => h.resolve_left fun z => c z.symm, .inr⟩
      simp only [this]; exact ih
theorem look_setL_none (ks : List Nat) (k : Nat) : look (setL ks) (Im.int k) = none ↔ k ∉ ks := by
  rw [look_setL]; by_cases c : k ∈ ks <;> simp [c]
@[simp] theorem allIm_setL (ks : List Nat) : allIm (setL ks) = true := by simp [allIm]
theorem putAll_setL (as bs : List Nat) : putAll (setL as) (setL bs) = setL (bs.foldl addN as) := by
  unfold putAll
  induction bs generalizing as with
  | nil => rfl
  | cons b r ih =>
    have := put_setL as b
    show List.foldl _ (put (setL as) (Im.int b) (Dt.im (.bl true))) (setL r) = setL (r.foldl addN (addN as b))
    rw [this]; exact ih _
theorem mem_addN {ks : List Nat} {k x : Nat} : x ∈ addN ks k ↔ x ∈ ks ∨ x = k := by
  unfold addN; split
  · rename_i h; exact ⟨.inl, fun h' => h'.elim id fun e => e ▸ h⟩
  · simp
theorem mem_addNs {bs ks : List Nat} {x : Nat} : x ∈ bs.foldl addN ks ↔ x ∈ ks ∨ x ∈ bs := by
  induction bs generalizing ks with
  | nil => simp
  | cons b r ih => rw [List.foldl_cons, ih, mem_addN, List.mem_cons, or_assoc]
theorem nodup_addN {ks : List Nat} (h : ks.Nodup) (k : Nat) : (addN ks k).Nodup := by
  unfold addN; split
  · exact h
  · rename_i c
    rw [List.nodup_append]
    exact ⟨h, by simp, fun a ha b hb e => c (by simp at hb; rw [← hb, ← e]; exact ha)⟩
theorem nodup_addNs {bs ks : List Nat} (h : ks.Nodup) : (bs.foldl addN ks).Nodup := by
  induction bs generalizing ks with
  | nil => exact h
  | cons b r ih => exact ih (nodup_addN h b)
theorem nodup_lt_len {l : List Nat} {n : Nat} (h : l.Nodup) (hl : ∀ x ∈ l, x < n) : l.length ≤ n := by
  have := List.Nodup.length_le_of_subset h (l₂ := List.range n) fun x hx => List.mem_range.mpr (hl x hx)
  simpa using this
/-! ## hanging together -/
inductive Cn (A : Nat → Nat → Bool) (a : Nat) : Nat → Prop
  | refl : Cn A a a
  | step {b c} : Cn A a b → A b c = true → Cn A a c
theorem Cn.trans {A : Nat → Nat → Bool} {a b c : Nat} (h : Cn A a b) (k : Cn A b c) : Cn A a c := by
  induction k with
  | refl => exact h
  | step _ e ih => exact .step ih e
theorem Cn.one {A : Nat → Nat → Bool} {a b : Nat} (h : A a b = true) : Cn A a b := .step .refl h
theorem Cn.symm {A : Nat → Nat → Bool} (hs : ∀ a b, A a b = A b a) {a b : Nat} (h : Cn A a b) : Cn A b a := by
  induction h with
  | refl => exact .refl
  | step _ e ih => exact (Cn.one (by rw [hs]; exact e)).trans ih
theorem Cn.lt {n : Nat} {E : Nat → Nat → Bool} {a b : Nat} (h : Cn (ad n E) a b) (ha : a < n) : b < n := by
  cases h with
  | refl => exact ha
  | step _ e => exact (ad_lt e).2.1
open Classical in
noncomputable def cn (n : Nat) (E : Nat → Nat → Bool) (a b : Nat) : Bool := decide (Cn (ad n E) a b)
theorem cn_iff {n : Nat} {E : Nat → Nat → Bool} {a b : Nat} : cn n E a b = true ↔ Cn (ad n E) a b := by simp [cn]
theorem cn_comm (n : Nat) (E : Nat → Nat → Bool) (a b : Nat) : cn n E a b = cn n E b a := by
  rw [Bool.eq_iff_iff, cn_iff, cn_iff]
  exact ⟨.symm (ad_comm n E), .symm (ad_comm n E)⟩
noncomputable def lead (n : Nat) (E : Nat → Nat → Bool) (k : Nat) : Bool := (List.range k).all fun j => !cn n E j k
theorem lead_iff {n : Nat} {E : Nat → Nat → Bool} {k : Nat} : lead n E k = true ↔ ∀ j, j < k → ¬ Cn (ad n E) j k := by
  simp only [lead, List.all_eq_true, List.mem_range, Bool.not_eq_true', ← Bool.not_eq_true, cn_iff]
noncomputable def cls (n : Nat) (E : Nat → Nat → Bool) (k : Nat) : List Nat := (List.range n).filter (cn n E k)
noncomputable def comps (n : Nat) (E : Nat → Nat → Bool) : List (List Nat) := ((List.range n).filter (lead n E)).map (cls n E)
theorem mem_cls {n : Nat} {E : Nat → Nat → Bool} {k b : Nat} (hk : k < n) : b ∈ cls n E k ↔ Cn (ad n E) k b := by
  simp only [cls, List.mem_filter, List.mem_range, cn_iff]
  exact ⟨fun h => h.2, fun h => ⟨h.lt hk, h⟩⟩
/-- what stands while a part is being walked: todo, part -/
structure Dfs (n : Nat) (E : Nat → Nat → Bool) (k : Nat) (ts P : List Nat) : Prop where
  nd : P.Nodup
  ndt : ts.Nodup
  lt : ∀ p ∈ P, p < n
  cn : ∀ p ∈ P, Cn (ad n E) k p
  sub : ∀ t ∈ ts, t ∈ P
  mem : k ∈ P
  cl : ∀ p ∈ P, p ∉ ts → ∀ q, ad n E p q = true → q ∈ P
theorem Dfs.start {n : Nat} {E : Nat → Nat → Bool} {k : Nat} (h : k < n) : Dfs n E k [k] [k] := by
  refine ⟨by simp, by simp, by simpa using h, by simpa using .refl, by simp, by simp, ?_⟩
  intro p hp hn; exact (hn hp).elim
theorem Dfs.next {n : Nat} {E : Nat → Nat → Bool} {k x : Nat} {ts P : List Nat} (h : Dfs n E k (ts ++ [x]) P) :
    Dfs n E k (ts ++ (nb n E x).filter fun q => decide (q ∉ P)) (P ++ (nb n E x).filter fun q => decide (q ∉ P)) := by
  have hx : x ∈ P := h.sub x (by simp)
  have hnew : ∀ q, q ∈ ((nb n E x).filter fun q => decide (q ∉ P)) ↔ ad n E x q = true ∧ q ∉ P := by
    intro q; rw [List.mem_filter, mem_nb, decide_eq_true_eq]
  refine ⟨?_, ?_, ?_, ?_, ?_, List.mem_append_left _ h.mem, ?_⟩
  · rw [List.nodup_append]
    refine ⟨h.nd, ((nb_sorted n E x).imp fun {a b} h => (by omega : a ≠ b)).filter _, fun a ha b hb e => ?_⟩
    subst e; exact ((hnew a).mp hb).2 ha
  · rw [List.nodup_append]
    refine ⟨h.ndt.sublist (List.sublist_append_left _ _), ((nb_sorted n E x).imp fun {a b} h => (by omega : a ≠ b)).filter _, fun a ha b hb e => ?_⟩
    subst e; exact ((hnew a).mp hb).2 (h.sub a (by simp [ha]))
  · intro p hp
    rcases List.mem_append.mp hp with hp | hp
    · exact h.lt p hp
    · exact (ad_lt ((hnew p).mp hp).1).2.1
  · intro p hp
    rcases List.mem_append.mp hp with hp | hp
    · exact h.cn p hp
    · exact (h.cn x hx).step ((hnew p).mp hp).1
  · intro t ht
    rcases List.mem_append.mp ht with ht | ht
    · exact List.mem_append_left _ (h.sub t (by simp [ht]))
    · exact List.mem_append_right _ ht
  · intro p hp hn q hq
    by_cases hqP : q ∈ P
    · exact List.mem_append_left _ hqP
    rcases List.mem_append.mp hp with hp | hp
    · by_cases e : p = x
      · subst e; exact List.mem_append_right _ ((hnew q).mpr ⟨hq, hqP⟩)
      · refine List.mem_append_left _ (h.cl p hp (fun hm => ?_) q hq)
        rcases List.mem_append.mp hm with hm | hm
        · exact hn (List.mem_append_left _ hm)
        · simp at hm; exact e hm
    · exact (hn (List.mem_append_right _ hp)).elim
theorem Dfs.stop {n : Nat} {E : Nat → Nat → Bool} {k : Nat} {P : List Nat} (h : Dfs n E k [] P) (x : Nat) : x ∈ P ↔ Cn (ad n E) k x := by
  refine ⟨h.cn x, fun c => ?_⟩
  induction c with
  | refl => exact h.mem
  | step _ e ih => exact h.cl _ ih (by simp) _ e
theorem Dfs.len {n : Nat} {E : Nat → Nat → Bool} {k : Nat} {ts P : List Nat} (h : Dfs n E k ts P) : P.length ≤ n := nodup_lt_len h.nd h.lt
abbrev inE (n : Nat) (E : Nat → Nat → Bool) (s1 : Sl) (seen : List Nat) (fd : List Dt) (place : Nat) (ts P : List Nat) (j : Sl) : Ev :=
  [Sl.o (Dt.im (webE n E)), s1, .o (.dic false (setL seen)), .o (.lst fd), .o (intD place), .o (.lst (ts.map intD)), .o (.dic false (setL P)), j]
theorem comp_for (n : Nat) (E : Nat → Nat → Bool) (hn : n ≤ 1000) (s1 : Sl) (seen : List Nat) (fd : List Dt) (place : Nat) (j0 : Sl) (x : Nat) (ts P : List Nat) (ht : ts.length ≤ 2000) (hP : P.length ≤ 1000) :
    Tr (forL (.nm 7) (seqM (ifS (tbM (b2M true (rdM 7) (rdM 6) (inH true))) (seqM (stoM 6 (plM 6) (rdM 7) (kM (.bl true)) setH)
      (seqM (expM (muM 5 (plM 5) "list" false (acM true (mvM 7) anM) appH)) nxM)) nxM) nxM) ((nb n E x).map (Itm.one ∘ intD)) (inE n E s1 seen fd place ts P j0))
      fun u => ∃ j, u = .nx (inE n E s1 seen fd place (ts ++ (nb n E x).filter fun q => decide (q ∉ P)) (P ++ (nb n E x).filter fun q => decide (q ∉ P)) j) := by
  refine (forL_tr (fun ys ρ => ∃ j T Q, T = ts ++ ys.filter (fun q => decide (q ∉ P)) ∧ Q = P ++ ys.filter (fun q => decide (q ∉ P)) ∧ ρ = inE n E s1 seen fd place T Q j) ⟨j0, _, _, rfl, rfl, by simp⟩ ?_).mono ?_
  · rintro ys q zs _ e ⟨j, T, Q, hT, hQ', rfl⟩
    have hb := nb_len n E x
    have hf := List.length_filter_le (fun q => decide (q ∉ P)) ys
    have hy : ys.length < (nb n E x).length := by rw [e]; simp
    have hq : q ∉ ys := by
      intro h
      have := (nb_sorted n E x)
      rw [e, List.pairwise_append] at this
      have := this.2.2 q h q (by simp)
      omega
    have hq2 : q ∈ Q ↔ q ∈ P := by
      rw [hQ', List.mem_append, List.mem_filter]
      exact ⟨fun h => h.elim id fun h => (hq h.1).elim, .inl⟩
    have hT1 : T.length ≤ 4000 := by rw [hT, List.length_append]; omega
    have hQ1 : Q.length ≤ 4000 := by rw [hQ', List.length_append]; omega
    refine Tr.gen fun R hR => ?_
    by_cases c : q ∈ P
    · have c2 : ¬ look (setL Q) (Im.int q) = none := by rw [look_setL_none, hq2]; exact fun h => h c
      simp (disch := trivial) [c2]
      exact ⟨_, rfl, hR _ ⟨_, rfl, _, T, Q, by rw [hT, List.filter_append]; simp [c], by rw [hQ', List.filter_append]; simp [c], rfl⟩⟩
    · have c2 : look (setL Q) (Im.int q) = none := by rw [look_setL_none, hq2]; exact c
      have c3 := put_setL Q q
      rw [addN, if_neg fun h => c (hq2.mp h)] at c3
      simp (disch := trivial) [c2, c3]
      exact ⟨_, rfl, hR _ ⟨_, rfl, _, T ++ [q], Q ++ [q], by rw [hT, List.filter_append]; simp [c], by rw [hQ', List.filter_append]; simp [c], by simp; rfl⟩⟩
  · rintro _ ⟨_, rfl, j, T, Q, rfl, rfl, rfl⟩
    exact ⟨j, rfl⟩
theorem comp_in (n : Nat) (E : Nat → Nat → Bool) (hn : n ≤ 1000) (s1 : Sl) (seen : List Nat) (fd : List Dt) (place : Nat) (j0 : Sl) (h1 : s1 = .o (rowsD n (nb n E)) ∨ s1 = .s (rowsD n (nb n E))) (hp : place < n) :
    Tr (whM (tbM (b2M true (naM (acM true (rdM 5) anM) lenH) (kM (.int 0)) gtH)) (seqM (Wv.forM (seM (b2M false (fzM 1) (muM 5 (plM 5) "list" true anM popH) ixH)) (.nm 7) (seqM (ifS (tbM (b2M true (rdM 7) (rdM 6) (inH true))) (seqM (stoM 6 (plM 6) (rdM 7) (kM (.bl true)) setH)
      (seqM (expM (muM 5 (plM 5) "list" false (acM true (mvM 7) anM) appH)) nxM)) nxM) nxM)) nxM) FU (inE n E s1 seen fd place [place] [place] j0))
      fun u => ∃ s1 P j, u = .nx (inE n E s1 seen fd place [] P j) ∧ (s1 = .o (rowsD n (nb n E)) ∨ s1 = .s (rowsD n (nb n E))) ∧ Dfs n E place [] P := by
  refine whM_tr (σ := List Nat × List Nat) (fun s ρ => ∃ s1 j, ρ = inE n E s1 seen fd place s.1 s.2 j ∧ (s1 = .o (rowsD n (nb n E)) ∨ s1 = .s (rowsD n (nb n E))) ∧ Dfs n E place s.1 s.2) (fun s => 2 * (n - s.2.length) + s.1.length) _ ([place], [place]) ⟨s1, j0, rfl, h1, .start hp⟩ ?_ ?_
  · show _ < 1000000
    simp; omega
  · rintro ⟨ts, P⟩ _ ⟨s1, j, rfl, h1, hd⟩
    simp only at hd
    refine Tr.gen fun Q hQ => ?_
    rcases List.eq_nil_or_concat ts with e | ⟨ts', x, e⟩
    · subst e
      simp
      exact ⟨_, rfl, hQ _ ⟨s1, P, j, rfl, h1, hd⟩⟩
    · rw [List.concat_eq_append] at e; subst e
      have hx : x ∈ P := hd.sub x (by simp)
      have hxn : x < n := hd.lt x hx
      simp
      refine ⟨_, rfl, hQ _ ?_⟩
      simp only [if_true]
      refine Tr.gen fun Q hQ => ?_
      have hpop := popH_ap (ts'.map intD) (intD x)
      have hP := hd.len
      have hts : ts'.length ≤ 1000 := Nat.le_trans (nodup_lt_len (hd.ndt.sublist (List.sublist_append_left _ _)) fun t ht => hd.lt t (hd.sub t (by simp [ht]))) hn
      have go : ∀ s1 : Sl, s1 = .s (rowsD n (nb n E)) → Tr (forL (.nm 7) (seqM (ifS (tbM (b2M true (rdM 7) (rdM 6) (inH true))) (seqM (stoM 6 (plM 6) (rdM 7) (kM (.bl true)) setH)
          (seqM (expM (muM 5 (plM 5) "list" false (acM true (mvM 7) anM) appH)) nxM)) nxM) nxM) ((nb n E x).map (Itm.one ∘ intD)) (inE n E s1 seen fd place ts' P j)) fun u => ∃ ρ, u = .nx ρ ∧ Q (.nx ρ) := by
        rintro s1 rfl
        refine (comp_for n E hn _ seen fd place j x ts' P (by omega) (by omega)).mono ?_
        rintro _ ⟨j, rfl⟩
        refine ⟨_, rfl, hQ _ ?_⟩
        refine ⟨(_, _), ⟨_, _, rfl, .inr rfl, hd.next⟩, ?_⟩
        have := hd.next.len
        simp only [List.length_append, List.length_cons, List.length_nil] at this ⊢
        omega
      rcases h1 with rfl | rfl
      · simp (disch := trivial) [hpop]
        refine (go _ rfl).bind ?_
        rintro _ ⟨ρ, rfl, h⟩
        simp
        exact ⟨_, rfl, h⟩
      · simp (disch := trivial) [hpop]
        refine (go _ rfl).bind ?_
        rintro _ ⟨ρ, rfl, h⟩
        simp
        exact ⟨_, rfl, h⟩
end Wl

set_option Elab.async false
set_option linter.all false
set_option maxRecDepth 100000
set_option maxHeartbeats 4000000
namespace Wl
open Wv PySem
local macro_rules | `(tactic| trivial) => `(tactic| (simp only [List.length_map, List.length_append, List.length_cons, List.length_nil, List.length_range, List.length_reverse, List.length_set]; omega))
local macro_rules | `(tactic| trivial) => `(tactic| (simp [Function.comp_def]; done))
local macro_rules | `(tactic| trivial) => `(tactic| assumption)
local macro_rules | `(tactic| trivial) => `(tactic| omega)
theorem range_split {n k : Nat} {ys zs : List Nat} (h : List.range n = ys ++ k :: zs) : ys = List.range k ∧ k < n := by
  have hk : ys.length < n := by
    have := congrArg List.length h
    simp at this; omega
  have e1 : (List.range n)[ys.length]? = some k := by rw [h]; simp
  rw [List.getElem?_range hk] at e1
  cases e1
  have e2 : (List.range n).take ys.length = ys := by rw [h]; simp
  rw [List.take_range] at e2
  rw [Nat.min_eq_left (by omega)] at e2
  exact ⟨e2.symm, hk⟩
theorem components_ok (n : Nat) (E : Nat → Nat → Bool) (hn : n ≤ 1000) : φ_components [.o (.im (webE n E))] = .ok (.o (.im (.tup ((comps n E).map fun l => .tup (l.map intI)))), []) := by
  refine Tr.eq ?_
  simp (disch := trivial) [φ_components, fs_components, neighbours_ok n E hn]
  refine (forL_tr (fun ys ρ => ∃ s1 seen j4 j5 j6 j7, ρ = [Sl.o (Dt.im (webE n E)), s1, .o (.dic false (setL seen)), .o (.lst ((ys.filter (lead n E)).map fun k => .im (.tup ((cls n E k).map intI)))), j4, j5, j6, j7] ∧
    (s1 = .o (rowsD n (nb n E)) ∨ s1 = .s (rowsD n (nb n E))) ∧ seen.Nodup ∧ ∀ x, x ∈ seen ↔ x < n ∧ ∃ k ∈ ys, Cn (ad n E) k x) ⟨_, [], _, _, _, _, rfl, .inl rfl, by simp, by simp⟩ ?_).bind ?_
  · rintro ys k zs _ e ⟨s1, seen, j4, j5, j6, j7, rfl, h1, h2, h3⟩
    obtain ⟨hy, hk⟩ := range_split e
    have hs : seen.length ≤ n := nodup_lt_len h2 fun x hx => ((h3 x).mp hx).1
    have hl : k ∈ seen ↔ lead n E k = false := by
      rw [h3, ← Bool.not_eq_true, lead_iff, hy]
      simp only [List.mem_range]
      constructor
      · rintro ⟨_, j, hj, c⟩ h; exact h j hj c
      · intro h
        have ⟨j, hj⟩ := Classical.not_forall.mp h
        have ⟨hj1, hj2⟩ := Classical.not_imp.mp hj
        exact ⟨hk, j, hj1, Classical.not_not.mp hj2⟩
    refine Tr.gen fun Q hQ => ?_
    by_cases c : lead n E k = true
    · have c1 : k ∉ seen := by rw [hl, c]; simp
      have c2 := (look_setL_none seen k).mpr c1
      simp (disch := trivial) [c2]
      refine (comp_in n E hn s1 seen _ k j7 h1 hk).bind ?_
      rintro _ ⟨s1', P, j, rfl, h1', hd⟩
      have hP := hd.len
      have hsrt : srtI (P.map intI) = (cls n E k).map intI := srt_ints hd.nd (List.pairwise_lt_range.filter _) fun p => by rw [hd.stop, mem_cls hk]
      have hf := List.length_filter_le (lead n E) ys
      have hyl : ys.length = k := by rw [hy]; simp
      simp (disch := trivial) [Function.comp_def, putAll_setL]
      rw [show srtI (List.map (fun x : Nat => Im.int x) P) = (cls n E k).map intI from hsrt]
      refine ⟨_, rfl, hQ _ ⟨_, rfl, s1', P.foldl addN seen, _, _, _, _, by rw [List.filter_append]; simp [c]; exact ⟨rfl, rfl, rfl, rfl⟩, h1', nodup_addNs h2, fun x => ?_⟩⟩
      rw [mem_addNs, h3, hd.stop]
      simp only [List.mem_append, List.mem_singleton]
      constructor
      · rintro (⟨a, j, hj, b⟩ | b)
        · exact ⟨a, j, .inl hj, b⟩
        · exact ⟨b.lt hk, k, .inr rfl, b⟩
      · rintro ⟨a, j, hj | rfl, b⟩
        · exact .inl ⟨a, j, hj, b⟩
        · exact .inr b
    · have c1 : k ∈ seen := by rw [hl]; simpa using c
      have c2 : ¬ look (setL seen) (Im.int k) = none := by rw [look_setL_none]; exact fun h => h c1
      simp (disch := trivial) [c2]
      refine ⟨_, rfl, hQ _ ⟨_, rfl, s1, seen, _, _, _, _, by rw [List.filter_append]; simp [c]; exact ⟨rfl, rfl, rfl, rfl⟩, h1, h2, fun x => ?_⟩⟩
      rw [h3]
      simp only [List.mem_append, List.mem_singleton]
      constructor
      · rintro ⟨a, j, hj, b⟩; exact ⟨a, j, .inl hj, b⟩
      · rintro ⟨a, j, hj | rfl, b⟩
        · exact ⟨a, j, hj, b⟩
        · obtain ⟨_, i, hi, b'⟩ := (h3 j).mp c1
          exact ⟨a, i, hi, b'.trans b⟩
  · rintro _ ⟨_, rfl, s1, seen, j4, j5, j6, j7, rfl, -, -, -⟩
    simp (disch := trivial)
    exact ⟨_, rfl, by simp [comps, Function.comp_def]⟩
end Wl

set_option Elab.async false
set_option linter.all false
set_option maxRecDepth 100000
namespace Wv
open PySem PySem.Spec PyProof.Rows L2
def rLt (i j : Int) : Bool := decide (i < j)
def rLe (i j : Int) : Bool := decide (i ≤ j)
def rGt (i j : Int) : Bool := decide (j < i)
def rGe (i j : Int) : Bool := decide (j ≤ i)
def rEq (i j : Int) : Bool := decide (i = j)
section
variable {X : Cx} {a b c : Expr} {q1 q2 q3 : Bool} {f g h : Fe} {pos : Pos} {op op' : CmpOp} {p p' : Int → Int → Bool}
theorem e_ch (h1 : relI op = some p) (h2 : relI op' = some p') (ha : PE X a (TEs X.K q1 f)) (hb : PE X b (TEs X.K q2 g)) (hc : PE X c (TEs X.K q3 h)) (hm : lastMarks [op, op'] [b, c] = false := by rfl) :
    PE X (.Compare a [op, op'] [b, c] pos) (TEs X.K (q1 && (q2 && q3)) (chM p p' f g h)) :=
  (pe_chain (relI_ok h1) (relI_ok h2) ha hb hc hm).imp fun σ H Q w => chain_rel w
theorem t_ch (h1 : relI op = some p) (h2 : relI op' = some p') (ha : PE X a (TEs X.K q1 f)) (hb : PE X b (TEs X.K q2 g)) (hc : PE X c (TEs X.K q3 h)) (hm : lastMarks [op, op'] [b, c] = false := by rfl) :
    PT X (.Compare a [op, op'] [b, c] pos) (TTs X.K (q1 && (q2 && q3)) (tbM (chM p p' f g h))) :=
  (pt_chain (relI_ok h1) (relI_ok h2) ha hb hc hm).imp fun σ H Q w => chain_rel w.toE
/-- a module's constant -/
theorem e_gint {x : Str} {v : Int} (hg : Gl X x) (hm : ∃ t, X.mg x = some (.int v t)) (hd : (x == ("__debug__" : Str)) = false := by decide) : PE X (.Name x pos) (TEs X.K true (kM (.int v))) := by
  obtain ⟨t, hm⟩ := hm
  exact (pe_glob (v := .int v) hg hm ⟨_, rfl⟩ hd).imp fun _ _ _ h => h.const fun _ => .int
/-- what is never run -/
theorem ss_never {vp : List Nat} : ∀ body : List Stmt, PSs X body (TSs X.K vp noS)
  | [] => (s_nil (vp := vp)).imp fun D σ H w => by obtain ⟨O, ρ, u, s, e, p⟩ := w; cases e
  | st :: r => (s_cons (vp := vp) (f := noS) (g := noS) s_never (ss_never r)).imp fun D σ H w => by obtain ⟨O, ρ, u, s, e, p⟩ := w; cases e
end
theorem fn_cast {P : Program} {w : World} {K : PySem.W.Frag} {mg : Str → Option Value} {base : Heap} {CX : CXT} {a b : Nat} {f : Addr} {fd : FuncData} {ps : List Str} {s : Sp} (h : a = b) (F : FnOk P w K mg base CX a f fd ps s) : FnOk P w K mg base CX b f fd ps s := h ▸ F
/-! at work -/
def chK2 (p' : Int → Int → Bool) (j : Int) (z : Vl × Ev) : R (Vl × Ev) := match z.1 with
      | .o (.im (.int k)) => .ok (.o (.im (.bl (p' j k))), z.2)
      | _ => .no
def chK1 (p p' : Int → Int → Bool) (h : Fe) (x : Vl) (y : Vl × Ev) : R (Vl × Ev) := match x, y.1 with
  | .o (.im (.int i)), .o (.im (.int j)) => if p i j = true then (h y.2).bind (chK2 p' j)
    else .ok (.o (.im (.bl false)), y.2)
  | _, _ => .no
def chK (p p' : Int → Int → Bool) (g h : Fe) (x : Vl × Ev) : R (Vl × Ev) := (g x.2).bind (chK1 p p' h x.1)
@[simp] theorem chM_ap (p p' : Int → Int → Bool) (f g h : Fe) (ρ : Ev) : chM p p' f g h ρ = (f ρ).bind (chK p p' g h) := (rfl)
@[simp] theorem chK_ap (p p' : Int → Int → Bool) (g h : Fe) (r : Vl) (ρ : Ev) : chK p p' g h (r, ρ) = (g ρ).bind (chK1 p p' h r) := (rfl)
@[simp] theorem chK1_ap (p p' : Int → Int → Bool) (h : Fe) (i j : Int) (ρ : Ev) : chK1 p p' h (.o (.im (.int i))) (.o (.im (.int j)), ρ) = if p i j = true then (h ρ).bind (chK2 p' j) else .ok (.o (.im (.bl false)), ρ) := (rfl)
@[simp] theorem chK2_ap (p' : Int → Int → Bool) (j k : Int) (ρ : Ev) : chK2 p' j (.o (.im (.int k)), ρ) = .ok (.o (.im (.bl (p' j k))), ρ) := (rfl)
@[simp] theorem rLt_ap (i j : Int) : rLt i j = decide (i < j) := (rfl)
@[simp] theorem rLe_ap (i j : Int) : rLe i j = decide (i ≤ j) := (rfl)
@[simp] theorem rGt_ap (i j : Int) : rGt i j = decide (j < i) := (rfl)
@[simp] theorem rGe_ap (i j : Int) : rGe i j = decide (j ≤ i) := (rfl)
@[simp] theorem rEq_ap (i j : Int) : rEq i j = decide (i = j) := (rfl)
@[simp] theorem noS_ap (ρ : Ev) : noS ρ = .no := (rfl)
end Wv

set_option Elab.async false
set_option linter.all false
set_option maxRecDepth 100000
namespace Wv
open PySem PySem.Spec PyProof.Rows L2
/-! ## dict(pairs) -/
def pairsOf : List Im → Option (List (Im × Dt))
  | [] => some []
  | .tup [k, v] :: r => if fits false k = true then (pairsOf r).map ((k, .im v) :: ·) else none
  | _ => none
def dictH : List Vl → R Vl
  | [a] => match a.d with
    | .lst l => match (dimOf l).bind pairsOf with
      | some m => .ok (.o (.dic false (putAll [] m)))
      | none => .no
    | _ => .no
  | _ => .no
section
variable {K : PySem.W.Frag}
theorem key_inv {H : Hp} {k : Im} {x : V} (h : fits false k = true) (r : RepI K H k x) : ∃ key, k = keyI key ∧ x = kV key := by
  cases k with
  | int i => cases r; exact ⟨.inl i, rfl, rfl⟩
  | str z => cases r; exact ⟨.inr z, rfl, rfl⟩
  | non => cases h
  | bl b => cases h
  | tup l => cases h
theorem pairs_rep {H : Hp} : ∀ {l : List Im} {vs : List V} {m : List (Im × Dt)}, RepIs K H l vs → pairsOf l = some m →
    ∃ (ps : List Addr) (kvs : List (Key × V)), vs = ps.map V.ref ∧ Paired (fun p kv => SqT K H p [kV kv.1, kv.2]) ps kvs ∧ m.map (·.1) = kvs.map (fun p => keyI p.1) ∧ RepDs K H (m.map (·.2)) (kvs.map (·.2)) []
  | [], _, m, .nil, e => by cases e; exact ⟨[], [], rfl, .nil, rfl, .nil⟩
  | i :: r, _, m, .cons (v := v) (vs := vs) a b, e => by
    unfold pairsOf at e
    split at e
    · rename_i h; cases h
    · rename_i k v' r' h
      cases h
      split at e
      · rename_i hf
        cases hp : pairsOf r with
        | none => rw [hp] at e; cases e
        | some m' =>
          rw [hp] at e; cases e
          obtain ⟨ps, kvs, e1, e2, e3, e4⟩ := pairs_rep b hp
          cases a with
          | @tup _ p ws h1 h2 =>
            cases h2 with
            | cons h3 h4 =>
              cases h4 with
              | cons h5 h6 =>
                cases h6
                obtain ⟨key, rfl, rfl⟩ := key_inv hf h3
                refine ⟨p :: ps, (key, _) :: kvs, by rw [e1]; rfl, .cons (.of h1) e2, by simp [e3], ?_⟩
                exact .cons (F := []) (G := []) (.im h5) e4
      · cases e
    · cases e
theorem pu_dict : PuN K (fun xs H Q => ∃ (a : Addr) (ps : List Addr) (kvs : List (Key × V)), xs = [.ref a] ∧ SqL K H a (ps.map V.ref) ∧ Paired (fun p kv => SqT K H p [kV kv.1, kv.2]) ps kvs ∧
    ∀ p, H p = none → Q (.ref p) (upd H p (.dK (mergeK [] kvs)))) dictH := by
  intro O H O' H' rs vs G r Q e lv gr w p
  unfold dictH at e
  split at e <;> first | cases e | skip
  rename_i a
  obtain ⟨v, F, rfl, k⟩ := one_ok w
  have kr := k.rep
  split at e <;> first | cases e | skip
  rename_i l hl
  cases hd : dimOf l with
  | none => rw [hd] at e; cases e
  | some ms =>
    rw [hd] at e
    simp only [Option.bind_some] at e
    cases hm : pairsOf ms with
    | none => rw [hm] at e; cases e
    | some m =>
      rw [hm] at e; cases e
      rw [hl] at kr
      obtain ⟨b, xs, G0, rfl, _, h3, h4⟩ := kr.lst_inv
      have h5 := h4.dims hd
      obtain ⟨ps, kvs, rfl, e2, e3, e4⟩ := pairs_rep h5 hm
      refine ⟨b, ps, kvs, rfl, .of h3, e2, fun q hq => ?_⟩
      obtain ⟨G', k1, k2, k3, k4, k5⟩ := putAll_rel (l := []) (kvs := []) e3 e4 rfl .nil .nil .nil
      have hG : G' = [] := by
        cases G' with
        | nil => rfl
        | cons x r => exact nomatch k5 x List.mem_cons_self
      subst hG
      refine p _ _ [q] (Ext.upd hq) ⟨.dicK (.inl upd_same) ⟨k1, k2⟩ (k3.keep (Ext.ktup (Ext.upd hq)) fun x hx => nomatch hx), by simp, fun a ha => ?_⟩
      have : a = q := by simpa using ha
      subst this
      refine ⟨?_, by rw [upd_same]; trivial, .inl ?_⟩
      · cases z : O' a with
        | no => rfl
        | _ => exact absurd hq (lv a (by rw [z]; simp))
      · cases z : H a with
        | none => rfl
        | some o => exact absurd hq (gr a (by rw [z]; simp))
end
section
variable {X : Cx} {q q1 q2 : Bool} {f : Fe} {g : Fa} {e o : Expr} {p pos apos cpos : Pos}
theorem e_dict (hc : X.calm = true) (b : BS X "dict" e [] pos) (ha : PA X [e] (TAs X.K q g)) : PE X (.Call (.Name "dict" p) [e] [] pos) (TEs X.K q (naM g dictH)) := e_ty (call_dictP hc) pu_dict boot_dict (by decide) (by decide) b ha
end
/-! ## d.get(k), d.get(k, x) -/
def Dt.isDic : Dt → Bool
  | .dic _ _ => true
  | _ => false
/-- a dict, then more -/
def acD (q2 : Bool) (f : Fe) (g : Fa) : Fa := fun ρ => (f ρ).bind fun p => if (p.1.d.isDic && (q2 || !p.1.isB)) = true then (g p.2).bind fun q => .ok (p.1 :: q.1, q.2) else .no
section
variable {K : PySem.W.Frag} {σ : St} {H : Hp} {q1 q2 : Bool} {f : Fe} {g : Fa}
theorem RepD.isD {H : Hp} {d : Dt} {v : V} {F : List Addr} (h : RepD K H d v F) (t : d.isDic = true) : ∃ a, v = .ref a ∧ IsD H a := by
  cases h with
  | im _ => cases t
  | lst _ _ => cases t
  | scr _ => cases t
  | tpl _ => cases t
  | dicK a _ _ => exact ⟨_, rfl, .inl ⟨_, a⟩⟩
  | dicT a _ _ => exact ⟨_, rfl, .inr ⟨_, a⟩⟩
theorem TAs.consD {Q : List V → Hp → Prop} (h : TAs K (q1 && q2) (acD q2 f g) σ H Q) : TEs K q1 f σ H fun x H1 => (∃ a, x = .ref a ∧ IsD H1 a) ∧ TAs K q2 g σ H1 fun xs H2 => Q (x :: xs) H2 := by
  obtain ⟨O, ρ, rs, ρ', s, e, p⟩ := h
  unfold acD at e
  obtain ⟨⟨r1, ρ1⟩, e1, e⟩ := R.bind_eq e
  simp only at e
  by_cases c : (r1.d.isDic && (q2 || !r1.isB)) = true
  · rw [if_pos c] at e
    rw [Bool.and_eq_true] at c
    obtain ⟨⟨r2, ρ2⟩, e2, e⟩ := R.bind_eq e
    cases e
    refine ⟨O, ρ, r1, ρ1, s, e1, fun v H1 O1 F s1 f1 u1 k1 => ⟨k1.rep.isD c.1, O1, ρ1, r2, _, s1, e2, fun vs H2 O2 G s2 f2 u2 k2 => ?_⟩⟩
    obtain ⟨G', w⟩ := VlsOk.cons k1 s1 f1 f2 (fun z => (u2 (by have c := c.2; rw [z] at c; simpa using c)).2) k2
    refine p _ _ _ _ s2 (f1.trans f2 s1.sl_live) (fun z => ?_) w
    rw [Bool.and_eq_true] at z
    exact ⟨(u2 z.2).1.trans (u1 z.1).1, (u1 z.1).2.trans (u2 z.2).2⟩
  · rw [if_neg c] at e; cases e
end
def get1H : List Vl → R Vl
  | [a, .o (.im k)] => match a.d with
    | .dic t l => if fits t k = true then match look l k with
      | some d => .ok (a.sub d)
      | none => .ok (.o (.im .non))
      else .no
    | _ => .no
  | _ => .no
def get2H : List Vl → R Vl
  | [a, .o (.im k), .o (.im x)] => match a.d with
    | .dic t l => if fits t k = true then match look l k with
      | some d => .ok (a.sub d)
      | none => .ok (.o (.im x))
      else .no
    | _ => .no
  | _ => .no
section
variable {K : PySem.W.Frag}
theorem pu_get1 : PuN K (fun vs H Q => ∀ x y, vs = [x, y] → ∃ a o, x = V.ref a ∧ DGet H a y o ∧ Q (o.getD .non) H) get1H := by
  intro O H O' H' rs vs G r Q e lv gr w p x y hv
  unfold get1H at e
  split at e <;> first | cases e | skip
  rename_i a k
  split at e <;> first | cases e | skip
  rename_i t l ha
  split at e <;> first | cases e | skip
  rename_i hf
  obtain ⟨v, v2, F, F2, rfl, k1, k2⟩ := two_ok w
  cases hv
  have hr := k1.rep
  rw [ha] at hr
  obtain ⟨pa, o, rfl, h1, h2⟩ := hr.dget hf k2.1.im_inv
  rcases h2 with ⟨z, rfl⟩ | ⟨d', v', G', z1, rfl, z3, z4⟩
  · rw [z] at e; cases e
    exact ⟨pa, none, rfl, h1, p _ H' [] (Ext.refl _) (.imm .non)⟩
  · rw [z1] at e; cases e
    exact ⟨pa, some v', rfl, h1, p v' H' _ (Ext.refl _) (k1.sub z3 z4)⟩
end
section
variable {X : Cx} {q1 q2 q3 : Bool} {f g k : Fe} {e e2 o : Expr} {apos cpos : Pos}
theorem m1 {name : Str} (base : attributeBase o name X.env (eval o X.env) = eval o X.env := by rfl)
    (few : ((backTo cpos (starEach [e] X.env)).all (fun x => !x.1) && (backToKw cpos (keywordEach [] X.env)).all (fun x => x.1.isSome)
    && decide (([e] : List Expr).length + ([] : List Keyword).length + (if ([] : List Keyword).isEmpty then 0 else 1) < 30)) = true := by rfl)
    (line : (apos.endLine == cpos.line) = true := by rfl) (trees : backTo cpos (starEach [e] X.env) = [(false, eval e X.env)] := by rfl) : M1 X o name apos e cpos := ⟨base, few, line, trees⟩
theorem m2 {name : Str} (base : attributeBase o name X.env (eval o X.env) = eval o X.env := by rfl)
    (few : ((backTo cpos (starEach [e, e2] X.env)).all (fun x => !x.1) && (backToKw cpos (keywordEach [] X.env)).all (fun x => x.1.isSome)
    && decide (([e, e2] : List Expr).length + ([] : List Keyword).length + (if ([] : List Keyword).isEmpty then 0 else 1) < 30)) = true := by rfl)
    (line : (apos.endLine == cpos.line) = true := by rfl) (trees : backTo cpos (starEach [e, e2] X.env) = [(false, eval e X.env), (false, eval e2 X.env)] := by rfl) : M2 X o name apos e e2 cpos := ⟨base, few, line, trees⟩
theorem e_get1 (hu : X.A.units + 65 < cLine) (ho : PE X o (TEs X.K q1 f)) (he : PE X e (TEs X.K q2 g)) (m : M1 X o "get" apos e cpos) :
    PE X (.Call (.Attribute o "get" apos) [e] [] cpos) (TEs X.K (q1 && q2) (naM (acD q2 f (acM true g anM)) get1H)) :=
  (pe_dget1 (by omega) ho he m).imp fun σ H Q w => by
    have w := (TAs.fin pu_get1 w).consD
    refine w.mono fun x H1 w => ?_
    obtain ⟨⟨a, rfl, d⟩, w⟩ := w
    have w : TAs X.K (q2 && true) (acM true g anM) σ H1 _ := (Bool.and_true q2).symm ▸ w
    refine ⟨a, rfl, d, w.cons.mono fun y H2 w => ?_⟩
    obtain ⟨a', ov, e1, h1, h2⟩ := w.nil _ _ rfl
    cases e1
    exact ⟨ov, h1, h2⟩
theorem three_ok {K : PySem.W.Frag} {O O' : Ow} {H H' : Hp} {vs : List V} {G : List Addr} {r r2 r3 : Vl} (h : VlsOk K O H O' H' [r, r2, r3] vs G) : ∃ v v2 v3 F F2 F3, vs = [v, v2, v3] ∧ VlOk K O H O' H' r v F ∧ VlOk K O H O' H' r2 v2 F2 ∧ VlOk K O H O' H' r3 v3 F3 := by
  cases h with
  | own a b _ => obtain ⟨v, v2, F, F2, rfl, k, k2⟩ := two_ok b; exact ⟨_, _, _, _, _, _, rfl, a, k, k2⟩
  | shr a b => obtain ⟨v, v2, F, F2, rfl, k, k2⟩ := two_ok b; exact ⟨_, _, _, _, _, _, rfl, a, k, k2⟩
  | bor a b => obtain ⟨v, v2, F, F2, rfl, k, k2⟩ := two_ok b; exact ⟨_, _, _, _, _, _, rfl, a, k, k2⟩
theorem pu_get2 {K : PySem.W.Frag} : PuN K (fun vs H Q => ∀ x y z, vs = [x, y, z] → ∃ a o, x = V.ref a ∧ DGet H a y o ∧ Q (o.getD z) H) get2H := by
  intro O H O' H' rs vs G r Q e lv gr w p x y z hv
  unfold get2H at e
  split at e <;> first | cases e | skip
  rename_i a k dd
  split at e <;> first | cases e | skip
  rename_i t l ha
  split at e <;> first | cases e | skip
  rename_i hf
  obtain ⟨v, v2, v3, F, F2, F3, rfl, k1, k2, k3⟩ := three_ok w
  cases hv
  have hr := k1.rep
  rw [ha] at hr
  obtain ⟨pa, o, rfl, h1, h2⟩ := hr.dget hf k2.1.im_inv
  rcases h2 with ⟨zz, rfl⟩ | ⟨d', v', G', z1, rfl, z3, z4⟩
  · rw [zz] at e; cases e
    exact ⟨pa, none, rfl, h1, p _ H' [] (Ext.refl _) (.imm k3.1.im_inv)⟩
  · rw [z1] at e; cases e
    exact ⟨pa, some v', rfl, h1, p v' H' _ (Ext.refl _) (k1.sub z3 z4)⟩
theorem e_get2 (hu : X.A.units + 65 < cLine) (ho : PE X o (TEs X.K q1 f)) (he : PE X e (TEs X.K q2 g)) (hf : PE X e2 (TEs X.K q3 k)) (m : M2 X o "get" apos e e2 cpos) :
    PE X (.Call (.Attribute o "get" apos) [e, e2] [] cpos) (TEs X.K (q1 && (q2 && q3)) (naM (acD (q2 && q3) f (acM q3 g (acM true k anM))) get2H)) :=
  (pe_dget2 (by omega) ho he hf m).imp fun σ H Q w => by
    have w := (TAs.fin pu_get2 w).consD
    refine w.mono fun x H1 w => ?_
    obtain ⟨⟨a, rfl, d⟩, w⟩ := w
    refine ⟨a, rfl, d, w.cons.mono fun y H2 w => ?_⟩
    have w : TAs X.K (q3 && true) (acM true k anM) σ H2 _ := (Bool.and_true q3).symm ▸ w
    refine w.cons.mono fun z H3 w => ?_
    obtain ⟨a', ov, e1, h1, h2⟩ := w.nil _ _ _ rfl
    cases e1
    exact ⟨ov, h1, h2⟩
end
/-! ## d.setdefault(k, x): what can't be changed -/
def setdH : Hm
  | .dic false l, [.o (.im k), .o (.im d)] => if fits false k = true ∧ l.length < SZ then match look l k with
      | some (.im v) => .ok (.dic false l, .o (.im v))
      | some _ => .no
      | none => .ok (.dic false (put l k (.im d)), .o (.im d))
      else .no
  | _, _ => .no
section
variable {K : PySem.W.Frag}
theorem mu_setd : MuN K (fun x vs H Q => ∀ y z, vs = [y, z] → ∃ a kvs k, x = V.ref a ∧ H a = some (.dK kvs) ∧ y = kV k ∧ kvs.length < sizeLine ∧ (∀ v, valV kvs k = some v → Q v H) ∧ (valV kvs k = none → Q z (upd H a (.dK (putK kvs k z))))) setdH := by
  intro O H O' H' e w E rs vs G e' r Q eq re nd mt k dj p y0 z0 hvs
  unfold setdH at eq
  split at eq <;> first | cases eq | skip
  rename_i l kk d
  by_cases hl : fits false kk = true ∧ l.length < SZ
  case neg => rw [if_neg hl] at eq; cases eq
  rw [if_pos hl] at eq
  have ow := k.owns (l := [.im kk, .im d]) rfl
  subst hvs
  cases ow with
  | @cons _ _ u _ Fu _ a1 a2 =>
    have ek := a1.im_inv
    cases a1
    cases a2 with
    | @cons _ _ y _ Fy _ a1 a2 =>
      cases a2
      cases re with
      | @dicK _ a kvs G0 r1 e1 r2 =>
        have nd' := List.nodup_cons.mp nd
        have hmu := mt a List.mem_cons_self
        have hH := rd_mut r1 hmu.1
        obtain ⟨j, hj⟩ := Option.isSome_iff_exists.mp (show (keyOf kk).isSome = true from hl.1)
        obtain rfl := keyOf_some hj
        obtain rfl := ek.key
        have elen : l.length = kvs.length := by have := congrArg List.length e1.1; simpa using this
        refine ⟨a, kvs, j, rfl, hH, rfl, by rw [← elen]; exact hl.2, ?_, ?_⟩
        · intro v hv
          rcases look_rel (inj := keyI) (fun _ _ => keyI_inj) (k := j) e1.1 r2 with ⟨z1, z2⟩ | ⟨d', v', F', z1, z2, z3, z4⟩
          · rw [hv] at z2; cases z2
          · rw [hv] at z2; cases z2
            rw [z1] at eq
            cases d' with
            | im i =>
              cases eq
              have hu := upd_self hH
              have q := p a (.dK kvs) (a :: G0) v List.mem_cons_self trivial (by rw [hu]; exact .dicK r1 e1 r2) nd (fun x hx => .inl hx)
                (by rw [hu]; cases z3 with | im z3 => exact ⟨.im i, [], rfl, .im z3, .nil, fun x hx => nomatch hx⟩)
              rw [hu] at q; exact q
            | _ => cases eq
        · intro hv
          rcases look_rel (inj := keyI) (fun _ _ => keyI_inj) (k := j) e1.1 r2 with ⟨z1, z2⟩ | ⟨d', v', F', z1, z2, z3, z4⟩
          · rw [z1] at eq
            cases eq
            have im1 := a1.im_inv
            obtain ⟨G', k1, k2, k3, k4, k5⟩ := put_rel (fun _ _ => keyI_inj) (k := j) (RepD.im im1) .nil e1.1 e1.2 r2 nd'.2 fun x hx z => nomatch z
            have na : a ∉ G' := fun z => (k5 a z).elim nd'.1 fun y => nomatch y
            have r3 := k3.keepU (o := .dK (putK kvs j z0)) na (by rw [hH]; trivial)
            refine p a _ (a :: G') _ List.mem_cons_self trivial (.dicK (.inl upd_same) ⟨k1, k2⟩ r3) (List.nodup_cons.mpr ⟨na, k4⟩) (fun x hx => ?_) ⟨.im d, [], rfl, .im ?_, .nil, fun x hx => nomatch hx⟩
            · rcases List.mem_cons.mp hx with rfl | hx
              · exact .inl List.mem_cons_self
              · exact .inl ((k5 x hx).elim (List.mem_cons_of_mem _) fun z => nomatch z)
            · refine im1.keep fun b o hb hm => ?_
              by_cases c : b = a
              · subst c; rw [hH] at hb; cases hb; exact (hm trivial).elim
              · rw [upd_ne c]; exact hb
          · rw [hv] at z2; cases z2
end
section
variable {X : Cx} {i : Nat} {g : Fp} {qc : Bool} {c : Fa} {o e e2 : Expr} {apos cpos : Pos} {q1 q2 : Bool} {f h : Fe}
theorem e_setd (ho : PE X o (TPs X.K i g)) (he : PE X e (TEs X.K q1 f)) (hf : PE X e2 (TEs X.K q2 h)) (m : M2 X o "setdefault" apos e e2 cpos) :
    PE X (.Call (.Attribute o "setdefault" apos) [e, e2] [] cpos) (TEs X.K false (muM i g "dict" (q1 && q2) (acM q2 f (acM true h anM)) setdH)) :=
  (pe_dsetd ho he hf m).imp fun σ H Q w => by
    obtain ⟨O, ρ, p, s, e, k⟩ := w.mu mu_setd
    refine ⟨O, ρ, p, s, e, fun v w H' O' a b c d e => ?_⟩
    obtain ⟨k1, k2⟩ := k v w H' O' a b c d e
    have hw : ∃ a, w = .ref a ∧ IsD H' a := by
      cases w with
      | ref a =>
        rcases k1 with ⟨z, _⟩ | ⟨z, _⟩ | ⟨_, z⟩ | ⟨z, _⟩
        · exact absurd z (by decide)
        · exact absurd z (by decide)
        · exact ⟨a, rfl, z.imp (fun ⟨kvs, h⟩ => ⟨kvs, .inl h⟩) fun ⟨kvs, h⟩ => ⟨kvs, .inl h⟩⟩
        · exact absurd z (by decide)
      | int i => exact absurd (show "dict" = "int" from k1) (by decide)
      | str i => exact absurd (show "dict" = "str" from k1) (by decide)
      | _ => exact k1.elim
    obtain ⟨a, rfl, hd⟩ := hw
    refine ⟨a, rfl, hd, k2.cons.mono fun y H2 w => ?_⟩
    have w : TAs X.K (q2 && true) (acM true h anM) σ H2 _ := (Bool.and_true q2).symm ▸ w
    refine w.cons.mono fun z H3 w => ?_
    obtain ⟨a', kvs, k, e1, h1, h2, h3, h4, h5⟩ := w.nil _ _ rfl
    cases e1
    exact ⟨kvs, k, h1, h2, h3, h4, h5⟩
/-! at work -/
def acDK (q2 : Bool) (g : Fa) (p : Vl × Ev) : R (List Vl × Ev) := if (p.1.d.isDic && (q2 || !p.1.isB)) = true then (g p.2).bind (acR p.1) else .no
@[simp] theorem acD_ap (q2 : Bool) (f : Fe) (g : Fa) (ρ : Ev) : acD q2 f g ρ = (f ρ).bind (acDK q2 g) := (rfl)
@[simp] theorem acDK_ap (q2 : Bool) (g : Fa) (r : Vl) (ρ : Ev) : acDK q2 g (r, ρ) = if (r.d.isDic && (q2 || !r.isB)) = true then (g ρ).bind (acR r) else .no := (rfl)
@[simp] theorem isDic_d (t : Bool) (l : List (Im × Dt)) : Dt.isDic (.dic t l) = true := (rfl)
def getO (a : Vl) (x : Im) : Option Dt → R Vl
  | some d => .ok (a.sub d)
  | none => .ok (.o (.im x))
@[simp] theorem getO_some (a : Vl) (x : Im) (d : Dt) : getO a x (some d) = .ok (a.sub d) := (rfl)
@[simp] theorem getO_none (a : Vl) (x : Im) : getO a x none = .ok (.o (.im x)) := (rfl)
@[simp] theorem get1_o (k : Im) (t : Bool) (l : List (Im × Dt)) (hf : fits t k = true) : get1H [.o (.dic t l), .o (.im k)] = getO (.o (.dic t l)) .non (look l k) := by
  simp only [get1H, d_o, hf, if_true]; cases look l k <;> rfl
@[simp] theorem get2_o (k x : Im) (t : Bool) (l : List (Im × Dt)) (hf : fits t k = true) : get2H [.o (.dic t l), .o (.im k), .o (.im x)] = getO (.o (.dic t l)) x (look l k) := by
  simp only [get2H, d_o, hf, if_true]; cases look l k <;> rfl
@[simp] theorem get1_s (k : Im) (t : Bool) (l : List (Im × Dt)) (hf : fits t k = true) : get1H [.s (.dic t l), .o (.im k)] = getO (.s (.dic t l)) .non (look l k) := by
  simp only [get1H, d_s, hf, if_true]; cases look l k <;> rfl
@[simp] theorem get2_s (k x : Im) (t : Bool) (l : List (Im × Dt)) (hf : fits t k = true) : get2H [.s (.dic t l), .o (.im k), .o (.im x)] = getO (.s (.dic t l)) x (look l k) := by
  simp only [get2H, d_s, hf, if_true]; cases look l k <;> rfl
@[simp] theorem get1_b (k : Im) (t : Bool) (l : List (Im × Dt)) (hf : fits t k = true) : get1H [.b (.dic t l), .o (.im k)] = getO (.b (.dic t l)) .non (look l k) := by
  simp only [get1H, d_b, hf, if_true]; cases look l k <;> rfl
@[simp] theorem get2_b (k x : Im) (t : Bool) (l : List (Im × Dt)) (hf : fits t k = true) : get2H [.b (.dic t l), .o (.im k), .o (.im x)] = getO (.b (.dic t l)) x (look l k) := by
  simp only [get2H, d_b, hf, if_true]; cases look l k <;> rfl
@[simp] theorem fits_s (x : Str) : fits false (.str x) = true := (rfl)
def setdO (l : List (Im × Dt)) (k d : Im) : Option Dt → R (Dt × Vl)
  | some (.im v) => .ok (.dic false l, .o (.im v))
  | some _ => .no
  | none => .ok (.dic false (put l k (.im d)), .o (.im d))
@[simp] theorem setdO_some (l : List (Im × Dt)) (k d v : Im) : setdO l k d (some (.im v)) = .ok (.dic false l, .o (.im v)) := (rfl)
@[simp] theorem setdO_none (l : List (Im × Dt)) (k d : Im) : setdO l k d none = .ok (.dic false (put l k (.im d)), .o (.im d)) := (rfl)
@[simp] theorem setd_ap (l : List (Im × Dt)) (k d : Im) (hf : fits false k = true) (hl : l.length < 16777216) : setdH (.dic false l) [.o (.im k), .o (.im d)] = setdO l k d (look l k) := by
  simp only [setdH, hf, SZ_nat, hl, and_self, if_true]
  cases look l k with
  | none => rfl
  | some v => cases v <;> rfl
def dictO : Option (List (Im × Dt)) → R Vl
  | some m => .ok (.o (.dic false (putAll [] m)))
  | none => .no
@[simp] theorem dictH_o (l : List Dt) : dictH [.o (.lst l)] = dictO ((dimOf l).bind pairsOf) := by
  simp only [dictH, d_o]; cases (dimOf l).bind pairsOf <;> rfl
@[simp] theorem dictH_s (l : List Dt) : dictH [.s (.lst l)] = dictO ((dimOf l).bind pairsOf) := by
  simp only [dictH, d_s]; cases (dimOf l).bind pairsOf <;> rfl
@[simp] theorem dictH_b (l : List Dt) : dictH [.b (.lst l)] = dictO ((dimOf l).bind pairsOf) := by
  simp only [dictH, d_b]; cases (dimOf l).bind pairsOf <;> rfl
@[simp] theorem dictO_ap (m : List (Im × Dt)) : dictO (some m) = .ok (.o (.dic false (putAll [] m))) := (rfl)
end
end Wv

set_option Elab.async false
set_option linter.all false
set_option maxRecDepth 100000
namespace Wl
open Wv PySem
/-! _law_choices: 0 count, 1 size, 2 found, 3 k, 4 row -/
def fs__law_choices : Fs := (seqM (setM 2 (naM (acM true (naM anM tupH) anM) lstH))
  (seqM (forM (range1M (acM true (rdM 0) anM)) (.nm 3) (seqM (setM 2 (b2M true (rdM 2) (lcM [4] (slM 2) (.nm 4) (tbM (b2M true (naM (acM true (rdM 4) anM) lenH) (rdM 1) ltH)) (b2M true (rdM 4) (naM (acM true (rdM 3) anM) tupH) addH)) addH))
  nxM))
  (seqM (retM (naM (acM true (lcM [4] (slM 2) (.nm 4) (tbM (b2M true (naM (acM true (rdM 4) anM) lenH) (rdM 1) eqH)) (rdM 4)) anM) sortedH))
  nxM)))
def φ__law_choices : Fn := defM [] 3 fs__law_choices
/-! _law_near: 0 web, 1 found, 2 a, 3 b, 4 k, 5 row -/
def fs__law_near : Fs := (seqM (setM 1 (lcM [4] (range1M (acM true (b2M true (rdM 0) (kM (.int 0)) ixH) anM)) (.nm 4) yesT (naM anM lstH)))
  (seqM (forM (seM (b2M true (fzM 0) (kM (.int 1)) ixH)) (.tp [2, 3]) (seqM (expM (muM 1 (plixM 1 (plM 1) (rdM 2)) "list" true (acM true (rdM 3) anM) appH))
  (seqM (expM (muM 1 (plixM 1 (plM 1) (rdM 3)) "list" true (acM true (rdM 2) anM) appH))
  nxM)))
  (seqM (retM (lcM [5] (slM 1) (.nm 5) yesT (naM (acM true (rdM 5) anM) sortedH)))
  nxM)))
def φ__law_near : Fn := defM [] 5 fs__law_near
/-! _law_tied: 0 web, 1 a, 2 b -/
def fs__law_tied : Fs := (seqM (retM (b2M true (naM (acM true (naM (acM true (rdM 1) (acM true (rdM 2) anM)) min2H) (acM true (naM (acM true (rdM 1) (acM true (rdM 2) anM)) max2H) anM)) tupH) (b2M true (rdM 0) (kM (.int 1)) ixH) (inH false)))
  nxM)
def φ__law_tied : Fn := defM [] 0 fs__law_tied
/-! _law_same: 0 actual, 1 expected, 2 k -/
def fs__law_same (φ__law_same : Fn) : Fs := (seqM (ifS (orT (trM (isiM "tuple" (rdM 1))) (trM (isiM "list" (rdM 1)))) (seqM (ifS (orT (tbM (b2M true (isiM "tuple" (rdM 0)) (isiM "tuple" (rdM 1)) neH)) (tbM (b2M true (isiM "list" (rdM 0)) (isiM "list" (rdM 1)) neH))) (seqM (retM (kM (.bl false)))
  nxM) nxM)
  (seqM (ifS (tbM (b2M true (naM (acM true (rdM 0) anM) lenH) (naM (acM true (rdM 1) anM) lenH) neH)) (seqM (retM (kM (.bl false)))
  nxM) nxM)
  (seqM (retM (b2M true (naM (acM true (lcM [2] (range1M (acM true (naM (acM true (rdM 1) anM) lenH) anM)) (.nm 2) (notT (trM (callM 2 [] φ__law_same (cvM true (b2M true (rdM 0) (rdM 2) ixH) (cvM true (b2M true (rdM 1) (rdM 2) ixH) cnM))))) (rdM 2)) anM) lenH) (kM (.int 0)) eqH))
  nxM))) nxM)
  (seqM (ifS (orT (trM (isiM "bool" (rdM 1))) (trM (isiM "bool" (rdM 0)))) (seqM (retM (andM (isiM "bool" (rdM 1)) (andM (isiM "bool" (rdM 0)) (b2M true (rdM 0) (rdM 1) eqH))))
  nxM) nxM)
  (seqM (ifS (orT (tbM (b2M true (rdM 1) (kM .non) (isH false))) (tbM (b2M true (rdM 0) (kM .non) (isH false)))) (seqM (retM (andM (b2M true (rdM 1) (kM .non) (isH false)) (b2M true (rdM 0) (kM .non) (isH false))))
  nxM) nxM)
  (seqM (ifS (orT (trM (isiM "str" (rdM 1))) (trM (isiM "str" (rdM 0)))) (seqM (retM (andM (isiM "str" (rdM 1)) (andM (isiM "str" (rdM 0)) (b2M true (rdM 0) (rdM 1) eqH))))
  nxM) nxM)
  (seqM (retM (andM (isiM "int" (rdM 0)) (andM (isiM "int" (rdM 1)) (b2M true (rdM 0) (rdM 1) eqH))))
  nxM)))))
def φ__law_same : Nat → Fn
  | 0 => defM [] 1 noS
  | n + 1 => defM [] 1 (fs__law_same (φ__law_same n))
/-! is_web: 0 value, 1 pair, 2 one -/
def fs_is_web : Fs := (seqM (ifS (orT (notT (trM (isiM "tuple" (rdM 0)))) (orT (tbM (b2M true (naM (acM true (rdM 0) anM) lenH) (kM (.int 2)) neH)) (notT (trM (isiM "tuple" (b2M true (rdM 0) (kM (.int 1)) ixH)))))) (seqM (retM (kM (.bl false)))
  nxM) nxM)
  (seqM (ifS (orT (notT (trM (callM 1 [] φ_is_number (cvM true (b2M true (rdM 0) (kM (.int 0)) ixH) cnM)))) (tbM (b2M true (b2M true (rdM 0) (kM (.int 0)) ixH) (kM (.int 60)) gtH))) (seqM (retM (kM (.bl false)))
  nxM) nxM)
  (seqM (forM (seM (b2M true (fzM 0) (kM (.int 1)) ixH)) (.nm 1) (seqM (ifS (orT (notT (trM (isiM "tuple" (rdM 1)))) (orT (tbM (b2M true (naM (acM true (rdM 1) anM) lenH) (kM (.int 2)) neH)) (notT (trM (naM (acM true (lcM [2] (slM 1) (.nm 2) yesT (callM 1 [] φ_is_number (cyM 2 cnM))) anM) (anyH true)))))) (seqM (retM (kM (.bl false)))
  nxM) nxM)
  (seqM (ifS (notT (tbM (chM rLt rLt (b2M true (rdM 1) (kM (.int 0)) ixH) (b2M true (rdM 1) (kM (.int 1)) ixH) (b2M true (rdM 0) (kM (.int 0)) ixH)))) (seqM (retM (kM (.bl false)))
  nxM) nxM)
  nxM)))
  (seqM (retM (b2M false (naM (acM true (b2M true (rdM 0) (kM (.int 1)) ixH) anM) listH) (naM (acM true (dcM true [1] (seM (b2M true (fzM 0) (kM (.int 1)) ixH)) (.nm 1) yesT (rdM 1) (kM (.bl true))) anM) sortedH) eqH))
  nxM))))
def φ_is_web : Fn := defM [] 2 fs_is_web
/-! look_at: 0 web -/
def fs_look_at : Fs := (seqM (ifS (notT (trM (callM 1 [] φ_is_web (cyM 0 cnM)))) (seqM noS
  nxM) nxM)
  nxM)
def φ_look_at : Fn := defM [] 0 fs_look_at
end Wl

set_option Elab.async false
set_option linter.all false
set_option maxRecDepth 100000
set_option maxHeartbeats 4000000
namespace Wl
open Wv PySem
local macro_rules | `(tactic| trivial) => `(tactic| (simp only [List.length_map, List.length_append, List.length_cons, List.length_nil, List.length_range, List.length_reverse, List.length_set]; omega))
local macro_rules | `(tactic| trivial) => `(tactic| (simp [Function.comp_def]; done))
local macro_rules | `(tactic| trivial) => `(tactic| assumption)
local macro_rules | `(tactic| trivial) => `(tactic| omega)
theorem near_eq : φ__law_near = φ_neighbours := rfl
theorem law_tied_eq : φ__law_tied = φ_tied := rfl
theorem law_near_ok (n : Nat) (E : Nat → Nat → Bool) (hn : n ≤ 1000) : φ__law_near [.o (.im (webE n E))] = .ok (.o (rowsD n (nb n E)), []) := by rw [near_eq]; exact neighbours_ok n E hn
theorem law_tied_ok (n : Nat) (E : Nat → Nat → Bool) (a b : Nat) : φ__law_tied [.o (.im (webE n E)), vI a, vI b] = .ok (vB (ad n E a b), []) := by rw [law_tied_eq]; exact tied_ok n E a b
theorem srt_sorted {m : List (Nat × Nat)} (hm : m.Pairwise ltP) : srtI (m.map tieI) = m.map tieI :=
  srt_ties (hm.imp fun {a b} h e => by subst e; exact ltP_irr _ h) hm fun _ => Iff.rfl
theorem is_web_ok (n : Nat) (E : Nat → Nat → Bool) (hn : n ≤ 60) : φ_is_web [.o (.im (webE n E))] = .ok (vB true, []) := by
  refine Tr.eq ?_
  have hn' : (n : Int) ≤ 60 := by omega
  have hn2 : ¬ (60 : Int) < n := by omega
  have hl := tsE_len n E
  have h3 : n * n ≤ 60 * 60 := Nat.mul_le_mul hn hn
  simp (disch := trivial) [φ_is_web, fs_is_web, is_number_ok, hn2, Function.comp_def]
  refine (forL_tr (fun ys ρ => ∃ j, ρ = [Sl.o (Dt.im (webE n E)), j, .e]) ⟨.e, rfl⟩ ?_).bind ?_
  · rintro ys ⟨a, b⟩ zs _ e ⟨j, rfl⟩
    have hm : (a, b) ∈ tsE n E := by rw [e]; simp
    have ⟨hab, hb, _⟩ := mem_tsE.mp hm
    simp only at hab hb
    refine Tr.gen fun P hP => ?_
    simp (disch := trivial)
    rw [show [Itm.one (Dt.im (Im.int a)), Itm.one (Dt.im (Im.int b))] = [a, b].map (fun x : Nat => Itm.one (Dt.im (Im.int x))) from rfl]
    rw [lcL_map (fun _ => .im (.bl true)) (by intro k hk; simp (disch := trivial) [is_number_ok])]
    simp (disch := trivial) [hab, hb]
    exact ⟨_, rfl, hP _ ⟨_, rfl, _, rfl⟩⟩
  · rintro _ ⟨_, rfl, j, rfl⟩
    simp (disch := trivial) [Function.comp_def]
    rw [dcL_pure (fun _ => true) tieI (fun _ => .im (.bl true)) (by simp; omega) (by intro x hx; simp)]
    rw [filter_true, foldl_pair]
    obtain ⟨ks, h1, h2, h3⟩ := puts_ties (Dt.im (.bl true)) (tsE n E) [] ⟨[], by simp⟩
    generalize (List.foldl (fun a q => put a (tieI q) (Dt.im (Im.bl true))) [] (tsE n E)) = kvs at *
    have hs : srtI (ks.map tieI) = (tsE n E).map tieI := srt_ties h2 (tsE_sorted n E) fun p => by rw [h3]; simp
    simp (disch := trivial) [h1, hs]
    have q : eqH [.o (.lst ((tsE n E).map fun x => Dt.im (tieI x))), .o (.lst ((tsE n E).map (Dt.im ∘ tieI)))] = .ok (vB (decide ((tsE n E).map tieI = (tsE n E).map tieI))) :=
      eqH_lst _ _ ((tsE n E).map tieI) ((tsE n E).map tieI) (by simp [Function.comp_def]) (by simp [Function.comp_def]) (by simp) (by simp)
    simp (disch := trivial) [q]
    exact ⟨_, rfl, rfl⟩
theorem look_at_ok (n : Nat) (E : Nat → Nat → Bool) (hn : n ≤ 60) : φ_look_at [.o (.im (webE n E))] = .ok (.o (.im .non), []) := by
  simp (disch := trivial) [φ_look_at, fs_look_at, is_web_ok n E hn]
/-! ## equal and alike in kind -/
mutual
/-- texts that can be laid, lengths in bounds, at most so deep -/
def Pb : Nat → Im → Bool
  | _, .non => true
  | _, .bl _ => true
  | _, .int _ => true
  | _, .str x => PyData.canLay0 (.str x)
  | 0, .tup _ => false
  | d + 1, .tup l => Pbs d l && decide (l.length ≤ 16777216)
def Pbs : Nat → List Im → Bool
  | _, [] => true
  | d, i :: r => Pb d i && Pbs d r
end
theorem Pbs_mem : ∀ {d : Nat} {l : List Im}, Pbs d l = true → ∀ i ∈ l, Pb d i = true
  | d, j :: r, h, i, hi => by
    simp only [Pbs, Bool.and_eq_true] at h
    rcases List.mem_cons.mp hi with rfl | hi
    · exact h.1
    · exact Pbs_mem h.2 i hi
theorem Pbs_of : ∀ {d : Nat} {l : List Im}, (∀ i ∈ l, Pb d i = true) → Pbs d l = true
  | d, [], _ => by simp [Pbs]
  | d, i :: r, h => by simp [Pbs, h i List.mem_cons_self, Pbs_of fun j hj => h j (List.mem_cons_of_mem _ hj)]
@[simp] theorem Pb_tup (d : Nat) (l : List Im) : Pb (d + 1) (.tup l) = (Pbs d l && decide (l.length ≤ 16777216)) := by simp [Pb]
@[simp] theorem Pb_int (d : Nat) (i : Int) : Pb d (.int i) = true := by simp [Pb]
@[simp] theorem Pb_bl (d : Nat) (i : Bool) : Pb d (.bl i) = true := by simp [Pb]
@[simp] theorem Pb_non (d : Nat) : Pb d .non = true := by simp [Pb]
@[simp] theorem Pbs_nil (d : Nat) : Pbs d [] = true := by simp [Pbs]
@[simp] theorem Pbs_cons (d : Nat) (i : Im) (r : List Im) : Pbs d (i :: r) = (Pb d i && Pbs d r) := by simp [Pbs]
theorem Pl_str {x : Str} (h : PyData.canLay0 (.str x) = true) : Pl 60 (.str x) = true := by simp [Pl, h]
theorem same_ok : ∀ (n d : Nat) (a b : Im), d < n → Pb d a = true → Pb d b = true → φ__law_same n [.o (.im a), .o (.im b)] = .ok (vB (decide (a = b)), [])
  | 0, d, a, b, h, _, _ => by omega
  | n + 1, d, a, b, h, ha, hb => by
    cases b with
    | non =>
      cases a <;> simp (disch := trivial) [φ__law_same, fs__law_same, isH, Dt.isNon]
    | bl y =>
      cases a <;> simp (disch := trivial) [φ__law_same, fs__law_same, isH, Dt.isNon]
    | int y =>
      cases a <;> simp (disch := trivial) [φ__law_same, fs__law_same, isH, Dt.isNon]
    | str y =>
      have hy : Pl 60 (.str y) = true := Pl_str (by cases d <;> simpa [Pb] using hb)
      cases a with
      | str x =>
        have hx : Pl 60 (.str x) = true := Pl_str (by cases d <;> simpa [Pb] using ha)
        simp (disch := trivial) [φ__law_same, fs__law_same, isH, Dt.isNon]
      | _ => simp (disch := trivial) [φ__law_same, fs__law_same, isH, Dt.isNon]
    | tup m =>
      cases a with
      | tup l =>
        cases d with
        | zero => simp [Pb] at ha
        | succ d =>
          rw [Pb_tup, Bool.and_eq_true, decide_eq_true_eq] at ha hb
          by_cases hlm : l.length = m.length
          · have hl2 := ha.2
            have hm2 := hb.2
            simp (disch := trivial) [φ__law_same, fs__law_same, hlm]
            rw [lcL_pure (fun k => !decide (l[k]? = m[k]?)) intD (by
              intro k hk
              have hk := List.mem_range.mp hk
              have hk' : k < l.length := by omega
              have ih := same_ok n d l[k] m[k] (by omega) (Pbs_mem ha.1 _ (List.getElem_mem _)) (Pbs_mem hb.1 _ (List.getElem_mem _))
              simp (disch := trivial) [ih])]
            have e : (List.filter (fun k => !decide (l[k]? = m[k]?)) (List.range m.length)).length = 0 ↔ l = m := by
              rw [List.length_eq_zero_iff, List.filter_eq_nil_iff]
              constructor
              · intro h
                apply List.ext_getElem? ; intro k
                by_cases c : k < m.length
                · have := h k (List.mem_range.mpr c); simpa using this
                · rw [List.getElem?_eq_none (by omega), List.getElem?_eq_none (by omega)]
              · rintro rfl k _; simp
            generalize (List.filter (fun k => !decide (l[k]? = m[k]?)) (List.range m.length)) = fl at *
            simp (disch := trivial) [← e]
          · have : l ≠ m := fun z => hlm (by rw [z])
            have hc : ¬ (l.length : Int) = m.length := by omega
            simp (disch := trivial) [φ__law_same, fs__law_same, hlm, this]
      | _ => simp (disch := trivial) [φ__law_same, fs__law_same]
end Wl

set_option Elab.async false
set_option linter.all false
set_option maxRecDepth 100000
set_option maxHeartbeats 4000000
namespace Wl
open Wv PySem
/-! ## the ascending rows of so many places, ascending -/
def nxt (n : Nat) (row : List Nat) : List Nat := match row.getLast? with
  | none => List.range n
  | some k => (List.range (n - (k + 1))).map fun j => k + 1 + j
def chs (n : Nat) : Nat → List (List Nat)
  | 0 => [[]]
  | s + 1 => (chs n s).flatMap fun row => (nxt n row).map fun k => row ++ [k]
abbrev Asc (row : List Nat) : Prop := row.Pairwise (· < ·)
theorem asc_last {row : List Nat} {k : Nat} (h : Asc row) (hk : row.getLast? = some k) : ∀ a ∈ row, a ≤ k := by
  obtain ⟨ys, rfl⟩ := List.getLast?_eq_some_iff.mp hk
  intro a ha
  rcases List.mem_append.mp ha with ha | ha
  · exact Nat.le_of_lt ((List.pairwise_append.mp h).2.2 a ha k (by simp))
  · simp at ha; omega
theorem mem_nxt {n k : Nat} {row : List Nat} (h : Asc row) : k ∈ nxt n row ↔ (∀ a ∈ row, a < k) ∧ k < n := by
  unfold nxt
  cases hl : row.getLast? with
  | none =>
    rw [List.getLast?_eq_none_iff] at hl
    subst hl; simp
  | some x =>
    simp only [List.mem_map, List.mem_range]
    have hx : x ∈ row := List.mem_of_getLast? hl
    constructor
    · rintro ⟨j, hj, rfl⟩
      exact ⟨fun a ha => by have := asc_last h hl a ha; omega, by omega⟩
    · rintro ⟨h1, h2⟩
      have := h1 x hx
      exact ⟨k - (x + 1), by omega, by omega⟩
theorem nxt_asc (n : Nat) (row : List Nat) : Asc (nxt n row) := by
  unfold nxt
  split
  · exact List.pairwise_lt_range
  · exact List.Pairwise.map _ (fun a b h => by omega) List.pairwise_lt_range
theorem mem_chs {n : Nat} : ∀ {s : Nat} {row : List Nat}, row ∈ chs n s ↔ Asc row ∧ (∀ a ∈ row, a < n) ∧ row.length = s
  | 0, row => by
    simp only [chs, List.mem_singleton]
    constructor
    · rintro rfl; simp
    · rintro ⟨_, _, h⟩; exact List.length_eq_zero_iff.mp h
  | s + 1, row => by
    simp only [chs, List.mem_flatMap, List.mem_map]
    constructor
    · rintro ⟨r, hr, k, hk, rfl⟩
      obtain ⟨h1, h2, h3⟩ := mem_chs.mp hr
      obtain ⟨k1, k2⟩ := (mem_nxt h1).mp hk
      refine ⟨List.pairwise_append.mpr ⟨h1, List.pairwise_singleton _ _, fun a ha b hb => by simp at hb; subst hb; exact k1 a ha⟩, fun a ha => ?_, by simp [h3]⟩
      rcases List.mem_append.mp ha with ha | ha
      · exact h2 a ha
      · simp at ha; omega
    · rintro ⟨h1, h2, h3⟩
      have hne : row ≠ [] := by intro e; rw [e] at h3; cases h3
      have e := List.dropLast_concat_getLast hne
      have hp : Asc (row.dropLast ++ [row.getLast hne]) := by rw [e]; exact h1
      obtain ⟨p1, _, p3⟩ := List.pairwise_append.mp hp
      refine ⟨row.dropLast, mem_chs.mpr ⟨p1, fun a ha => h2 a (List.dropLast_subset _ ha), by rw [List.length_dropLast, h3]; rfl⟩, row.getLast hne, (mem_nxt p1).mpr ⟨fun a ha => p3 a ha _ (by simp), h2 _ (List.getLast_mem hne)⟩, e⟩
/-- the order of rows -/
def lexN (a b : List Nat) : Bool := lexI (a.map Int.ofNat) (b.map Int.ofNat)
theorem lexI_pre : ∀ (p a b : List Int), lexI (p ++ a) (p ++ b) = lexI a b
  | [], _, _ => rfl
  | x :: p, a, b => by
    show lexI (x :: (p ++ a)) (x :: (p ++ b)) = _
    rw [lexI, if_pos rfl]; exact lexI_pre p a b
theorem lexI_app : ∀ (a b c d : List Int), a.length = b.length → lexI a b = true → lexI (a ++ c) (b ++ d) = true
  | [], [], _, _, _, h => by cases h
  | [], _ :: _, _, _, e, _ => by cases e
  | _ :: _, [], _, _, e, _ => by cases e
  | x :: a, y :: b, c, d, e, h => by
    show lexI (x :: (a ++ c)) (y :: (b ++ d)) = true
    unfold lexI at h ⊢
    by_cases q : x = y
    · rw [if_pos q] at h ⊢; exact lexI_app a b c d (by simpa using e) h
    · rw [if_neg q] at h ⊢; exact h
theorem chs_len {n s : Nat} {row : List Nat} (h : row ∈ chs n s) : row.length = s := (mem_chs.mp h).2.2
theorem pw_flatMap {α β : Type} {R : β → β → Prop} (f : α → List β) : ∀ {l : List α}, (∀ a ∈ l, (f a).Pairwise R) → l.Pairwise (fun a b => ∀ x ∈ f a, ∀ y ∈ f b, R x y) → (l.flatMap f).Pairwise R
  | [], _, _ => by simp
  | a :: l, h1, h2 => by
    obtain ⟨k1, k2⟩ := List.pairwise_cons.mp h2
    rw [List.flatMap_cons]
    refine List.pairwise_append.mpr ⟨h1 a List.mem_cons_self, pw_flatMap f (fun b hb => h1 b (List.mem_cons_of_mem _ hb)) k2, fun x hx y hy => ?_⟩
    obtain ⟨b, hb, hy⟩ := List.mem_flatMap.mp hy
    exact k1 b hb x hx y hy
theorem chs_srt (n : Nat) : ∀ s, (chs n s).Pairwise fun a b => lexN a b = true
  | 0 => List.pairwise_singleton _ _
  | s + 1 => by
    have ih := chs_srt n s
    refine pw_flatMap _ (fun row hr => ?_) (ih.imp_of_mem fun {a b} ha hb h x hx y hy => ?_)
    · refine List.Pairwise.map _ (fun a b h => ?_) (nxt_asc n row)
      show lexI ((row ++ [a]).map Int.ofNat) ((row ++ [b]).map Int.ofNat) = true
      rw [List.map_append, List.map_append, lexI_pre]
      show lexI [_] [_] = true
      rw [lexI_one]
      exact decide_eq_true (Int.ofNat_lt.mpr h)
    · obtain ⟨k, _, rfl⟩ := List.mem_map.mp hx
      obtain ⟨j, _, rfl⟩ := List.mem_map.mp hy
      show lexI ((a ++ [k]).map Int.ofNat) ((b ++ [j]).map Int.ofNat) = true
      rw [List.map_append, List.map_append]
      exact lexI_app _ _ _ _ (by rw [List.length_map, List.length_map, chs_len ha, chs_len hb]) h
theorem chs_nodup (n s : Nat) : (chs n s).Nodup := (chs_srt n s).imp fun {a b} h e => by
  subst e
  have : lexN a a = false := lexI_irr _
  rw [this] at h; cases h
end Wl

set_option Elab.async false
set_option linter.all false
set_option maxRecDepth 100000
namespace Wl
open Wv PySem
/-! choices: 0 count, 1 size, 2 found, 3 row, 4 k -/
def fs_choices (φ_choices : Fn) : Fs := (seqM (ifS (tbM (b2M true (rdM 1) (kM (.int 0)) eqH)) (seqM (retM (naM (acM true (naM anM tupH) anM) lstH))
  nxM) nxM)
  (seqM (setM 2 (naM anM lstH))
  (seqM (forM (seM (callM 2 [] φ_choices (cyM 0 (cvM true (b2M true (rdM 1) (kM (.int 1)) subH) cnM)))) (.nm 3) (seqM (expM (muM 2 (plM 2) "list" true (acM true (lcM [4] (range2M (acM true (ifM (tbM (b2M true (naM (acM true (rdM 3) anM) lenH) (kM (.int 0)) gtH)) (b2M true (b2M true (rdM 3) (u1M (kM (.int 1)) negH) ixH) (kM (.int 1)) addH) (kM (.int 0))) (acM true (rdM 0) anM))) (.nm 4) yesT (b2M true (rdM 3) (naM (acM true (rdM 4) anM) tupH) addH)) anM) extH))
  nxM))
  (seqM (retM (mvM 2))
  nxM))))
def φ_choices : Nat → Fn
  | 0 => defM [] 3 noS
  | n + 1 => defM [] 3 (fs_choices (φ_choices n))
/-! great_ones: 0 web, 1 near, 2 found, 3 todo, 4 place, 5 row, 6 some, 7 done, 8 rest, 9 out, 10 b -/
def fs_great_ones : Fs := (seqM (expM (callM 1 [] φ_look_at (cyM 0 cnM)))
  (seqM (setM 1 (callM 1 [] φ_neighbours (cyM 0 cnM)))
  (seqM (setM 2 (naM anM lstH))
  (seqM (setM 3 (naM (acM true (naM (acM true (naM anM tupH) (acM true (u1M (b2M true (rdM 0) (kM (.int 0)) ixH) (rg1H false)) (acM true (naM anM lstH) anM))) tupH) anM) lstH))
  (seqM (whM (tbM (b2M true (naM (acM true (rdM 3) anM) lenH) (kM (.int 0)) gtH)) (seqM (asgM (.tp [5, 6, 7]) (muM 3 (plM 3) "list" true anM popH))
  (seqM (ifS (andT (tbM (b2M true (naM (acM true (rdM 6) anM) lenH) (kM (.int 0)) eqH)) (tbM (b2M true (naM (acM true (rdM 7) anM) lenH) (kM (.int 0)) eqH))) (seqM (expM (muM 2 (plM 2) "list" true (acM true (naM (acM true (naM (acM true (rdM 5) anM) sortedH) anM) tupleH) anM) appH))
  nxM) nxM)
  (seqM (parM [8, 9] (acM true (naM (acM true (rdM 6) anM) listH) (acM true (naM (acM true (rdM 7) anM) listH) anM)))
  (seqM (forM (seM (fzM 6)) (.nm 4) (seqM (expM (muM 3 (plM 3) "list" true (acM true (naM (acM true (b2M true (rdM 5) (naM (acM true (rdM 4) anM) tupH) addH) (acM true (lcM [10] (slM 8) (.nm 10) (tbM (b2M true (rdM 10) (b2M true (rdM 1) (rdM 4) ixH) (inH false))) (rdM 10)) (acM true (lcM [10] (slM 9) (.nm 10) (tbM (b2M true (rdM 10) (b2M true (rdM 1) (rdM 4) ixH) (inH false))) (rdM 10)) anM))) tupH) anM) appH))
  (seqM (expM (muM 8 (plM 8) "list" true (acM true (rdM 4) anM) remH))
  (seqM (expM (muM 9 (plM 9) "list" false (acM true (mvM 4) anM) appH))
  nxM))))
  nxM)))) FU)
  (seqM (retM (ifM (tbM (b2M true (b2M true (rdM 0) (kM (.int 0)) ixH) (kM (.int 0)) gtH)) (naM (acM true (naM (acM true (rdM 2) anM) sortedH) anM) tupleH) (naM anM tupH)))
  nxM))))))
def φ_great_ones : Fn := defM [] 10 fs_great_ones
end Wl

set_option Elab.async false
set_option linter.all false
set_option maxRecDepth 100000
set_option maxHeartbeats 4000000
namespace Wl
open Wv PySem
local macro_rules | `(tactic| trivial) => `(tactic| (simp only [List.length_map, List.length_append, List.length_cons, List.length_nil, List.length_range, List.length_reverse, List.length_set]; omega))
local macro_rules | `(tactic| trivial) => `(tactic| (simp [Function.comp_def]; done))
local macro_rules | `(tactic| trivial) => `(tactic| assumption)
local macro_rules | `(tactic| trivial) => `(tactic| omega)
abbrev rwI (row : List Nat) : Im := .tup (row.map intI)
abbrev rwD (row : List Nat) : Dt := .im (rwI row)
theorem nxt_len (n : Nat) (row : List Nat) : (nxt n row).length ≤ n := by
  unfold nxt; split <;> simp <;> omega
theorem flatMap_pre {α β : Type} (f : α → List β) (ys zs : List α) : (ys.flatMap f).length ≤ ((ys ++ zs).flatMap f).length := by simp
@[simp] theorem ext_ap (l m : List Dt) (h : m.all Dt.isIm = true) (h2 : l.length + m.length ≤ 16777216) : extH (.lst l) [.o (.lst m)] = .ok (.lst (l ++ m), vN) := by
  simp only [extH, Vl.d, SZ_nat, h, h2, and_self, if_true]
theorem choices_ok (n : Nat) (hn : n ≤ 1000) : ∀ (s f : Nat), s < f → s ≤ 1000 → (∀ t, t ≤ s → (chs n t).length ≤ 16000000) → φ_choices f [vI n, vI s] = .ok (.o (.lst ((chs n s).map rwD)), [])
  | _, 0, h, _, _ => by omega
  | 0, f + 1, _, _, _ => by
    simp (disch := trivial) [φ_choices, fs_choices, chs]
  | s + 1, f + 1, h, hs, hb => by
    have ih := choices_ok n hn s f (by omega) (by omega) fun t ht => hb t (by omega)
    have b1 := hb (s + 1) (by omega)
    have ne : ¬ ((s : Int) + 1 = 0) := by omega
    refine Tr.eq ?_
    simp (disch := trivial) [φ_choices, fs_choices, ne, ih]
    refine (forL_tr (fun ys ρ => ∃ j3, ρ = [Sl.o (Dt.im (.int (n : Nat))), .o (.im (.int ((s : Int) + 1))), .o (.lst ((ys.flatMap fun row => (nxt n row).map fun k => row ++ [k]).map rwD)), j3, .e]) ⟨_, rfl⟩ ?_).bind ?_
    · rintro ys row zs _ e ⟨j3, rfl⟩
      have hr : row ∈ chs n s := by rw [e]; simp
      obtain ⟨h1, h2, h3⟩ := mem_chs.mp hr
      have bl : (ys.flatMap fun row => (nxt n row).map fun k => row ++ [k]).length + (nxt n row).length ≤ 16000000 := by
        have := flatMap_pre (fun row => (nxt n row).map fun k => row ++ [k]) (ys ++ [row]) zs
        rw [List.append_assoc, List.singleton_append, ← e] at this
        have b1 : ((chs n s).flatMap fun row => (nxt n row).map fun k => row ++ [k]).length ≤ 16000000 := b1
        simp at this b1 ⊢
        omega
      generalize hacc : (ys.flatMap fun row => (nxt n row).map fun k => row ++ [k]) = acc at *
      refine Tr.gen fun P hP => ?_
      have fin : P (.nx [Sl.o (Dt.im (.int (n : Nat))), .o (.im (.int ((s : Int) + 1))), .o (.lst ((acc ++ (nxt n row).map fun k => row ++ [k]).map rwD)), .o (rwD row), .e]) := hP _ ⟨_, rfl, .o (rwD row), by rw [List.flatMap_append, hacc]; simp⟩
      have ln := nxt_len n row
      by_cases c : row = []
      · subst c
        simp (disch := trivial)
        rw [lcL_map (fun k => rwD [k]) (by intro j hj; simp (disch := trivial))]
        simp [nxt] at fin bl
        simp (disch := trivial)
        exact ⟨_, rfl, fin⟩
      · obtain ⟨r', k, rfl⟩ : ∃ r' k, row = r' ++ [k] := ⟨_, _, (List.dropLast_concat_getLast c).symm⟩
        have hk : k < n := h2 k (by simp)
        have hl : r'.length ≤ 1000 := by have := h3; simp at this; omega
        have al := atI_last (r'.map intI ++ [intI k]) (by simp)
        simp at al
        have en : ((n : Int) - ((k : Int) + 1)).toNat = n - (k + 1) := by omega
        simp (disch := trivial) [al, en]
        rw [lcL_map (fun j => rwD (r' ++ [k] ++ [k + 1 + j])) (by intro j hj; simp (disch := trivial))]
        simp [nxt] at fin bl
        simp (disch := trivial)
        exact ⟨_, rfl, fin⟩
    · rintro u ⟨_, rfl, j3, rfl⟩
      simp (disch := trivial)
      exact ⟨_, rfl, rfl⟩
end Wl

set_option Elab.async false
set_option linter.all false
set_option maxRecDepth 100000
set_option maxHeartbeats 4000000
namespace Wl
open Wv PySem
local macro_rules | `(tactic| trivial) => `(tactic| (simp only [List.length_map, List.length_append, List.length_cons, List.length_nil, List.length_range, List.length_reverse, List.length_set]; omega))
local macro_rules | `(tactic| trivial) => `(tactic| (simp [Function.comp_def]; done))
local macro_rules | `(tactic| trivial) => `(tactic| assumption)
local macro_rules | `(tactic| trivial) => `(tactic| omega)
/-! all rows of at most s places, as the law makes them -/
def bst (s : Nat) (f : List (List Nat)) (k : Nat) : List (List Nat) := f ++ (f.filter fun r => decide (r.length < s)).map fun r => r ++ [k]
def bins (s : Nat) : Nat → List (List Nat)
  | 0 => [[]]
  | m + 1 => bst s (bins s m) m
theorem bins_len (s : Nat) : ∀ m, (bins s m).length ≤ 2 ^ m
  | 0 => by simp [bins]
  | m + 1 => by
    have ih := bins_len s m
    have := List.length_filter_le (fun r : List Nat => decide (r.length < s)) (bins s m)
    simp only [bins, bst, List.length_append, List.length_map, Nat.pow_succ]; omega
theorem mem_bins (s : Nat) : ∀ {m : Nat} {row : List Nat}, row ∈ bins s m ↔ Asc row ∧ (∀ a ∈ row, a < m) ∧ row.length ≤ s
  | 0, row => by
    simp only [bins, List.mem_singleton]
    constructor
    · rintro rfl; simp
    · rintro ⟨_, h, _⟩
      cases row with
      | nil => rfl
      | cons a r => exact absurd (h a (by simp)) (by omega)
  | m + 1, row => by
    simp only [bins, bst, List.mem_append, List.mem_map, List.mem_filter, decide_eq_true_eq]
    constructor
    · rintro (h | ⟨r, ⟨h, hl⟩, rfl⟩)
      · obtain ⟨h1, h2, h3⟩ := (mem_bins s).mp h
        exact ⟨h1, fun a ha => by have := h2 a ha; omega, h3⟩
      · obtain ⟨h1, h2, h3⟩ := (mem_bins s).mp h
        refine ⟨List.pairwise_append.mpr ⟨h1, List.pairwise_singleton _ _, fun a ha b hb => by simp at hb; subst hb; exact h2 a ha⟩, fun a ha => ?_, by simp; omega⟩
        rcases List.mem_append.mp ha with ha | ha
        · have := h2 a ha; omega
        · simp at ha; omega
    · rintro ⟨h1, h2, h3⟩
      by_cases c : m ∈ row
      · have hne : row ≠ [] := by intro e; rw [e] at c; cases c
        have e := List.dropLast_concat_getLast hne
        have hp : Asc (row.dropLast ++ [row.getLast hne]) := by rw [e]; exact h1
        obtain ⟨p1, _, p3⟩ := List.pairwise_append.mp hp
        have el : row.getLast hne = m := by
          have h4 := h2 _ (List.getLast_mem hne)
          have c' : m ∈ row.dropLast ++ [row.getLast hne] := by rw [e]; exact c
          rcases List.mem_append.mp c' with c' | c'
          · have := p3 m c' (row.getLast hne) (by simp); omega
          · simp at c'; omega
        rw [el] at e p3
        refine .inr ⟨row.dropLast, ⟨(mem_bins s).mpr ⟨p1, fun a ha => p3 a ha m (by simp), by rw [List.length_dropLast]; omega⟩, ?_⟩, e⟩
        have := List.length_pos_iff.mpr hne
        rw [List.length_dropLast]; omega
      · exact .inl ((mem_bins s).mpr ⟨h1, fun a ha => by have := h2 a ha; have : a ≠ m := fun e => c (e ▸ ha); omega, h3⟩)
theorem bins_nodup (s : Nat) : ∀ m, (bins s m).Nodup
  | 0 => by simp [bins]
  | m + 1 => by
    refine List.nodup_append.mpr ⟨bins_nodup s m, ?_, fun x hx y hy e => ?_⟩
    · exact List.Pairwise.map _ (fun a b h e => h (List.append_cancel_right e)) ((bins_nodup s m).filter _)
    · subst e
      obtain ⟨r, _, rfl⟩ := List.mem_map.mp hy
      have := ((mem_bins s).mp hx).2.1 m (by simp)
      omega
theorem imK_rw (row : List Nat) : imK (rwI row) = row.map Int.ofNat := by
  show (row.map intI).map imInt = _
  rw [List.map_map]; rfl
theorem rwI_inj {a b : List Nat} (h : rwI a = rwI b) : a = b := by
  have := congrArg imK h
  rw [imK_rw, imK_rw] at this
  exact List.map_inj_right (fun x y h => Int.ofNat.inj h) |>.mp this
theorem bins_perm (n s : Nat) : (chs n s).Perm ((bins s n).filter fun r => decide (r.length = s)) := by
  refine (List.perm_ext_iff_of_nodup (chs_nodup n s) ((bins_nodup s n).filter _)).mpr fun row => ?_
  simp only [mem_chs, List.mem_filter, mem_bins, decide_eq_true_eq]
  constructor
  · rintro ⟨h1, h2, h3⟩; exact ⟨⟨h1, h2, by omega⟩, h3⟩
  · rintro ⟨⟨h1, h2, _⟩, h3⟩; exact ⟨h1, h2, h3⟩
theorem isRow_rw {row : List Nat} (h : row ≠ []) : (rwI row).isRow = true := by
  cases row with
  | nil => exact absurd rfl h
  | cons a r => simp [rwI, Im.isRow, Im.isInt]
theorem okS_rows {L : List (List Nat)} {s : Nat} (h : ∀ r ∈ L, r.length = s) (nd : L.Nodup) : okS (L.map rwI) = true := by
  unfold okS
  cases s with
  | succ s =>
    have : (L.map rwI).all Im.isRow = true := by
      rw [List.all_eq_true]; intro x hx
      obtain ⟨r, hr, rfl⟩ := List.mem_map.mp hx
      exact isRow_rw fun e => by have := h r hr; rw [e] at this; cases this
    rw [this, Bool.or_true, Bool.true_or]
  | zero =>
    have e : ∀ r ∈ L, r = [] := fun r hr => List.length_eq_zero_iff.mp (h r hr)
    match L, nd, e with
    | [], _, _ => rfl
    | [a], _, e => rw [e a (by simp)]; rfl
    | a :: b :: L, nd, e =>
      have := e a (by simp); have := e b (by simp)
      subst a b
      simp at nd
theorem srt_rows (n s : Nat) : srtI (((bins s n).filter fun r => decide (r.length = s)).map rwI) = (chs n s).map rwI := by
  refine (srtI_uniq (okS_rows (s := s) (fun r hr => by simpa using (List.mem_filter.mp hr).2) ((bins_nodup s n).filter _)) ?_ ((bins_perm n s).map _)).symm
  refine List.pairwise_map.mpr ((chs_srt n s).imp fun {a b} h => ?_)
  show lexI (imK (rwI b)) (imK (rwI a)) = false
  rw [imK_rw, imK_rw]
  exact lexI_asym h
theorem law_choices_ok (n s : Nat) (hn : n ≤ 20) (hs : s ≤ 1000) : φ__law_choices [vI n, vI s] = .ok (.o (.lst ((chs n s).map rwD)), []) := by
  refine Tr.eq ?_
  simp (disch := trivial) [φ__law_choices, fs__law_choices]
  refine (forL_tr (fun ys ρ => ∃ j3, ρ = [Sl.o (Dt.im (.int (n : Nat))), .o (.im (.int (s : Nat))), .o (.lst ((bins s ys.length).map rwD)), j3, .e]) ⟨_, rfl⟩ ?_).bind ?_
  · rintro ys m zs _ e ⟨j3, rfl⟩
    obtain ⟨hy, hm⟩ := range_split e
    subst hy
    rw [List.length_range]
    have b1 := bins_len s m
    have b2 : 2 ^ m ≤ 2 ^ 20 := Nat.pow_le_pow_right (by omega) (by omega)
    have b3 : ∀ row ∈ bins s m, row.length ≤ s := fun row hr => ((mem_bins s).mp hr).2.2
    refine Tr.gen fun P hP => ?_
    have fin : P (.nx [Sl.o (Dt.im (.int (n : Nat))), .o (.im (.int (s : Nat))), .o (.lst ((bins s (m + 1)).map rwD)), .o (intD m), .e]) := hP _ ⟨_, rfl, .o (intD m), by simp⟩
    simp only [bins, bst] at fin
    generalize bins s m = L at *
    have hf := List.length_filter_le (fun r : List Nat => decide (r.length < s)) L
    simp (disch := trivial)
    rw [lcL_pure (fun r => decide (r.length < s)) (fun r => rwD (r ++ [m])) (by
      intro r hr
      have := b3 r hr
      simp (disch := trivial) [rwD, rwI])]
    simp at fin
    simp (disch := trivial)
    exact ⟨_, rfl, fin⟩
  · rintro u ⟨_, rfl, j3, rfl⟩
    rw [List.length_range]
    have b1 := bins_len s n
    have b2 : 2 ^ n ≤ 2 ^ 20 := Nat.pow_le_pow_right (by omega) (by omega)
    have ok := okS_rows (s := s) (L := (bins s n).filter fun r => decide (r.length = s)) (fun r hr => by simpa using (List.mem_filter.mp hr).2) ((bins_nodup s n).filter _)
    have sr := srt_rows n s
    generalize bins s n = L at *
    simp (disch := trivial)
    rw [lcL_pure (fun r => decide (r.length = s)) rwD (by
      intro r hr
      simp (disch := trivial))]
    generalize hF : L.filter (fun r => decide (r.length = s)) = F at *
    simp (disch := trivial) [ok, sr]
    exact ⟨_, rfl, rfl⟩
end Wl

set_option Elab.async false
set_option linter.all false
set_option maxRecDepth 100000
set_option maxHeartbeats 4000000
namespace K02
open Wv Wl PySem
local macro_rules | `(tactic| trivial) => `(tactic| (simp only [List.length_map, List.length_append, List.length_cons, List.length_nil, List.length_range, List.length_reverse, List.length_set]; omega))
local macro_rules | `(tactic| trivial) => `(tactic| (simp [Function.comp_def]; done))
local macro_rules | `(tactic| trivial) => `(tactic| assumption)
local macro_rules | `(tactic| trivial) => `(tactic| omega)
theorem sum_const {α : Type} (l : List α) (c : Nat) : (l.map fun _ => c).sum = l.length * c := by
  induction l with
  | nil => simp
  | cons a r ih => simp only [List.map_cons, List.sum_cons, ih, List.length_cons, Nat.succ_mul]; omega
theorem ad_if (n : Nat) (E : Nat → Nat → Bool) (a b : Nat) : ad n E a b = if a < b ∧ b < n then E a b else if b < a ∧ a < n then E b a else false := by
  unfold ad
  by_cases h : a < b
  · rw [if_pos h]; by_cases k : b < n <;> simp [h, k]; intro; omega
  · by_cases h2 : b < a
    · rw [if_neg h, if_pos h2]; by_cases k : a < n <;> simp [h, h2, k]
    · simp [h, h2]
theorem p1 (n m : Nat) (E F : Nat → Nat → Bool) : tsE (n + m) (fun a b => !bsE n E F a b) = tsE (n + m) (atE n (fun a b => !E a b) fun a b => !F a b) :=
  tsE_ext fun a b _ _ => by unfold bsE atE; split; rfl; split <;> rfl
theorem p2 (n m : Nat) (E F : Nat → Nat → Bool) : tsE (n + m) (fun a b => !atE n E F a b) = tsE (n + m) (bsE n (fun a b => !E a b) fun a b => !F a b) :=
  tsE_ext fun a b _ _ => by unfold bsE atE; split; rfl; split <;> rfl
theorem p4 (n m : Nat) (E F : Nat → Nat → Bool) : (tsE (n + m) (bsE n E F)).length = (tsE n E).length + (tsE m F).length := by
  rw [← bs_ts]; simp
theorem p5 (n m : Nat) (E F : Nat → Nat → Bool) : (tsE (n + m) (atE n E F)).length = (tsE n E).length + (tsE m F).length + n * m := by
  have hc : ∀ p : Nat × Nat, p ∈ ((List.range n).flatMap fun a => (List.range m).map fun b => (a, n + b)) ↔ p.1 < n ∧ n ≤ p.2 ∧ p.2 < n + m := by
    rintro ⟨x, y⟩
    simp only [List.mem_flatMap, List.mem_range, List.mem_map, Prod.mk.injEq]
    constructor
    · rintro ⟨a, ha, b, hb, rfl, rfl⟩; omega
    · rintro ⟨h1, h2, h3⟩; exact ⟨x, h1, y - n, by omega, rfl, by omega⟩
  have hl : ((List.range n).flatMap fun a => (List.range m).map fun b => (a, n + b)).length = n * m := by
    rw [List.length_flatMap]; simp [sum_const]
  have hs : ((List.range n).flatMap fun a => (List.range m).map fun b => (a, n + b)).Pairwise ltP := by
    refine pairwise_flatMap (S := (· < ·)) List.pairwise_lt_range (fun a _ => ?_) fun a b h x hx y hy => ?_
    · refine List.Pairwise.map _ (fun x y h => ?_) List.pairwise_lt_range
      have h : x < y := h
      exact .inr ⟨rfl, show n + x < n + y by omega⟩
    · obtain ⟨_, _, rfl⟩ := List.mem_map.mp hx
      obtain ⟨_, _, rfl⟩ := List.mem_map.mp hy
      exact .inl h
  generalize ((List.range n).flatMap fun a => (List.range m).map fun b => (a, n + b)) = more at *
  have : (tsE (n + m) (atE n E F)).Perm (tsE (n + m) (bsE n E F) ++ more) := by
    refine perm_of (tsE_nodup _ _) ?_ fun p => ?_
    · rw [List.nodup_append]
      refine ⟨tsE_nodup _ _, hs.imp fun {a b} h e => by subst e; exact ltP_irr _ h, fun a ha b hb e => ?_⟩
      subst e
      have h1 := mem_tsE.mp ha
      have h2 := (hc a).mp hb
      unfold bsE at h1
      rw [if_neg (by omega), if_neg (by omega)] at h1
      cases h1.2.2
    · rw [List.mem_append, mem_tsE, mem_tsE, hc]
      unfold atE bsE
      grind
  rw [this.length_eq, List.length_append, hl, p4]
/-! parts -/
theorem ad_bs (n m : Nat) (E F : Nat → Nat → Bool) (a b : Nat) : ad (n + m) (bsE n E F) a b = if a < n ∧ b < n then ad n E a b else if n ≤ a ∧ n ≤ b then ad m F (a - n) (b - n) else false := by
  simp only [ad_if, bsE]
  grind
theorem cn_lo {n m : Nat} {E F : Nat → Nat → Bool} {a b : Nat} (ha : a < n) : Cn (ad (n + m) (bsE n E F)) a b ↔ Cn (ad n E) a b := by
  constructor
  · intro h
    induction h with
    | refl => exact .refl
    | step h e ih =>
      have hb := ih.lt ha
      rw [ad_bs] at e
      split at e
      · exact ih.step e
      · rw [if_neg (by omega)] at e; cases e
  · intro h
    induction h with
    | refl => exact .refl
    | step h e ih =>
      refine ih.step ?_
      have := ad_lt e
      rw [ad_bs, if_pos ⟨this.1, this.2.1⟩]; exact e
theorem cn_hi {n m : Nat} {E F : Nat → Nat → Bool} {a b : Nat} : Cn (ad (n + m) (bsE n E F)) (n + a) (n + b) ↔ Cn (ad m F) a b := by
  constructor
  · intro h
    have : ∀ x, Cn (ad (n + m) (bsE n E F)) (n + a) x → n ≤ x ∧ Cn (ad m F) a (x - n) := by
      intro x h
      induction h with
      | refl => exact ⟨by omega, by rw [Nat.add_sub_cancel_left]; exact .refl⟩
      | step h e ih =>
        rw [ad_bs, if_neg (by omega)] at e
        split at e
        · rename_i c; exact ⟨c.2, ih.2.step e⟩
        · cases e
    have := (this _ h).2
    rwa [Nat.add_sub_cancel_left] at this
  · intro h
    induction h with
    | refl => exact .refl
    | step h e ih =>
      refine ih.step ?_
      rw [ad_bs, if_neg (by omega), if_pos (by omega), Nat.add_sub_cancel_left, Nat.add_sub_cancel_left]; exact e
theorem p6 (n m : Nat) (E F : Nat → Nat → Bool) : (comps (n + m) (bsE n E F)).length = (comps n E).length + (comps m F).length := by
  simp only [comps, List.length_map]
  rw [List.range_add, List.filter_append, List.length_append, List.filter_map, List.length_map]
  have e1 : (List.range n).filter (lead (n + m) (bsE n E F)) = (List.range n).filter (lead n E) := by
    apply List.filter_congr; intro k hk
    have hk := List.mem_range.mp hk
    rw [Bool.eq_iff_iff, lead_iff, lead_iff]
    exact ⟨fun h j hj c => h j hj ((cn_lo (by omega)).mpr c), fun h j hj c => h j hj ((cn_lo (by omega)).mp c)⟩
  have e2 : (List.range m).filter (lead (n + m) (bsE n E F) ∘ fun x => n + x) = (List.range m).filter (lead m F) := by
    apply List.filter_congr; intro k hk
    rw [Bool.eq_iff_iff, Function.comp, lead_iff, lead_iff]
    constructor
    · intro h j hj c; exact h (n + j) (by omega) (cn_hi.mpr c)
    · intro h j hj c
      by_cases hjn : j < n
      · have := ((cn_lo hjn).mp c).lt hjn; omega
      · obtain ⟨i, rfl⟩ : ∃ i, j = n + i := ⟨j - n, by omega⟩
        exact h i (by omega) (cn_hi.mp c)
  rw [e1, e2]
/-! degrees -/
def deg (n : Nat) (E : Nat → Nat → Bool) (a : Nat) : Nat := (nb n E a).length
theorem filter_len3 {α : Type} (p q r : α → Bool) : ∀ l : List α, (∀ x ∈ l, (p x).toNat + (q x).toNat + (r x).toNat = 1) → (l.filter p).length + (l.filter q).length + (l.filter r).length = l.length
  | [], _ => rfl
  | x :: l, h => by
    have h1 := h x List.mem_cons_self
    have h2 := filter_len3 p q r l fun y hy => h y (List.mem_cons_of_mem _ hy)
    simp only [List.filter_cons, List.length_cons]
    cases hp : p x <;> cases hq : q x <;> cases hr : r x <;> simp [hp, hq, hr] at h1 ⊢ <;> omega
theorem filter_eq_len (n a : Nat) (h : a < n) : ((List.range n).filter fun x => decide (x = a)).length = 1 := by
  have : (List.range n).filter (fun x => decide (x = a)) = [a] := sorted_ext (R := (· < ·)) (fun a => Nat.lt_irrefl a) (fun h => Nat.lt_asymm h) (List.pairwise_lt_range.filter _) (by simp) fun x => by
    simp only [List.mem_filter, List.mem_range, decide_eq_true_eq, List.mem_singleton]
    omega
  rw [this]; rfl
theorem p9 (n : Nat) (E : Nat → Nat → Bool) (a : Nat) (h : a < n) : deg n E a + deg n (fun a b => !E a b) a = n - 1 := by
  have := filter_len3 (fun b => ad n E a b) (fun b => ad n (fun a b => !E a b) a b) (fun b => decide (b = a)) (List.range n) (by
    intro x hx
    have hx := List.mem_range.mp hx
    unfold ad
    by_cases c : a < x
    · simp [c, hx, show ¬ x = a by omega]; cases E a x <;> rfl
    · by_cases c2 : x < a
      · simp [c, c2, h, show ¬ x = a by omega]; cases E x a <;> rfl
      · have : x = a := by omega
        subst this; simp)
  rw [filter_eq_len n a h, List.length_range] at this
  unfold deg nb; omega
theorem deg_bs_lo (n m : Nat) (E F : Nat → Nat → Bool) (a : Nat) (h : a < n) : deg (n + m) (bsE n E F) a = deg n E a := by
  unfold deg nb
  rw [List.range_add, List.filter_append, List.length_append, List.filter_map, List.length_map]
  have e1 : (List.range n).filter (fun b => ad (n + m) (bsE n E F) a b) = (List.range n).filter fun b => ad n E a b := by
    apply List.filter_congr; intro k hk
    have hk := List.mem_range.mp hk
    rw [ad_bs, if_pos ⟨h, hk⟩]
  have e2 : (List.range m).filter ((fun b => ad (n + m) (bsE n E F) a b) ∘ fun x => n + x) = [] := by
    rw [List.filter_eq_nil_iff]; intro k hk
    simp only [Function.comp]
    rw [ad_bs, if_neg (by omega), if_neg (by omega)]; simp
  rw [e1, e2]; rfl
theorem deg_bs_hi (n m : Nat) (E F : Nat → Nat → Bool) (a : Nat) : deg (n + m) (bsE n E F) (n + a) = deg m F a := by
  unfold deg nb
  rw [List.range_add, List.filter_append, List.length_append, List.filter_map, List.length_map]
  have e1 : (List.range n).filter (fun b => ad (n + m) (bsE n E F) (n + a) b) = [] := by
    rw [List.filter_eq_nil_iff]; intro k hk
    have hk := List.mem_range.mp hk
    rw [ad_bs, if_neg (by omega), if_neg (by omega)]; simp
  have e2 : (List.range m).filter ((fun b => ad (n + m) (bsE n E F) (n + a) b) ∘ fun x => n + x) = (List.range m).filter fun b => ad m F a b := by
    apply List.filter_congr; intro k hk
    simp only [Function.comp]
    rw [ad_bs, if_neg (by omega), if_pos (by omega), Nat.add_sub_cancel_left, Nat.add_sub_cancel_left]
  rw [e1, e2]; simp
theorem ad_at (n m : Nat) (E F : Nat → Nat → Bool) (a b : Nat) (ha : a < n + m) (hb : b < n + m) : ad (n + m) (atE n E F) a b = if a < n ∧ b < n then ad n E a b else if n ≤ a ∧ n ≤ b then ad m F (a - n) (b - n) else true := by
  simp only [ad_if, atE]
  grind
theorem deg_at_lo (n m : Nat) (E F : Nat → Nat → Bool) (a : Nat) (h : a < n) : deg (n + m) (atE n E F) a = deg n E a + m := by
  unfold deg nb
  rw [List.range_add, List.filter_append, List.length_append, List.filter_map, List.length_map]
  have e1 : (List.range n).filter (fun b => ad (n + m) (atE n E F) a b) = (List.range n).filter fun b => ad n E a b := by
    apply List.filter_congr; intro k hk
    have hk := List.mem_range.mp hk
    rw [ad_at _ _ _ _ _ _ (by omega) (by omega), if_pos ⟨h, hk⟩]
  have e2 : (List.range m).filter ((fun b => ad (n + m) (atE n E F) a b) ∘ fun x => n + x) = List.range m := by
    rw [List.filter_eq_self]; intro k hk
    have hk := List.mem_range.mp hk
    simp only [Function.comp]
    rw [ad_at _ _ _ _ _ _ (by omega) (by omega), if_neg (by omega), if_neg (by omega)]
  rw [e1, e2]; simp
theorem deg_at_hi (n m : Nat) (E F : Nat → Nat → Bool) (a : Nat) (h : a < m) : deg (n + m) (atE n E F) (n + a) = deg m F a + n := by
  unfold deg nb
  rw [List.range_add, List.filter_append, List.length_append, List.filter_map, List.length_map]
  have e1 : (List.range n).filter (fun b => ad (n + m) (atE n E F) (n + a) b) = List.range n := by
    rw [List.filter_eq_self]; intro k hk
    have hk := List.mem_range.mp hk
    rw [ad_at _ _ _ _ _ _ (by omega) (by omega), if_neg (by omega), if_neg (by omega)]
  have e2 : (List.range m).filter ((fun b => ad (n + m) (atE n E F) (n + a) b) ∘ fun x => n + x) = (List.range m).filter fun b => ad m F a b := by
    apply List.filter_congr; intro k hk
    have hk := List.mem_range.mp hk
    simp only [Function.comp]
    rw [ad_at _ _ _ _ _ _ (by omega) (by omega), if_neg (by omega), if_pos (by omega), Nat.add_sub_cancel_left, Nat.add_sub_cancel_left]
  rw [e1, e2]; simp; omega
theorem p7a (n m : Nat) (E F : Nat → Nat → Bool) : (List.range (n + m)).map (fun a => intI (nb (n + m) (bsE n E F) a).length) = (List.range n).map (fun a => intI (nb n E a).length) ++ (List.range m).map fun a => intI (nb m F a).length := by
  rw [List.range_add, List.map_append, List.map_map]
  congr 1
  · apply List.map_congr_left; intro k hk
    have := deg_bs_lo n m E F k (List.mem_range.mp hk)
    unfold deg at this; rw [this]
  · apply List.map_congr_left; intro k hk
    have := deg_bs_hi n m E F k
    unfold deg at this; simp only [Function.comp]; rw [this]
theorem p7b (n m : Nat) (E F : Nat → Nat → Bool) : (List.range (n + m)).map (fun a => intI (nb (n + m) (atE n E F) a).length) = (List.range n).map (fun a => Im.int ((nb n E a).length + m)) ++ (List.range m).map fun a => Im.int ((nb m F a).length + n) := by
  rw [List.range_add, List.map_append, List.map_map]
  congr 1
  · apply List.map_congr_left; intro k hk
    have := deg_at_lo n m E F k (List.mem_range.mp hk)
    unfold deg at this; rw [this]; rfl
  · apply List.map_congr_left; intro k hk
    have := deg_at_hi n m E F k (List.mem_range.mp hk)
    unfold deg at this; simp only [Function.comp]; rw [this]; rfl
theorem sum_one (n x : Nat) (h : x < n) : ((List.range n).map fun a => if x = a then 1 else 0).sum = 1 := by
  induction n with
  | zero => omega
  | succ n ih =>
    rw [List.range_succ, List.map_append, List.sum_append]
    by_cases c : x < n
    · rw [ih c]; simp; omega
    · have : x = n := by omega
      subst this
      have : ((List.range x).map fun a => if x = a then 1 else 0) = (List.range x).map fun _ => 0 := by
        apply List.map_congr_left; intro k hk
        have := List.mem_range.mp hk
        rw [if_neg (by omega)]
      rw [this]; simp [sum_const]
theorem sum_add {α : Type} (f g : α → Nat) : ∀ l : List α, (l.map fun a => f a + g a).sum = (l.map f).sum + (l.map g).sum
  | [] => rfl
  | a :: l => by simp only [List.map_cons, List.sum_cons, sum_add f g l]; omega
theorem sum_rows (n : Nat) : ∀ ys : List (Nat × Nat), (∀ p ∈ ys, p.1 < p.2 ∧ p.2 < n) → ((List.range n).map fun a => (rowN ys a).length).sum = 2 * ys.length
  | [], _ => by
    have : ((List.range n).map fun a => (rowN [] a).length) = (List.range n).map fun _ => 0 := by
      apply List.map_congr_left; intro k _; rfl
    rw [this]; simp [sum_const]
  | p :: ys, h => by
    have h0 := h p List.mem_cons_self
    have ih := sum_rows n ys fun q hq => h q (List.mem_cons_of_mem _ hq)
    have : ((List.range n).map fun a => (rowN (p :: ys) a).length) = (List.range n).map fun a => ((if p.1 = a then 1 else 0) + (if p.2 = a then 1 else 0)) + (rowN ys a).length := by
      apply List.map_congr_left; intro k _
      unfold rowN
      rw [List.filterMap_cons]
      by_cases c : p.1 = k
      · rw [if_pos c, if_pos c, if_neg (by omega)]; simp; omega
      · rw [if_neg c, if_neg c]
        by_cases d : p.2 = k
        · rw [if_pos d, if_pos d]; simp; omega
        · rw [if_neg d, if_neg d]; simp
    rw [this, sum_add, sum_add, sum_one n _ (by omega), sum_one n _ h0.2, ih, List.length_cons]; omega
theorem deg_row (n : Nat) (E : Nat → Nat → Bool) (a : Nat) : (nb n E a).length = (rowN (tsE n E) a).length := by
  have h := rowN_nb n E a
  have := (srtI_perm ((rowN (tsE n E) a).map intI)).length_eq
  rw [h] at this
  simpa using this
theorem p8 (n : Nat) (E : Nat → Nat → Bool) : ((List.range n).map fun a => (nb n E a).length).sum = 2 * (tsE n E).length := by
  rw [← sum_rows n (tsE n E) fun p hp => by have := mem_tsE.mp hp; exact ⟨this.1, this.2.1⟩]
  congr 1
  apply List.map_congr_left; intro k _
  exact deg_row n E k
end K02

set_option Elab.async false
set_option linter.all false
set_option maxRecDepth 100000
set_option maxHeartbeats 4000000
namespace K58
open Wv Wl K02 PySem
/-! ## how many ties a web has without a great set all tied (for at most seven places) -/
def ec (R : Nat → Nat → Bool) : List Nat → Nat
  | [] => 0
  | a :: l => (l.filter (R a)).length + ec R l
theorem ec_perm {R : Nat → Nat → Bool} (sym : ∀ a b, R a b = R b a) {l l' : List Nat} (h : l.Perm l') : ec R l = ec R l' := by
  induction h with
  | nil => rfl
  | cons a h ih => simp only [ec, ih, (h.filter (R a)).length_eq]
  | swap a b l =>
    simp only [ec, List.filter_cons, sym a b]
    cases R b a <;> simp <;> omega
  | trans _ _ h1 h2 => exact h1.trans h2
theorem ec_app (R : Nat → Nat → Bool) (B : List Nat) : ∀ A : List Nat, ec R (A ++ B) = ec R A + (A.map fun a => (B.filter (R a)).length).sum + ec R B
  | [] => by simp [ec]
  | a :: A => by
    simp only [List.cons_append, ec, ec_app R B A, List.filter_append, List.length_append, List.map_cons, List.sum_cons]; omega
theorem ec_le (R : Nat → Nat → Bool) : ∀ l : List Nat, 2 * ec R l + l.length ≤ l.length * l.length
  | [] => by simp [ec]
  | a :: l => by
    have h1 := ec_le R l
    have h2 := List.length_filter_le (R a) l
    simp only [ec, List.length_cons, Nat.add_mul, Nat.mul_add]; omega
theorem sum_le' {f : Nat → Nat} {c : Nat} : ∀ l : List Nat, (∀ x ∈ l, f x ≤ c) → (l.map f).sum ≤ l.length * c
  | [], _ => by simp
  | a :: l, h => by
    have h1 := sum_le' l fun x hx => h x (List.mem_cons_of_mem _ hx)
    have h2 := h a List.mem_cons_self
    simp only [List.map_cons, List.sum_cons, List.length_cons, Nat.add_mul]; omega
/-- as many ties as places in r parts, as equal as can be, have -/
def Tn (n r : Nat) : Nat := if r = 0 then 0 else ((pairsN n).filter fun p => decide (p.1 % r ≠ p.2 % r)).length
theorem Tn_step : ∀ n, n < 8 → ∀ r, r < 9 → 1 ≤ r → r ≤ n → 2 * Tn (n - r) r + 2 * ((n - r) * (r - 1)) + r * r ≤ 2 * Tn n r + r := by decide +kernel
theorem Tn_mono : ∀ n, n < 8 → ∀ r, r < 9 → Tn n r ≤ Tn n (r + 1) := by decide +kernel
theorem turan {R : Nat → Nat → Bool} (sym : ∀ a b, R a b = R b a) : ∀ (m : Nat) (V : List Nat) (r : Nat), V.length + r ≤ m → V.length ≤ 7 → r ≤ 8 → V.Nodup →
    (∀ l : List Nat, l.Nodup → (∀ a ∈ l, a ∈ V) → l.Pairwise (fun a b => R a b = true) → l.length ≤ r) → ec R V ≤ Tn V.length r
  | m, [], r, _, _, _, _, _ => Nat.zero_le _
  | m, v :: V, 0, _, _, _, _, h => by
    have := h [v] (by simp) (by simp) (by simp)
    simp at this
  | 0, v :: V, r + 1, h, _, _, _, _ => by simp at h
  | m + 1, v :: V, r + 1, hm, h7, h8, nd, h => by
    generalize hW : v :: V = W at *
    by_cases ex : ∃ A : List Nat, A.Nodup ∧ (∀ a ∈ A, a ∈ W) ∧ A.Pairwise (fun a b => R a b = true) ∧ A.length = r + 1
    · obtain ⟨A, a1, a2, a3, a4⟩ := ex
      have pm : W.Perm (W.filter (fun x => decide (x ∉ A)) ++ A) := by
        refine (List.perm_ext_iff_of_nodup nd (List.nodup_append.mpr ⟨nd.filter _, a1, fun x hx y hy e => ?_⟩)).mpr fun x => ?_
        · subst e
          have := (List.mem_filter.mp hx).2
          simp only [decide_eq_true_eq] at this
          exact this hy
        · simp only [List.mem_append, List.mem_filter, decide_eq_true_eq]
          constructor
          · intro hx
            by_cases c : x ∈ A
            · exact .inr c
            · exact .inl ⟨hx, c⟩
          · rintro (⟨hx, _⟩ | hx)
            · exact hx
            · exact a2 x hx
      have hB : ∀ x ∈ W.filter (fun x => decide (x ∉ A)), x ∈ W ∧ x ∉ A := fun x hx => by
        have := List.mem_filter.mp hx
        simpa using this
      have ndB : (W.filter (fun x => decide (x ∉ A))).Nodup := nd.filter _
      generalize W.filter (fun x => decide (x ∉ A)) = B at *
      have hl := pm.length_eq
      rw [List.length_append, a4] at hl
      have ihB := turan sym m B (r + 1) (by omega) (by omega) h8 ndB fun l l1 l2 l3 => h l l1 (fun a ha => (hB a (l2 a ha)).1) l3
      have cross : (B.map fun b => (A.filter (R b)).length).sum ≤ B.length * r := sum_le' B fun b hb => by
        have h1 := List.length_filter_le (R b) A
        apply Classical.byContradiction
        intro hno
        have e : (A.filter (R b)).length = A.length := by omega
        have al : ∀ a ∈ A, R b a = true := List.length_filter_eq_length_iff.mp e
        have := h (b :: A) (List.nodup_cons.mpr ⟨(hB b hb).2, a1⟩) (fun x hx => by
          rcases List.mem_cons.mp hx with rfl | hx
          · exact (hB x hb).1
          · exact a2 x hx) (List.pairwise_cons.mpr ⟨al, a3⟩)
        simp only [List.length_cons] at this; omega
      have hA := ec_le R A
      have st := Tn_step W.length (by omega) (r + 1) (by omega) (by omega) (by omega)
      rw [ec_perm sym pm, ec_app]
      rw [show W.length - (r + 1) = B.length by omega, Nat.add_sub_cancel] at st
      rw [a4] at hA
      generalize (r + 1) * (r + 1) = q at *
      generalize B.length * r = z at *
      omega
    · have := turan sym m W r (by omega) h7 (by omega) nd fun l l1 l2 l3 => by
        have h1 := h l l1 l2 l3
        have : l.length ≠ r + 1 := fun e => ex ⟨l, l1, l2, l3, e⟩
        omega
      exact Nat.le_trans this (Tn_mono W.length (by omega) r (by omega))
theorem ec_two {R : Nat → Nat → Bool} (sym : ∀ a b, R a b = R b a) (irr : ∀ a, R a a = false) : ∀ l : List Nat, (l.map fun a => (l.filter (R a)).length).sum = 2 * ec R l
  | [] => rfl
  | a :: l => by
    have ih := ec_two sym irr l
    have e : ∀ L : List Nat, (L.map fun x => ((a :: l).filter (R x)).length).sum = (L.map fun x => (l.filter (R x)).length).sum + (L.filter (R a)).length := by
      intro L
      induction L with
      | nil => rfl
      | cons x L ih2 =>
        have h : ((a :: l).filter (R x)).length = (l.filter (R x)).length + (R a x).toNat := by rw [List.filter_cons, sym x a]; cases R a x <;> simp
        have h' : ((x :: L).filter (R a)).length = (R a x).toNat + (L.filter (R a)).length := by rw [List.filter_cons]; cases R a x <;> simp <;> omega
        rw [List.map_cons, List.sum_cons, ih2, List.map_cons, List.sum_cons, h, h']; omega
    rw [List.map_cons, List.sum_cons, e l, ih, List.filter_cons, irr a]
    simp only [ec]
    simp; omega
theorem ec_web (n : Nat) (E : Nat → Nat → Bool) : ec (ad n E) (List.range n) = (tsE n E).length := by
  have h := ec_two (R := ad n E) (ad_comm n E) (ad_irr n E) (List.range n)
  have h2 := p8 n E
  have : ((List.range n).map fun a => ((List.range n).filter (ad n E a)).length) = (List.range n).map fun a => (nb n E a).length := rfl
  rw [this, h2] at h; omega
/-- places all tied -/
def Clq (n : Nat) (E : Nat → Nat → Bool) (l : List Nat) : Prop := l.Nodup ∧ (∀ a ∈ l, a < n) ∧ l.Pairwise fun a b => ad n E a b = true
theorem turan_web (n : Nat) (E : Nat → Nat → Bool) (r : Nat) (hn : n ≤ 7) (hr : r ≤ 8) (h : ∀ l, Clq n E l → l.length ≤ r) : (tsE n E).length ≤ Tn n r := by
  have := turan (ad_comm n E) (n + r) (List.range n) r (by simp) (by simpa using hn) hr List.nodup_range fun l l1 l2 l3 => h l ⟨l1, fun a ha => List.mem_range.mp (l2 a ha), l3⟩
  rw [ec_web] at this
  simpa using this
/-! ## a place made alike to another one -/
def mvE (n : Nat) (E : Nat → Nat → Bool) (p q : Nat) (a b : Nat) : Bool := if a = p then ad n E q b else if b = p then ad n E q a else E a b
theorem ad_mv (n : Nat) (E : Nat → Nat → Bool) (p q a b : Nat) (hp : p < n) : ad n (mvE n E p q) a b = if a = b then false else if a = p then ad n E q b else if b = p then ad n E q a else ad n E a b := by
  by_cases c : a = b
  · subst c; rw [ad_irr, if_pos rfl]
  · rw [if_neg c]
    have key : ∀ x y, x < y → ad n (mvE n E p q) x y = if x = p then ad n E q y else if y = p then ad n E q x else ad n E x y := by
      intro x y hxy
      by_cases hy : y < n
      · rw [ad_if, if_pos ⟨hxy, hy⟩, mvE]
        by_cases h1 : x = p
        · rw [if_pos h1, if_pos h1]
        · rw [if_neg h1, if_neg h1]
          by_cases h2 : y = p
          · rw [if_pos h2, if_pos h2]
          · rw [if_neg h2, if_neg h2, ad_if, if_pos ⟨hxy, hy⟩]
      · have z : ∀ w, ad n E w y = false := fun w => by
          cases e : ad n E w y with
          | false => rfl
          | true => exact absurd (ad_lt e).2.1 hy
        rw [ad_if, if_neg (by omega), if_neg (by omega)]
        by_cases h1 : x = p
        · rw [if_pos h1, z]
        · rw [if_neg h1, if_neg (by omega), z]
    rcases Nat.lt_or_gt_of_ne c with h | h
    · exact key a b h
    · rw [ad_comm, key b a h]
      by_cases h1 : a = p
      · rw [if_neg (by omega), if_pos h1, if_pos h1]
      · rw [if_neg h1, if_neg h1]
        by_cases h2 : b = p
        · rw [if_pos h2, if_pos h2]
        · rw [if_neg h2, if_neg h2, ad_comm]
theorem range_perm {n p : Nat} (hp : p < n) : (List.range n).Perm (p :: (List.range n).filter fun x => decide (x ≠ p)) := by
  refine (List.perm_ext_iff_of_nodup List.nodup_range (List.nodup_cons.mpr ⟨fun h => ?_, List.nodup_range.filter _⟩)).mpr fun x => ?_
  · have := (List.mem_filter.mp h).2
    simp at this
  · simp only [List.mem_cons, List.mem_filter, List.mem_range, decide_eq_true_eq]
    constructor
    · intro h
      by_cases c : x = p
      · exact .inl c
      · exact .inr ⟨h, c⟩
    · rintro (rfl | ⟨h, _⟩)
      · exact hp
      · exact h
theorem ec_congr {R S : Nat → Nat → Bool} : ∀ l : List Nat, (∀ a ∈ l, ∀ b ∈ l, R a b = S a b) → ec R l = ec S l
  | [], _ => rfl
  | a :: l, h => by
    simp only [ec]
    rw [ec_congr l fun x hx y hy => h x (List.mem_cons_of_mem _ hx) y (List.mem_cons_of_mem _ hy)]
    rw [List.filter_congr fun x hx => h a List.mem_cons_self x (List.mem_cons_of_mem _ hx)]
/-- the ties of the moved web -/
theorem mv_ties (n : Nat) (E : Nat → Nat → Bool) (p q : Nat) (hp : p < n) (hpq : ad n E p q = false) : (tsE n (mvE n E p q)).length + deg n E p = (tsE n E).length + deg n E q := by
  have dg : ∀ x, x ∈ [p, q] → deg n E x = (((List.range n).filter fun x => decide (x ≠ p)).filter (ad n E x)).length := by
    intro x hx
    have h0 : ad n E x p = false := by
      simp at hx
      rcases hx with rfl | rfl
      · exact ad_irr _ _ _
      · rw [ad_comm]; exact hpq
    have := ((range_perm hp).filter (ad n E x)).length_eq
    rw [List.filter_cons, h0] at this
    exact this
  rw [← ec_web, ← ec_web, ec_perm (ad_comm n _) (range_perm hp), ec_perm (ad_comm n E) (range_perm hp)]
  simp only [ec]
  rw [dg p (by simp), dg q (by simp)]
  rw [ec_congr (R := ad n (mvE n E p q)) (S := ad n E) _ fun a ha b hb => by
    have ha := (List.mem_filter.mp ha).2
    have hb := (List.mem_filter.mp hb).2
    simp only [decide_eq_true_eq] at ha hb
    rw [ad_mv n E p q a b hp, if_neg ha, if_neg hb]
    split
    · rename_i c; subst c; rw [ad_irr]
    · rfl]
  rw [List.filter_congr (q := ad n E q) fun x hx => by
    have hx := (List.mem_filter.mp hx).2
    simp only [decide_eq_true_eq] at hx
    rw [ad_mv n E p q p x hp, if_neg (fun z => hx z.symm), if_pos rfl]]
  omega
/-- no greater set all tied -/
theorem mv_clq (n : Nat) (E : Nat → Nat → Bool) (p q : Nat) (hp : p < n) (hq : q < n) {l : List Nat} (h : Clq n (mvE n E p q) l) : ∃ l', Clq n E l' ∧ l'.length = l.length := by
  obtain ⟨h1, h2, h3⟩ := h
  by_cases c : p ∈ l
  · have pm := List.perm_cons_erase c
    have h3' := (pm.pairwise_iff (fun {a b} h => by rw [ad_comm]; exact h)).mp h3
    have nd' := pm.nodup_iff.mp h1
    obtain ⟨k1, k2⟩ := List.pairwise_cons.mp h3'
    obtain ⟨n1, n2⟩ := List.nodup_cons.mp nd'
    have ne : ∀ x ∈ l.erase p, x ≠ p := fun x hx e => n1 (e ▸ hx)
    have t : ∀ x ∈ l.erase p, ad n E q x = true := fun x hx => by
      have := k1 x hx
      rw [ad_mv n E p q p x hp, if_neg (fun z => ne x hx z.symm), if_pos rfl] at this
      exact this
    refine ⟨q :: l.erase p, ⟨List.nodup_cons.mpr ⟨fun hx => ?_, n2⟩, fun a ha => ?_, List.pairwise_cons.mpr ⟨t, ?_⟩⟩, by rw [pm.length_eq]; rfl⟩
    · have := t q hx
      rw [ad_irr] at this; cases this
    · rcases List.mem_cons.mp ha with rfl | ha
      · exact hq
      · exact h2 a (List.mem_of_mem_erase ha)
    · refine k2.imp_of_mem fun {a b} ha hb h => ?_
      rw [ad_mv n E p q a b hp, if_neg (ne a ha), if_neg (ne b hb)] at h
      split at h
      · cases h
      · exact h
  · refine ⟨l, ⟨h1, h2, h3.imp_of_mem fun {a b} ha hb h => ?_⟩, rfl⟩
    rw [ad_mv n E p q a b hp, if_neg (show ¬ a = p from fun z => c (z ▸ ha)), if_neg (show ¬ b = p from fun z => c (z ▸ hb))] at h
    split at h
    · cases h
    · exact h
/-! ## a three: the web with more ties -/
structure Thr (n : Nat) (E : Nat → Nat → Bool) (a b c : Nat) : Prop where
  tie : ad n E a b = true
  ac : ad n E a c = false
  bc : ad n E b c = false
  lt : c < n
def bet (n : Nat) (E : Nat → Nat → Bool) (a b c : Nat) : Nat → Nat → Bool :=
  if deg n E c < max (deg n E a) (deg n E b) then mvE n E c (if deg n E b ≤ deg n E a then a else b) else mvE n (mvE n E a c) b c
theorem Thr.ne {n : Nat} {E : Nat → Nat → Bool} {a b c : Nat} (h : Thr n E a b c) : a < n ∧ b < n ∧ a ≠ b ∧ a ≠ c ∧ b ≠ c := by
  obtain ⟨h1, h2, h3⟩ := ad_lt h.tie
  refine ⟨h1, h2, h3, fun e => ?_, fun e => ?_⟩
  · have := h.bc; rw [← e, ad_comm, h.tie] at this; cases this
  · have := h.ac; rw [← e, h.tie] at this; cases this
theorem bc_mv {n : Nat} {E : Nat → Nat → Bool} {a b c : Nat} (h : Thr n E a b c) : ad n (mvE n E a c) b c = false := by
  obtain ⟨h1, h2, h3, h4, h5⟩ := h.ne
  rw [ad_mv n E a c b c h1, if_neg h5, if_neg (fun z => h3 z.symm), if_neg (fun z => h4 z.symm)]
  exact h.bc
theorem bet_more {n : Nat} {E : Nat → Nat → Bool} {a b c : Nat} (h : Thr n E a b c) : (tsE n E).length < (tsE n (bet n E a b c)).length := by
  obtain ⟨h1, h2, h3, h4, h5⟩ := h.ne
  unfold bet
  split
  · rename_i hd
    by_cases hab : deg n E b ≤ deg n E a
    · rw [if_pos hab]
      have := mv_ties n E c a h.lt (by rw [ad_comm]; exact h.ac)
      omega
    · rw [if_neg hab]
      have := mv_ties n E c b h.lt (by rw [ad_comm]; exact h.bc)
      omega
  · rename_i hd
    have e1 := mv_ties n E a c h1 h.ac
    have e2 := mv_ties n (mvE n E a c) b c h2 (bc_mv h)
    have dc : deg n (mvE n E a c) c = deg n E c := by
      unfold deg nb
      rw [List.filter_congr fun x hx => by
        rw [ad_mv n E a c c x h1, if_neg (show ¬ c = a from fun z => h4 z.symm)]]
      congr 1
      refine List.filter_congr fun x _ => ?_
      split
      · rename_i q; subst q; rw [ad_irr]
      · split
        · rename_i q; subst q; rw [ad_irr, ad_comm]; exact h.ac.symm
        · rfl
    have db : deg n (mvE n E a c) b + 1 = deg n E b := by
      have p1 := ((range_perm h1).filter (ad n (mvE n E a c) b)).length_eq
      have p2 := ((range_perm h1).filter (ad n E b)).length_eq
      rw [List.filter_cons, ad_mv n E a c b a h1, if_neg (show ¬ b = a from fun z => h3 z.symm), if_neg (show ¬ b = a from fun z => h3 z.symm), if_pos rfl, ad_comm n E c b, h.bc] at p1
      rw [List.filter_cons, ad_comm n E b a, h.tie] at p2
      have e : ((List.range n).filter fun x => decide (x ≠ a)).filter (ad n (mvE n E a c) b) = ((List.range n).filter fun x => decide (x ≠ a)).filter (ad n E b) := by
        refine List.filter_congr fun x hx => ?_
        have hx := (List.mem_filter.mp hx).2
        simp only [decide_eq_true_eq] at hx
        rw [ad_mv n E a c b x h1, if_neg (show ¬ b = a from fun z => h3 z.symm), if_neg hx]
        split
        · rename_i q; subst q; rw [ad_irr]
        · rfl
      rw [e] at p1
      have d1 : deg n (mvE n E a c) b = ((List.range n).filter (ad n (mvE n E a c) b)).length := rfl
      have d2 : deg n E b = ((List.range n).filter (ad n E b)).length := rfl
      simp at p1 p2
      simp only [d1, d2]
      simp at *
      omega
    rw [dc] at e2
    omega
theorem bet_clq {n : Nat} {E : Nat → Nat → Bool} {a b c : Nat} (h : Thr n E a b c) {l : List Nat} (k : Clq n (bet n E a b c) l) : ∃ l', Clq n E l' ∧ l'.length = l.length := by
  obtain ⟨h1, h2, h3, h4, h5⟩ := h.ne
  unfold bet at k
  split at k
  · split at k
    · exact mv_clq n E c a h.lt h1 k
    · exact mv_clq n E c b h.lt h2 k
  · obtain ⟨l1, k1, e1⟩ := mv_clq n (mvE n E a c) b c h2 h.lt k
    obtain ⟨l2, k2, e2⟩ := mv_clq n E a c h1 h.lt k1
    exact ⟨l2, k2, by rw [e2, e1]⟩
end K58

set_option Elab.async false
set_option linter.all false
set_option maxRecDepth 100000
set_option maxHeartbeats 4000000
namespace K58
open Wv Wl K02 PySem
theorem ec_zero {R : Nat → Nat → Bool} : ∀ l : List Nat, (∀ a ∈ l, ∀ b, R a b = false) → ec R l = 0
  | [], _ => rfl
  | a :: l, h => by
    simp only [ec]
    rw [ec_zero l fun x hx => h x (List.mem_cons_of_mem _ hx), List.filter_eq_nil_iff.mpr fun x _ => by rw [h a List.mem_cons_self]; decide]
    rfl
/-- the ties between some places -/
theorem ties_in (n : Nat) (E : Nat → Nat → Bool) (row : List Nat) (nd : row.Nodup) (hl : ∀ a ∈ row, a < n) : ((tsE n E).filter fun p => decide (p.1 ∈ row) && decide (p.2 ∈ row)).length = ec (ad n E) row := by
  have e : (tsE n E).filter (fun p => decide (p.1 ∈ row) && decide (p.2 ∈ row)) = tsE n fun a b => E a b && (decide (a ∈ row) && decide (b ∈ row)) := by
    unfold tsE
    rw [List.filter_filter]
    exact List.filter_congr fun p _ => by rw [Bool.and_comm]
  have hA : ∀ a b, ad n (fun a b => E a b && (decide (a ∈ row) && decide (b ∈ row))) a b = (ad n E a b && (decide (a ∈ row) && decide (b ∈ row))) := by
    intro a b
    rw [ad_if, ad_if]
    by_cases c : a < b ∧ b < n
    · rw [if_pos c, if_pos c]
    · rw [if_neg c, if_neg c]
      by_cases c : b < a ∧ a < n
      · rw [if_pos c, if_pos c, Bool.and_comm (decide (b ∈ row))]
      · rw [if_neg c, if_neg c, Bool.false_and]
  rw [e, ← ec_web]
  have pm : (List.range n).Perm ((List.range n).filter (fun x => decide (x ∉ row)) ++ row) := by
    refine (List.perm_ext_iff_of_nodup List.nodup_range (List.nodup_append.mpr ⟨List.nodup_range.filter _, nd, fun x hx y hy e => ?_⟩)).mpr fun x => ?_
    · subst e
      have := (List.mem_filter.mp hx).2
      simp only [decide_eq_true_eq] at this
      exact this hy
    · simp only [List.mem_append, List.mem_filter, decide_eq_true_eq, List.mem_range]
      constructor
      · intro hx
        by_cases c : x ∈ row
        · exact .inr c
        · exact .inl ⟨hx, c⟩
      · rintro (⟨hx, _⟩ | hx)
        · exact hx
        · exact hl x hx
  have hz : ∀ a ∈ (List.range n).filter (fun x => decide (x ∉ row)), ∀ b, ad n (fun a b => E a b && (decide (a ∈ row) && decide (b ∈ row))) a b = false := fun a ha b => by
    have := (List.mem_filter.mp ha).2
    simp only [decide_eq_true_eq] at this
    rw [hA, decide_eq_false this, Bool.false_and, Bool.and_false]
  rw [ec_perm (ad_comm n _) pm, ec_app, ec_zero _ hz]
  have cr : (((List.range n).filter fun x => decide (x ∉ row)).map fun a => (row.filter (ad n (fun a b => E a b && (decide (a ∈ row) && decide (b ∈ row))) a)).length).sum = 0 := by
    have := sum_le' (f := fun a => (row.filter (ad n (fun a b => E a b && (decide (a ∈ row) && decide (b ∈ row))) a)).length) (c := 0) ((List.range n).filter fun x => decide (x ∉ row)) fun a ha => by
      rw [List.filter_eq_nil_iff.mpr fun x _ => by rw [hz a ha]; decide]
      exact Nat.le_refl _
    omega
  rw [cr]; simp only [Nat.zero_add]
  exact ec_congr _ fun a ha b hb => by rw [hA, decide_eq_true ha, decide_eq_true hb]; simp
/-- all tied exactly if there are as many ties as can be -/
theorem ec_full {R : Nat → Nat → Bool} : ∀ l : List Nat, 2 * ec R l + l.length = l.length * l.length ↔ l.Pairwise fun a b => R a b = true
  | [] => by simp [ec]
  | a :: l => by
    have ih := ec_full (R := R) l
    have h1 := ec_le R l
    have h2 := List.length_filter_le (R a) l
    rw [List.pairwise_cons, ← ih]
    have e : (l.filter (R a)).length = l.length ↔ ∀ b ∈ l, R a b = true := List.length_filter_eq_length_iff
    rw [← e]
    simp only [ec, List.length_cons, Nat.add_mul, Nat.mul_add]
    omega
end K58

set_option Elab.async false
set_option linter.all false
set_option maxRecDepth 100000
set_option maxHeartbeats 4000000
namespace K58
open PySem PySem.Spec PyProof.Rows L2 Wv Wl
def topS (i : Nat) : Stmt := PySem.Challenge.pw_websbothways_k58_whole_most_ties_without.main.body.getD i (.Pass ⟨0, 0, 0, 0⟩)
abbrev st__law_draws : Stmt := topS 26
theorem sc__law_draws : FnScope ["script"] ["script"] (L2.defScope st__law_draws) := ⟨rfl, rfl, rfl, by decide +kernel, rfl, by decide +kernel, by decide +kernel⟩
abbrev st__law_made : Stmt := topS 31
theorem sc__law_made : FnScope ["count", "pairs", "found", "a", "b"] ["count", "pairs"] (L2.defScope st__law_made) := ⟨rfl, rfl, rfl, by decide +kernel, rfl, by decide +kernel, by decide +kernel⟩
abbrev st__law_draw : Stmt := topS 27
theorem sc__law_draw : FnScope ["draws", "limit", "cell", "value"] ["draws", "limit"] (L2.defScope st__law_draw) := ⟨rfl, rfl, rfl, by decide +kernel, rfl, by decide +kernel, by decide +kernel⟩
abbrev st__law_choices : Stmt := topS 36
theorem sc__law_choices : FnScope ["count", "size", "found", "k", "row"] ["count", "size"] (L2.defScope st__law_choices) := ⟨rfl, rfl, rfl, by decide +kernel, rfl, by decide +kernel, by decide +kernel⟩
abbrev st__law_full : Stmt := topS 38
theorem sc__law_full : FnScope ["web", "some", "pair"] ["web", "some"] (L2.defScope st__law_full) := ⟨rfl, rfl, rfl, by decide +kernel, rfl, by decide +kernel, by decide +kernel⟩
abbrev st__law_greatest : Stmt := topS 39
theorem sc__law_greatest : FnScope ["web", "best", "size", "some"] ["web"] (L2.defScope st__law_greatest) := ⟨rfl, rfl, rfl, by decide +kernel, rfl, by decide +kernel, by decide +kernel⟩
abbrev st_is_number : Stmt := topS 7
theorem sc_is_number : FnScope ["value"] ["value"] (L2.defScope st_is_number) := ⟨rfl, rfl, rfl, by decide +kernel, rfl, by decide +kernel, by decide +kernel⟩
abbrev st_is_web : Stmt := topS 6
theorem sc_is_web : FnScope ["value", "pair", "one"] ["value"] (L2.defScope st_is_web) := ⟨rfl, rfl, rfl, by decide +kernel, rfl, by decide +kernel, by decide +kernel⟩
abbrev st_look_at : Stmt := topS 8
theorem sc_look_at : FnScope ["web"] ["web"] (L2.defScope st_look_at) := ⟨rfl, rfl, rfl, by decide +kernel, rfl, by decide +kernel, by decide +kernel⟩
abbrev st_choices : Stmt := topS 15
theorem sc_choices : FnScope ["count", "size", "found", "row", "k"] ["count", "size"] (L2.defScope st_choices) := ⟨rfl, rfl, rfl, by decide +kernel, rfl, by decide +kernel, by decide +kernel⟩
abbrev st_neighbours : Stmt := topS 10
theorem sc_neighbours : FnScope ["web", "found", "first", "other", "_", "row"] ["web"] (L2.defScope st_neighbours) := ⟨rfl, rfl, rfl, by decide +kernel, rfl, by decide +kernel, by decide +kernel⟩
abbrev st_tied : Stmt := topS 11
theorem sc_tied : FnScope ["web", "first", "other"] ["web", "first", "other"] (L2.defScope st_tied) := ⟨rfl, rfl, rfl, by decide +kernel, rfl, by decide +kernel, by decide +kernel⟩
abbrev st_parts_shown : Stmt := topS 20
theorem sc_parts_shown : FnScope ["web", "seen", "found", "near", "place", "a", "b", "c", "one", "two", "three", "part"] ["web"] (L2.defScope st_parts_shown) := ⟨rfl, rfl, rfl, by decide +kernel, rfl, by decide +kernel, by decide +kernel⟩
abbrev st_web_of : Stmt := topS 9
theorem sc_web_of : FnScope ["count", "pairs", "found", "pair"] ["count", "pairs"] (L2.defScope st_web_of) := ⟨rfl, rfl, rfl, by decide +kernel, rfl, by decide +kernel, by decide +kernel⟩
abbrev st_moved : Stmt := topS 21
theorem sc_moved : FnScope ["web", "place", "other", "rest", "pair", "one"] ["web", "place", "other"] (L2.defScope st_moved) := ⟨rfl, rfl, rfl, by decide +kernel, rfl, by decide +kernel, by decide +kernel⟩
abbrev st_better : Stmt := topS 23
theorem sc_better : FnScope ["web", "three", "degree", "one", "two", "third", "row"] ["web", "three"] (L2.defScope st_better) := ⟨rfl, rfl, rfl, by decide +kernel, rfl, by decide +kernel, by decide +kernel⟩
abbrev st_made_parted : Stmt := topS 22
theorem sc_made_parted : FnScope ["web", "found", "told"] ["web"] (L2.defScope st_made_parted) := ⟨rfl, rfl, rfl, by decide +kernel, rfl, by decide +kernel, by decide +kernel⟩
abbrev st__law_pairs : Stmt := topS 30
theorem sc__law_pairs : FnScope ["count", "found", "a", "b"] ["count"] (L2.defScope st__law_pairs) := ⟨rfl, rfl, rfl, by decide +kernel, rfl, by decide +kernel, by decide +kernel⟩
abbrev st__law_same : Stmt := topS 29
theorem sc__law_same : FnScope ["actual", "expected", "k"] ["actual", "expected"] (L2.defScope st__law_same) := ⟨rfl, rfl, rfl, by decide +kernel, rfl, by decide +kernel, by decide +kernel⟩
abbrev st__law_web : Stmt := topS 32
theorem sc__law_web : FnScope ["draws", "least", "most", "count", "way", "pairs", "thick", "extra", "side", "pair", "k", "a", "b"] ["draws", "least", "most"] (L2.defScope st__law_web) := ⟨rfl, rfl, rfl, by decide +kernel, rfl, by decide +kernel, by decide +kernel⟩
abbrev st_parted_web : Stmt := topS 17
theorem sc_parted_web : FnScope ["count", "parts", "a", "b"] ["count", "parts"] (L2.defScope st_parted_web) := ⟨rfl, rfl, rfl, by decide +kernel, rfl, by decide +kernel, by decide +kernel⟩
abbrev st_most_ties : Stmt := topS 18
theorem sc_most_ties : FnScope ["count", "size"] ["count", "size"] (L2.defScope st_most_ties) := ⟨rfl, rfl, rfl, by decide +kernel, rfl, by decide +kernel, by decide +kernel⟩
abbrev st__law_pick : Stmt := topS 28
theorem sc__law_pick : FnScope ["draws", "row"] ["draws", "row"] (L2.defScope st__law_pick) := ⟨rfl, rfl, rfl, by decide +kernel, rfl, by decide +kernel, by decide +kernel⟩
abbrev st__law_tied : Stmt := topS 34
theorem sc__law_tied : FnScope ["web", "a", "b"] ["web", "a", "b"] (L2.defScope st__law_tied) := ⟨rfl, rfl, rfl, by decide +kernel, rfl, by decide +kernel, by decide +kernel⟩
abbrev st__law_shown : Stmt := topS 40
theorem sc__law_shown : FnScope ["web", "rows", "k", "a", "b", "c", "part", "one", "two", "three", "j"] ["web"] (L2.defScope st__law_shown) := ⟨rfl, rfl, rfl, by decide +kernel, rfl, by decide +kernel, by decide +kernel⟩
abbrev st_all_tied_part : Stmt := topS 19
theorem sc_all_tied_part : FnScope ["web", "size", "row", "b", "k", "a"] ["web", "size"] (L2.defScope st_all_tied_part) := ⟨rfl, rfl, rfl, by decide +kernel, rfl, by decide +kernel, by decide +kernel⟩
abbrev st_great_ones : Stmt := topS 13
theorem sc_great_ones : FnScope ["web", "near", "found", "todo", "place", "row", "some", "done", "rest", "out", "b"] ["web"] (L2.defScope st_great_ones) := ⟨rfl, rfl, rfl, by decide +kernel, rfl, by decide +kernel, by decide +kernel⟩
abbrev st_greatest_tied : Stmt := topS 24
theorem sc_greatest_tied : FnScope ["web", "row"] ["web"] (L2.defScope st_greatest_tied) := ⟨rfl, rfl, rfl, by decide +kernel, rfl, by decide +kernel, by decide +kernel⟩
abbrev st_law : Stmt := topS 41
theorem sc_law : FnScope ["script", "draws", "web", "size", "good", "great", "row", "k", "small", "rows", "pair", "without", "count", "parts", "pairs", "way", "some", "one", "a", "b"] ["script"] (L2.defScope st_law) := ⟨rfl, rfl, rfl, by decide +kernel, rfl, by decide +kernel, by decide +kernel⟩
structure Tab (K : PySem.W.Frag) (mg : Str → Option Value) where
  f__law_draws : Addr
  fd__law_draws : FuncData
  F__law_draws : L2.Fun K "_law_draws" "_law_draws" st__law_draws f__law_draws fd__law_draws
  g__law_draws : mg "_law_draws" = some (.ref f__law_draws)
  b__law_draws : Binds K fd__law_draws ["script"] []
  f__law_made : Addr
  fd__law_made : FuncData
  F__law_made : L2.Fun K "_law_made" "_law_made" st__law_made f__law_made fd__law_made
  g__law_made : mg "_law_made" = some (.ref f__law_made)
  b__law_made : Binds K fd__law_made ["count", "pairs"] []
  f__law_draw : Addr
  fd__law_draw : FuncData
  F__law_draw : L2.Fun K "_law_draw" "_law_draw" st__law_draw f__law_draw fd__law_draw
  g__law_draw : mg "_law_draw" = some (.ref f__law_draw)
  b__law_draw : Binds K fd__law_draw ["draws", "limit"] []
  f__law_choices : Addr
  fd__law_choices : FuncData
  F__law_choices : L2.Fun K "_law_choices" "_law_choices" st__law_choices f__law_choices fd__law_choices
  g__law_choices : mg "_law_choices" = some (.ref f__law_choices)
  b__law_choices : Binds K fd__law_choices ["count", "size"] []
  f__law_full : Addr
  fd__law_full : FuncData
  F__law_full : L2.Fun K "_law_full" "_law_full" st__law_full f__law_full fd__law_full
  g__law_full : mg "_law_full" = some (.ref f__law_full)
  b__law_full : Binds K fd__law_full ["web", "some"] []
  f__law_greatest : Addr
  fd__law_greatest : FuncData
  F__law_greatest : L2.Fun K "_law_greatest" "_law_greatest" st__law_greatest f__law_greatest fd__law_greatest
  g__law_greatest : mg "_law_greatest" = some (.ref f__law_greatest)
  b__law_greatest : Binds K fd__law_greatest ["web"] []
  f_is_number : Addr
  fd_is_number : FuncData
  F_is_number : L2.Fun K "is_number" "is_number" st_is_number f_is_number fd_is_number
  g_is_number : mg "is_number" = some (.ref f_is_number)
  b_is_number : Binds K fd_is_number ["value"] []
  f_is_web : Addr
  fd_is_web : FuncData
  F_is_web : L2.Fun K "is_web" "is_web" st_is_web f_is_web fd_is_web
  g_is_web : mg "is_web" = some (.ref f_is_web)
  b_is_web : Binds K fd_is_web ["value"] []
  f_look_at : Addr
  fd_look_at : FuncData
  F_look_at : L2.Fun K "look_at" "look_at" st_look_at f_look_at fd_look_at
  g_look_at : mg "look_at" = some (.ref f_look_at)
  b_look_at : Binds K fd_look_at ["web"] []
  f_choices : Addr
  fd_choices : FuncData
  F_choices : L2.Fun K "choices" "choices" st_choices f_choices fd_choices
  g_choices : mg "choices" = some (.ref f_choices)
  b_choices : Binds K fd_choices ["count", "size"] []
  f_neighbours : Addr
  fd_neighbours : FuncData
  F_neighbours : L2.Fun K "neighbours" "neighbours" st_neighbours f_neighbours fd_neighbours
  g_neighbours : mg "neighbours" = some (.ref f_neighbours)
  b_neighbours : Binds K fd_neighbours ["web"] []
  f_tied : Addr
  fd_tied : FuncData
  F_tied : L2.Fun K "tied" "tied" st_tied f_tied fd_tied
  g_tied : mg "tied" = some (.ref f_tied)
  b_tied : Binds K fd_tied ["web", "first", "other"] []
  f_parts_shown : Addr
  fd_parts_shown : FuncData
  F_parts_shown : L2.Fun K "parts_shown" "parts_shown" st_parts_shown f_parts_shown fd_parts_shown
  g_parts_shown : mg "parts_shown" = some (.ref f_parts_shown)
  b_parts_shown : Binds K fd_parts_shown ["web"] []
  f_web_of : Addr
  fd_web_of : FuncData
  F_web_of : L2.Fun K "web_of" "web_of" st_web_of f_web_of fd_web_of
  g_web_of : mg "web_of" = some (.ref f_web_of)
  b_web_of : Binds K fd_web_of ["count", "pairs"] []
  f_moved : Addr
  fd_moved : FuncData
  F_moved : L2.Fun K "moved" "moved" st_moved f_moved fd_moved
  g_moved : mg "moved" = some (.ref f_moved)
  b_moved : Binds K fd_moved ["web", "place", "other"] []
  f_better : Addr
  fd_better : FuncData
  F_better : L2.Fun K "better" "better" st_better f_better fd_better
  g_better : mg "better" = some (.ref f_better)
  b_better : Binds K fd_better ["web", "three"] []
  f_made_parted : Addr
  fd_made_parted : FuncData
  F_made_parted : L2.Fun K "made_parted" "made_parted" st_made_parted f_made_parted fd_made_parted
  g_made_parted : mg "made_parted" = some (.ref f_made_parted)
  b_made_parted : Binds K fd_made_parted ["web"] []
  f__law_pairs : Addr
  fd__law_pairs : FuncData
  F__law_pairs : L2.Fun K "_law_pairs" "_law_pairs" st__law_pairs f__law_pairs fd__law_pairs
  g__law_pairs : mg "_law_pairs" = some (.ref f__law_pairs)
  b__law_pairs : Binds K fd__law_pairs ["count"] []
  f__law_same : Addr
  fd__law_same : FuncData
  F__law_same : L2.Fun K "_law_same" "_law_same" st__law_same f__law_same fd__law_same
  g__law_same : mg "_law_same" = some (.ref f__law_same)
  b__law_same : Binds K fd__law_same ["actual", "expected"] []
  f__law_web : Addr
  fd__law_web : FuncData
  F__law_web : L2.Fun K "_law_web" "_law_web" st__law_web f__law_web fd__law_web
  g__law_web : mg "_law_web" = some (.ref f__law_web)
  b__law_web : Binds K fd__law_web ["draws", "least", "most"] []
  f_parted_web : Addr
  fd_parted_web : FuncData
  F_parted_web : L2.Fun K "parted_web" "parted_web" st_parted_web f_parted_web fd_parted_web
  g_parted_web : mg "parted_web" = some (.ref f_parted_web)
  b_parted_web : Binds K fd_parted_web ["count", "parts"] []
  f_most_ties : Addr
  fd_most_ties : FuncData
  F_most_ties : L2.Fun K "most_ties" "most_ties" st_most_ties f_most_ties fd_most_ties
  g_most_ties : mg "most_ties" = some (.ref f_most_ties)
  b_most_ties : Binds K fd_most_ties ["count", "size"] []
  f__law_pick : Addr
  fd__law_pick : FuncData
  F__law_pick : L2.Fun K "_law_pick" "_law_pick" st__law_pick f__law_pick fd__law_pick
  g__law_pick : mg "_law_pick" = some (.ref f__law_pick)
  b__law_pick : Binds K fd__law_pick ["draws", "row"] []
  f__law_tied : Addr
  fd__law_tied : FuncData
  F__law_tied : L2.Fun K "_law_tied" "_law_tied" st__law_tied f__law_tied fd__law_tied
  g__law_tied : mg "_law_tied" = some (.ref f__law_tied)
  b__law_tied : Binds K fd__law_tied ["web", "a", "b"] []
  f__law_shown : Addr
  fd__law_shown : FuncData
  F__law_shown : L2.Fun K "_law_shown" "_law_shown" st__law_shown f__law_shown fd__law_shown
  g__law_shown : mg "_law_shown" = some (.ref f__law_shown)
  b__law_shown : Binds K fd__law_shown ["web"] []
  f_all_tied_part : Addr
  fd_all_tied_part : FuncData
  F_all_tied_part : L2.Fun K "all_tied_part" "all_tied_part" st_all_tied_part f_all_tied_part fd_all_tied_part
  g_all_tied_part : mg "all_tied_part" = some (.ref f_all_tied_part)
  b_all_tied_part : Binds K fd_all_tied_part ["web", "size"] []
  f_great_ones : Addr
  fd_great_ones : FuncData
  F_great_ones : L2.Fun K "great_ones" "great_ones" st_great_ones f_great_ones fd_great_ones
  g_great_ones : mg "great_ones" = some (.ref f_great_ones)
  b_great_ones : Binds K fd_great_ones ["web"] []
  f_greatest_tied : Addr
  fd_greatest_tied : FuncData
  F_greatest_tied : L2.Fun K "greatest_tied" "greatest_tied" st_greatest_tied f_greatest_tied fd_greatest_tied
  g_greatest_tied : mg "greatest_tied" = some (.ref f_greatest_tied)
  b_greatest_tied : Binds K fd_greatest_tied ["web"] []
  f_law : Addr
  fd_law : FuncData
  F_law : L2.Fun K "law" "law" st_law f_law fd_law
  g_law : mg "law" = some (.ref f_law)
  b_law : Binds K fd_law ["script"] []
  m_all : mg "all" = none
  m_bool : mg "bool" = none
  m_enumerate : mg "enumerate" = none
  m_int : mg "int" = none
  m_isinstance : mg "isinstance" = none
  m_len : mg "len" = none
  m_list : mg "list" = none
  m_max : mg "max" = none
  m_min : mg "min" = none
  m_range : mg "range" = none
  m_sorted : mg "sorted" = none
  m_str : mg "str" = none
  m_tuple : mg "tuple" = none
  c_MOST_PLACES : ∃ t, mg "MOST_PLACES" = some (.int 60 t)
/-! ### _law_draws -/
section
variable {P : Program} {w : World} {K : PySem.W.Frag} {mg : Str → Option Value} {base : Heap}
theorem ok__law_draws (T : Tab K mg) (k : Nat) : FnOk P w K mg base CX0 (k + 1) T.f__law_draws T.fd__law_draws ["script"] (spF K [] 1 φ__law_draws) := by
  refine fn_b T.F__law_draws sc__law_draws (by decide) fun cdv A outer s H E hr => ?_
  have hu := hu65 hr
  exact (s_cons (s_ret (e_lst (ac (e_list (bs T.m_list) (ac (rd 0) a_nil)) (ac e_int (ac e_int (ac e_int a_nil))))))
    s_nil)
end
/-! ### _law_made -/
section
variable {P : Program} {w : World} {K : PySem.W.Frag} {mg : Str → Option Value} {base : Heap}
theorem ok__law_made (T : Tab K mg) (k : Nat) : FnOk P w K mg base CX0 (k + 1) T.f__law_made T.fd__law_made ["count", "pairs"] (spF K [] 2 φ__law_made) := by
  refine fn_b T.F__law_made sc__law_made (by decide) fun cdv A outer s H E hr => ?_
  have hu := hu65 hr
  exact (s_cons (sset 2 (e_dic0 (t := true)) sc__law_made.nd)
    (s_cons (sfor rfl PassesOwn.never (i_seq (fz 1)) (gtup [3, 4] rfl (gcons 3 sc__law_made.nd (gcons 4 sc__law_made.nd gs_nil))) (s_cons (s_if (t_ne (rd 3) (rd 4) hu) (s_cons (ssto hu (pn 2) (e_tup (ac (e_min2 rfl (bs T.m_min) (ac (rd 3) (ac (rd 4) a_nil))) (ac (e_max2 rfl (bs T.m_max) (ac (rd 3) (ac (rd 4) a_nil))) a_nil))) e_bl)
    s_nil) s_nil)
    s_nil))
    (s_cons (s_ret (e_tup (ac (rd 0) (ac (e_tuple (bs T.m_tuple) (ac (e_sorted rfl (bs T.m_sorted) (ac (rd 2) a_nil)) a_nil)) a_nil))))
    s_nil)))
end
/-! ### _law_draw -/
section
variable {P : Program} {w : World} {K : PySem.W.Frag} {mg : Str → Option Value} {base : Heap}
theorem ok__law_draw (T : Tab K mg) (k : Nat) : FnOk P w K mg base CX0 (k + 1) T.f__law_draw T.fd__law_draw ["draws", "limit"] (spF K [0] 2 φ__law_draw) := by
  refine fn_b T.F__law_draw sc__law_draw (by decide) fun cdv A outer s H E hr => ?_
  have hu := hu65 hr
  exact (s_cons (s_if (PW.pt (tw_and (t_eq (xix hu (rd 0) e_int) e_int hu) (tw_and1 (t_lt (xix hu (rd 0) e_int) (e_len (bs T.m_len) (ac (xix hu (rd 0) e_int) a_nil)))))) (s_cons (sset 2 (xix hu (xix hu (rd 0) e_int) (xix hu (rd 0) e_int)) sc__law_draw.nd)
    (s_cons (ssto hu (pn 0) e_int (e_add (xix hu (rd 0) e_int) e_int))
    (s_cons (s_if (t_ge (rd 2) (e_pow e_int e_int)) (s_cons (ssto hu (pn 0) e_int (rd 2))
    s_nil) s_nil)
    (s_cons (ssto hu (pn 0) e_int (e_mod (e_intC (bs T.m_int) (ac (e_add (e_add (e_mul (xix hu (rd 0) e_int) e_int) (rd 2)) e_int) a_nil)) e_int))
    s_nil)))) s_nil)
    (s_cons (s_if (t_gt (xix hu (rd 0) e_int) e_int) (s_cons (sset 3 (e_mod (e_intC (bs T.m_int) (ac (xix hu (rd 0) e_int) a_nil)) (rd 1)) sc__law_draw.nd)
    (s_cons (ssto hu (pn 0) e_int (e_fdiv (xix hu (rd 0) e_int) (rd 1)))
    (s_cons (s_ret (mv 3))
    s_nil))) s_nil)
    (s_cons (ssto hu (pn 0) e_int (e_mod (e_intC (bs T.m_int) (ac (e_add (e_mul (xix hu (rd 0) e_int) e_int) e_int) a_nil)) e_int))
    (s_cons (s_ret (e_mod (e_intC (bs T.m_int) (ac (e_fdiv (xix hu (rd 0) e_int) e_int) a_nil)) (rd 1)))
    s_nil))))
end
/-! ### _law_choices -/
section
variable {P : Program} {w : World} {K : PySem.W.Frag} {mg : Str → Option Value} {base : Heap}
theorem ok__law_choices (T : Tab K mg) (k : Nat) : FnOk P w K mg base CX0 (k + 1) T.f__law_choices T.fd__law_choices ["count", "size"] (spF K [] 2 φ__law_choices) := by
  refine fn_b T.F__law_choices sc__law_choices (by decide) fun cdv A outer s H E hr => ?_
  have hu := hu65 hr
  exact (s_cons (sset 2 (e_lst (ac (e_tup a_nil) a_nil)) sc__law_choices.nd)
    (s_cons (sfor rfl PassesOwn.never (irg1 T.m_range (ac (rd 0) a_nil)) (gnm 3 sc__law_choices.nd) (s_cons (sset 2 (e_add (rd 2) (xlc [("row", 4)] rfl sc__law_choices.nd (iln 2) (fun _ _ _ _ _ => (gnm 4 sc__law_choices.nd)) (fun _ _ _ _ _ => (ts1 (t_lt (e_len (bs T.m_len) (ac (rd 4) a_nil)) (rd 1)))) (fun _ _ _ _ _ => (e_add (rd 4) (e_tup (ac (rd 3) a_nil)))))) sc__law_choices.nd)
    s_nil))
    (s_cons (s_ret (e_sorted rfl (bs T.m_sorted) (ac (xlc [("row", 4)] rfl sc__law_choices.nd (iln 2) (fun _ _ _ _ _ => (gnm 4 sc__law_choices.nd)) (fun _ _ _ _ _ => (ts1 (t_eq (e_len (bs T.m_len) (ac (rd 4) a_nil)) (rd 1) hu))) (fun _ _ _ _ _ => (rd 4))) a_nil)))
    s_nil)))
end
/-! ### _law_full -/
section
variable {P : Program} {w : World} {K : PySem.W.Frag} {mg : Str → Option Value} {base : Heap}
def fs__law_full : Fs := (seqM (retM (b2M true (naM (acM true (lcM [2] (seM (b2M true (fzM 0) (kM (.int 1)) ixH)) (.nm 2) (andT (tbM (b2M true (b2M true (rdM 2) (kM (.int 0)) ixH) (rdM 1) (inH false))) (tbM (b2M true (b2M true (rdM 2) (kM (.int 1)) ixH) (rdM 1) (inH false)))) (rdM 2)) anM) lenH) (b2M true (b2M true (naM (acM true (rdM 1) anM) lenH) (b2M true (naM (acM true (rdM 1) anM) lenH) (kM (.int 1)) subH) mulH) (kM (.int 2)) fdivH) eqH))
  nxM)
def φ__law_full : Fn := defM [] 1 fs__law_full
theorem ok__law_full (T : Tab K mg) (k : Nat) : FnOk P w K mg base CX0 (k + 1) T.f__law_full T.fd__law_full ["web", "some"] (spF K [] 2 φ__law_full) := by
  refine fn_b T.F__law_full sc__law_full (by decide) fun cdv A outer s H E hr => ?_
  have hu := hu65 hr
  exact (s_cons (s_ret (e_eq (e_len (bs T.m_len) (ac (xlc [("pair", 2)] rfl sc__law_full.nd (i_seq (xix hu (fz 0) e_int)) (fun _ _ _ _ _ => (gnm 2 sc__law_full.nd)) (fun _ _ _ _ _ => (ts1 (PW.pt (tw_and (tin hu (xix hu (rd 2) e_int) (rd 1)) (tw_and1 (tin hu (xix hu (rd 2) e_int) (rd 1))))))) (fun _ _ _ _ _ => (rd 2))) a_nil)) (e_fdiv (e_mul (e_len (bs T.m_len) (ac (rd 1) a_nil)) (e_sub (e_len (bs T.m_len) (ac (rd 1) a_nil)) e_int)) e_int) hu))
    s_nil)
end
/-! ### _law_greatest -/
section
variable {P : Program} {w : World} {K : PySem.W.Frag} {mg : Str → Option Value} {base : Heap}
def fs__law_greatest : Fs := (seqM (setM 1 (kM (.int 0)))
  (seqM (forM (range1M (acM true (b2M true (b2M true (rdM 0) (kM (.int 0)) ixH) (kM (.int 1)) addH) anM)) (.nm 2) (seqM (ifS (tbM (b2M true (naM (acM true (lcM [3] (seM (callM 2 [] φ__law_choices (cvM true (b2M true (rdM 0) (kM (.int 0)) ixH) (cyM 2 cnM)))) (.nm 3) (trM (callM 2 [] φ__law_full (cyM 0 (cyM 3 cnM)))) (rdM 3)) anM) lenH) (kM (.int 0)) gtH)) (seqM (setM 1 (mvM 2))
  nxM) nxM)
  nxM))
  (seqM (retM (mvM 1))
  nxM)))
def φ__law_greatest : Fn := defM [] 3 fs__law_greatest
theorem ok__law_greatest (T : Tab K mg) (k : Nat) : FnOk P w K mg base CX0 (k + 2) T.f__law_greatest T.fd__law_greatest ["web"] (spF K [] 1 φ__law_greatest) := by
  refine fn_b T.F__law_greatest sc__law_greatest (by decide) fun cdv A outer s H E hr => ?_
  have hu := hu65 hr
  exact (s_cons (sset 1 e_int sc__law_greatest.nd)
    (s_cons (sfor rfl PassesOwn.never (irg1 T.m_range (ac (e_add (xix hu (rd 0) e_int) e_int) a_nil)) (gnm 2 sc__law_greatest.nd) (s_cons (s_if (t_gt (e_len (bs T.m_len) (ac (xlc [("some", 3)] rfl sc__law_greatest.nd (i_seq (cal (ps := ["count", "size"]) (vp := []) (ok__law_choices T (k + 0)) hr T.g__law_choices T.F__law_choices.kp T.b__law_choices (cv (xix hu (rd 0) e_int) (cn 2 c_nil)))) (fun _ _ _ _ _ => (gnm 3 sc__law_greatest.nd)) (fun _ _ _ _ _ => (ts1 (ttru (cal (ps := ["web", "some"]) (vp := []) (ok__law_full T (k + 0)) hr T.g__law_full T.F__law_full.kp T.b__law_full (cn 0 (cn 3 c_nil)))))) (fun _ _ _ _ _ => (rd 3))) a_nil)) e_int) (s_cons (sset 1 (mv 2) sc__law_greatest.nd)
    s_nil) s_nil)
    s_nil))
    (s_cons (s_ret (mv 1))
    s_nil)))
end
/-! ### is_number -/
section
variable {P : Program} {w : World} {K : PySem.W.Frag} {mg : Str → Option Value} {base : Heap}
theorem ok_is_number (T : Tab K mg) (k : Nat) : FnOk P w K mg base CX0 (k + 1) T.f_is_number T.fd_is_number ["value"] (spF K [] 1 φ_is_number) := by
  refine fn_b T.F_is_number sc_is_number (by decide) fun cdv A outer s H E hr => ?_
  have hu := hu65 hr
  exact (s_cons (s_ret (e_and (e_isi (T := "int") (by decide) boot_int (by decide) (by decide) (by rfl) T.m_int (rd 0) (bs T.m_isinstance) (by rfl)) (e_and (e_not (e_isi (T := "bool") (by decide) boot_bool (by decide) (by decide) (by rfl) T.m_bool (rd 0) (bs T.m_isinstance) (by rfl))) (e_one (e_ge (rd 0) e_int)))))
    s_nil)
end
/-! ### is_web -/
section
variable {P : Program} {w : World} {K : PySem.W.Frag} {mg : Str → Option Value} {base : Heap}
theorem ok_is_web (T : Tab K mg) (k : Nat) : FnOk P w K mg base CX0 (k + 2) T.f_is_web T.fd_is_web ["value"] (spF K [] 1 φ_is_web) := by
  refine fn_b T.F_is_web sc_is_web (by decide) fun cdv A outer s H E hr => ?_
  have hu := hu65 hr
  exact (s_cons (s_if (PW.pt (tw_or (t_not (ttru (e_isi (T := "tuple") (by decide) boot_tuple (by decide) (by decide) (by rfl) T.m_tuple (rd 0) (bs T.m_isinstance) (by rfl)))) (tw_or (t_ne (e_len (bs T.m_len) (ac (rd 0) a_nil)) e_int hu) (tw_or1 (t_not (ttru (e_isi (T := "tuple") (by decide) boot_tuple (by decide) (by decide) (by rfl) T.m_tuple (xix hu (rd 0) e_int) (bs T.m_isinstance) (by rfl)))))))) (s_cons (s_ret e_bl)
    s_nil) s_nil)
    (s_cons (s_if (PW.pt (tw_or (t_not (ttru (cal (ps := ["value"]) (vp := []) (ok_is_number T (k + 0)) hr T.g_is_number T.F_is_number.kp T.b_is_number (cv (xix hu (rd 0) e_int) c_nil)))) (tw_or1 (t_gt (xix hu (rd 0) e_int) (e_gint rfl T.c_MOST_PLACES))))) (s_cons (s_ret e_bl)
    s_nil) s_nil)
    (s_cons (sfor rfl PassesOwn.never (i_seq (xix hu (fz 0) e_int)) (gnm 1 sc_is_web.nd) (s_cons (s_if (PW.pt (tw_or (t_not (ttru (e_isi (T := "tuple") (by decide) boot_tuple (by decide) (by decide) (by rfl) T.m_tuple (rd 1) (bs T.m_isinstance) (by rfl)))) (tw_or (t_ne (e_len (bs T.m_len) (ac (rd 1) a_nil)) e_int hu) (tw_or1 (t_not (ttru (e_all rfl (bs T.m_all) (ac (xlc [("one", 2)] rfl sc_is_web.nd (iln 1) (fun _ _ _ _ _ => (gnm 2 sc_is_web.nd)) (fun _ _ _ _ _ => tsn) (fun _ _ _ _ _ => (cal (ps := ["value"]) (vp := []) (ok_is_number T (k + 0)) hr T.g_is_number T.F_is_number.kp T.b_is_number (cn 2 c_nil)))) a_nil)))))))) (s_cons (s_ret e_bl)
    s_nil) s_nil)
    (s_cons (s_if (t_not (t_ch (p := rLt) (p' := rLt) rfl rfl (xix hu (rd 1) e_int) (xix hu (rd 1) e_int) (xix hu (rd 0) e_int))) (s_cons (s_ret e_bl)
    s_nil) s_nil)
    s_nil)))
    (s_cons (s_ret (e_eq (e_list (bs T.m_list) (ac (xix hu (rd 0) e_int) a_nil)) (e_sorted rfl (bs T.m_sorted) (ac (xdc true [("pair", 1)] rfl sc_is_web.nd hu (i_seq (xix hu (fz 0) e_int)) (fun _ _ _ _ _ => (gnm 1 sc_is_web.nd)) (fun _ _ _ _ _ => tsn) (fun _ _ _ _ _ => (rd 1)) (fun _ _ _ _ _ => e_bl)) a_nil)) hu))
    s_nil))))
end
/-! ### look_at -/
section
variable {P : Program} {w : World} {K : PySem.W.Frag} {mg : Str → Option Value} {base : Heap}
theorem ok_look_at (T : Tab K mg) (k : Nat) : FnOk P w K mg base CX0 (k + 3) T.f_look_at T.fd_look_at ["web"] (spF K [] 1 φ_look_at) := by
  refine fn_b T.F_look_at sc_look_at (by decide) fun cdv A outer s H E hr => ?_
  have hu := hu65 hr
  exact (s_cons (s_if (t_not (ttru (cal (ps := ["value"]) (vp := []) (ok_is_web T (k + 0)) hr T.g_is_web T.F_is_web.kp T.b_is_web (cn 0 c_nil)))) (s_cons s_never
    s_nil) s_nil)
    s_nil)
end
/-! ### choices -/
section
variable {P : Program} {w : World} {K : PySem.W.Frag} {mg : Str → Option Value} {base : Heap}
theorem ok_choices (T : Tab K mg) (k : Nat) : (n : Nat) → FnOk P w K mg base CX0 (k + 1 + n) T.f_choices T.fd_choices ["count", "size"] (spF K [] 2 (φ_choices n))
  | 0 => fn_b T.F_choices sc_choices (by decide) fun cdv A outer s H E hr => ss_never _
  | n + 1 => by
    have ih : FnOk P w K mg base CX0 (k + 1 + n) T.f_choices T.fd_choices ["count", "size"] (spF K [] 2 (φ_choices n)) := ok_choices T k n
    refine fn_b (k := k + 1 + n) T.F_choices sc_choices (by decide) fun cdv A outer s H E hr => ?_
    have hu := hu65 hr
    exact (s_cons (s_if (t_eq (rd 1) e_int hu) (s_cons (s_ret (e_lst (ac (e_tup a_nil) a_nil)))
    s_nil) s_nil)
    (s_cons (sset 2 (e_lst a_nil) sc_choices.nd)
    (s_cons (sfor rfl PassesOwn.never (i_seq (cal (ps := ["count", "size"]) (vp := []) ih hr T.g_choices T.F_choices.kp T.b_choices (cn 0 (cv (e_sub (rd 1) e_int) c_nil)))) (gnm 3 sc_choices.nd) (s_cons (sexpr (e_extend (pn 2) (ac (xlc [("k", 4)] rfl sc_choices.nd (irg2 T.m_range (ac (e_if (t_gt (e_len (bs T.m_len) (ac (rd 3) a_nil)) e_int) (e_add (xix hu (rd 3) (e_neg e_int)) e_int) e_int) (ac (rd 0) a_nil))) (fun _ _ _ _ _ => (gnm 4 sc_choices.nd)) (fun _ _ _ _ _ => tsn) (fun _ _ _ _ _ => (e_add (rd 3) (e_tup (ac (rd 4) a_nil))))) a_nil) ms))
    s_nil))
    (s_cons (s_ret (mv 2))
    s_nil))))
end
/-! ### neighbours -/
section
variable {P : Program} {w : World} {K : PySem.W.Frag} {mg : Str → Option Value} {base : Heap}
theorem ok_neighbours (T : Tab K mg) (k : Nat) : FnOk P w K mg base CX0 (k + 1) T.f_neighbours T.fd_neighbours ["web"] (spF K [] 1 φ_neighbours) := by
  refine fn_b T.F_neighbours sc_neighbours (by decide) fun cdv A outer s H E hr => ?_
  have hu := hu65 hr
  exact (s_cons (slc 1 [("_", 4)] rfl sc_neighbours.nd sc_neighbours.kind (irg1 T.m_range (ac (xix hu (rd 0) e_int) a_nil)) (fun _ _ _ _ _ => (gnm 4 sc_neighbours.nd)) (fun _ _ _ _ _ => tsn) (fun _ _ _ _ _ => (e_lst a_nil)))
    (s_cons (sfor rfl PassesOwn.never (i_seq (xix hu (fz 0) e_int)) (gtup [2, 3] rfl (gcons 2 sc_neighbours.nd (gcons 3 sc_neighbours.nd gs_nil))) (s_cons (sexpr (e_append (pix hu (pn 1) (rd 2)) (ac (rd 3) a_nil) ms))
    (s_cons (sexpr (e_append (pix hu (pn 1) (rd 3)) (ac (rd 2) a_nil) ms))
    s_nil)))
    (s_cons (s_ret (xlc [("row", 5)] rfl sc_neighbours.nd (iln 1) (fun _ _ _ _ _ => (gnm 5 sc_neighbours.nd)) (fun _ _ _ _ _ => tsn) (fun _ _ _ _ _ => (e_sorted rfl (bs T.m_sorted) (ac (rd 5) a_nil)))))
    s_nil)))
end
/-! ### tied -/
section
variable {P : Program} {w : World} {K : PySem.W.Frag} {mg : Str → Option Value} {base : Heap}
theorem ok_tied (T : Tab K mg) (k : Nat) : FnOk P w K mg base CX0 (k + 1) T.f_tied T.fd_tied ["web", "first", "other"] (spF K [] 3 φ_tied) := by
  refine fn_b T.F_tied sc_tied (by decide) fun cdv A outer s H E hr => ?_
  have hu := hu65 hr
  exact (s_cons (s_ret (xin hu (e_tup (ac (e_min2 rfl (bs T.m_min) (ac (rd 1) (ac (rd 2) a_nil))) (ac (e_max2 rfl (bs T.m_max) (ac (rd 1) (ac (rd 2) a_nil))) a_nil))) (xix hu (rd 0) e_int)))
    s_nil)
end
/-! ### parts_shown -/
section
variable {P : Program} {w : World} {K : PySem.W.Frag} {mg : Str → Option Value} {base : Heap}
def fs_parts_shown : Fs := (seqM (expM (callM 1 [] φ_look_at (cyM 0 cnM)))
  (seqM (forM (seM (callM 2 [] (φ_choices 24) (cvM true (b2M true (rdM 0) (kM (.int 0)) ixH) (cvM true (kM (.int 3)) cnM)))) (.tp [5, 6, 7]) (seqM (forM (seM (naM (acM true (naM (acM true (rdM 5) (acM true (rdM 6) (acM true (rdM 7) anM))) tupH) (acM true (naM (acM true (rdM 5) (acM true (rdM 7) (acM true (rdM 6) anM))) tupH) (acM true (naM (acM true (rdM 6) (acM true (rdM 7) (acM true (rdM 5) anM))) tupH) anM))) tupH)) (.tp [8, 9, 10]) (seqM (ifS (andT (trM (callM 3 [] φ_tied (cyM 0 (cyM 8 (cyM 9 cnM))))) (andT (notT (trM (callM 3 [] φ_tied (cyM 0 (cyM 8 (cyM 10 cnM)))))) (notT (trM (callM 3 [] φ_tied (cyM 0 (cyM 9 (cyM 10 cnM)))))))) (seqM (retM (naM (acM true (kM (.str "three")) (acM true (naM (acM true (rdM 8) (acM true (rdM 9) (acM true (rdM 10) anM))) tupH) anM)) tupH))
  nxM) nxM)
  nxM))
  nxM))
  (seqM (setM 1 (dic0M false))
  (seqM (setM 2 (naM anM lstH))
  (seqM (setM 3 (callM 1 [] φ_neighbours (cyM 0 cnM)))
  (seqM (forM (range1M (acM true (b2M true (rdM 0) (kM (.int 0)) ixH) anM)) (.nm 4) (seqM (ifS (tbM (b2M true (rdM 4) (rdM 1) (inH true))) (seqM (setM 11 (naM (acM true (lcM [8] (range1M (acM true (b2M true (rdM 0) (kM (.int 0)) ixH) anM)) (.nm 8) (orT (tbM (b2M true (rdM 8) (rdM 4) eqH)) (tbM (b2M true (rdM 8) (b2M true (rdM 3) (rdM 4) ixH) (inH true)))) (rdM 8)) anM) tupleH))
  (seqM (expM (muM 1 (plM 1) "dict" true (acM true (dcM false [8] (slM 11) (.nm 8) yesT (rdM 8) (kM (.bl true))) anM) updH))
  (seqM (expM (muM 2 (plM 2) "list" false (acM true (mvM 11) anM) appH))
  nxM))) nxM)
  nxM))
  (seqM (retM (naM (acM true (kM (.str "parts")) (acM true (naM (acM true (rdM 2) anM) tupleH) anM)) tupH))
  nxM)))))))
def φ_parts_shown : Fn := defM [] 11 fs_parts_shown
theorem ok_parts_shown (T : Tab K mg) (k : Nat) : FnOk P w K mg base CX0 (k + 26) T.f_parts_shown T.fd_parts_shown ["web"] (spF K [] 1 φ_parts_shown) := by
  refine fn_b T.F_parts_shown sc_parts_shown (by decide) fun cdv A outer s H E hr => ?_
  have hu := hu65 hr
  exact (s_cons (sexpr (cal (ps := ["web"]) (vp := []) (ok_look_at T (k + 22)) hr T.g_look_at T.F_look_at.kp T.b_look_at (cn 0 c_nil)))
    (s_cons (sfor rfl PassesOwn.never (i_seq (cal (ps := ["count", "size"]) (vp := []) (fn_cast (by omega) (ok_choices T (k + 0) 24)) hr T.g_choices T.F_choices.kp T.b_choices (cv (xix hu (rd 0) e_int) (cv e_int c_nil)))) (gtup [5, 6, 7] rfl (gcons 5 sc_parts_shown.nd (gcons 6 sc_parts_shown.nd (gcons 7 sc_parts_shown.nd gs_nil)))) (s_cons (sfor rfl PassesOwn.never (i_seq (e_tup (ac (e_tup (ac (rd 5) (ac (rd 6) (ac (rd 7) a_nil)))) (ac (e_tup (ac (rd 5) (ac (rd 7) (ac (rd 6) a_nil)))) (ac (e_tup (ac (rd 6) (ac (rd 7) (ac (rd 5) a_nil)))) a_nil))))) (gtup [8, 9, 10] rfl (gcons 8 sc_parts_shown.nd (gcons 9 sc_parts_shown.nd (gcons 10 sc_parts_shown.nd gs_nil)))) (s_cons (s_if (PW.pt (tw_and (ttru (cal (ps := ["web", "first", "other"]) (vp := []) (ok_tied T (k + 24)) hr T.g_tied T.F_tied.kp T.b_tied (cn 0 (cn 8 (cn 9 c_nil))))) (tw_and (t_not (ttru (cal (ps := ["web", "first", "other"]) (vp := []) (ok_tied T (k + 24)) hr T.g_tied T.F_tied.kp T.b_tied (cn 0 (cn 8 (cn 10 c_nil)))))) (tw_and1 (t_not (ttru (cal (ps := ["web", "first", "other"]) (vp := []) (ok_tied T (k + 24)) hr T.g_tied T.F_tied.kp T.b_tied (cn 0 (cn 9 (cn 10 c_nil)))))))))) (s_cons (s_ret (e_tup (ac e_str (ac (e_tup (ac (rd 8) (ac (rd 9) (ac (rd 10) a_nil)))) a_nil))))
    s_nil) s_nil)
    s_nil))
    s_nil))
    (s_cons (sset 1 (e_dic0 (t := false)) sc_parts_shown.nd)
    (s_cons (sset 2 (e_lst a_nil) sc_parts_shown.nd)
    (s_cons (sset 3 (cal (ps := ["web"]) (vp := []) (ok_neighbours T (k + 24)) hr T.g_neighbours T.F_neighbours.kp T.b_neighbours (cn 0 c_nil)) sc_parts_shown.nd)
    (s_cons (sfor rfl PassesOwn.never (irg1 T.m_range (ac (xix hu (rd 0) e_int) a_nil)) (gnm 4 sc_parts_shown.nd) (s_cons (s_if (tnotin hu (rd 4) (rd 1)) (s_cons (sset 11 (e_tuple (bs T.m_tuple) (ac (xlc [("one", 8)] rfl sc_parts_shown.nd (irg1 T.m_range (ac (xix hu (rd 0) e_int) a_nil)) (fun _ _ _ _ _ => (gnm 8 sc_parts_shown.nd)) (fun _ _ _ _ _ => (ts1 (PW.pt (tw_or (t_eq (rd 8) (rd 4) hu) (tw_or1 (tnotin hu (rd 8) (xix hu (rd 3) (rd 4)))))))) (fun _ _ _ _ _ => (rd 8))) a_nil)) sc_parts_shown.nd)
    (s_cons (sexpr (e_update (pn 1) (ac (xdc false [("one", 8)] rfl sc_parts_shown.nd hu (iln 11) (fun _ _ _ _ _ => (gnm 8 sc_parts_shown.nd)) (fun _ _ _ _ _ => tsn) (fun _ _ _ _ _ => (rd 8)) (fun _ _ _ _ _ => e_bl)) a_nil) ms))
    (s_cons (sexpr (e_append (pn 2) (ac (mv 11) a_nil) ms))
    s_nil))) s_nil)
    s_nil))
    (s_cons (s_ret (e_tup (ac e_str (ac (e_tuple (bs T.m_tuple) (ac (rd 2) a_nil)) a_nil))))
    s_nil)))))))
end
/-! ### web_of -/
section
variable {P : Program} {w : World} {K : PySem.W.Frag} {mg : Str → Option Value} {base : Heap}
theorem ok_web_of (T : Tab K mg) (k : Nat) : FnOk P w K mg base CX0 (k + 1) T.f_web_of T.fd_web_of ["count", "pairs"] (spF K [] 2 φ_web_of) := by
  refine fn_b T.F_web_of sc_web_of (by decide) fun cdv A outer s H E hr => ?_
  have hu := hu65 hr
  exact (s_cons (sdc true 2 [("pair", 3)] rfl sc_web_of.nd hu sc_web_of.kind (iln 1) (fun _ _ _ _ _ => (gnm 3 sc_web_of.nd)) (fun _ _ _ _ _ => (ts1 (t_ne (xix hu (rd 3) e_int) (xix hu (rd 3) e_int) hu))) (fun _ _ _ _ _ => (e_tup (ac (e_min1 rfl hu (bs T.m_min) (ac (rd 3) a_nil)) (ac (e_max1 rfl hu (bs T.m_max) (ac (rd 3) a_nil)) a_nil)))) (fun _ _ _ _ _ => e_bl))
    (s_cons (s_ret (e_tup (ac (rd 0) (ac (e_tuple (bs T.m_tuple) (ac (e_sorted rfl (bs T.m_sorted) (ac (rd 2) a_nil)) a_nil)) a_nil))))
    s_nil))
end
/-! ### moved -/
section
variable {P : Program} {w : World} {K : PySem.W.Frag} {mg : Str → Option Value} {base : Heap}
def fs_moved : Fs := (seqM (setM 3 (lcM [4] (seM (b2M true (fzM 0) (kM (.int 1)) ixH)) (.nm 4) (tbM (b2M true (rdM 1) (rdM 4) (inH true))) (rdM 4)))
  (seqM (retM (callM 2 [] φ_web_of (cvM true (b2M true (rdM 0) (kM (.int 0)) ixH) (cvM true (b2M true (rdM 3) (lcM [5] (seM (b2M true (callM 1 [] φ_neighbours (cyM 0 cnM)) (rdM 2) ixH)) (.nm 5) (tbM (b2M true (rdM 5) (rdM 1) neH)) (naM (acM true (rdM 1) (acM true (rdM 5) anM)) tupH)) addH) cnM))))
  nxM))
def φ_moved : Fn := defM [] 3 fs_moved
theorem ok_moved (T : Tab K mg) (k : Nat) : FnOk P w K mg base CX0 (k + 2) T.f_moved T.fd_moved ["web", "place", "other"] (spF K [] 3 φ_moved) := by
  refine fn_b T.F_moved sc_moved (by decide) fun cdv A outer s H E hr => ?_
  have hu := hu65 hr
  exact (s_cons (slc 3 [("pair", 4)] rfl sc_moved.nd sc_moved.kind (i_seq (xix hu (fz 0) e_int)) (fun _ _ _ _ _ => (gnm 4 sc_moved.nd)) (fun _ _ _ _ _ => (ts1 (tnotin hu (rd 1) (rd 4)))) (fun _ _ _ _ _ => (rd 4)))
    (s_cons (s_ret (cal (ps := ["count", "pairs"]) (vp := []) (ok_web_of T (k + 0)) hr T.g_web_of T.F_web_of.kp T.b_web_of (cv (xix hu (rd 0) e_int) (cv (e_add (rd 3) (xlc [("one", 5)] rfl sc_moved.nd (i_seq (xix hu (cal (ps := ["web"]) (vp := []) (ok_neighbours T (k + 0)) hr T.g_neighbours T.F_neighbours.kp T.b_neighbours (cn 0 c_nil)) (rd 2))) (fun _ _ _ _ _ => (gnm 5 sc_moved.nd)) (fun _ _ _ _ _ => (ts1 (t_ne (rd 5) (rd 1) hu))) (fun _ _ _ _ _ => (e_tup (ac (rd 1) (ac (rd 5) a_nil)))))) c_nil))))
    s_nil))
end
/-! ### better -/
section
variable {P : Program} {w : World} {K : PySem.W.Frag} {mg : Str → Option Value} {base : Heap}
def fs_better : Fs := (seqM (asgM (.tp [3, 4, 5]) (rdM 1))
  (seqM (setM 2 (lcM [6] (seM (callM 1 [] φ_neighbours (cyM 0 cnM))) (.nm 6) yesT (naM (acM true (rdM 6) anM) lenH)))
  (seqM (ifS (tbM (b2M true (b2M true (rdM 2) (rdM 5) ixH) (naM (acM true (b2M true (rdM 2) (rdM 3) ixH) (acM true (b2M true (rdM 2) (rdM 4) ixH) anM)) max2H) ltH)) (seqM (retM (callM 3 [] φ_moved (cyM 0 (cyM 5 (cvM true (ifM (tbM (b2M true (b2M true (rdM 2) (rdM 3) ixH) (b2M true (rdM 2) (rdM 4) ixH) geH)) (rdM 3) (rdM 4)) cnM)))))
  nxM) nxM)
  (seqM (retM (callM 3 [] φ_moved (cvM true (callM 3 [] φ_moved (cyM 0 (cyM 3 (cyM 5 cnM)))) (cyM 4 (cyM 5 cnM)))))
  nxM))))
def φ_better : Fn := defM [] 5 fs_better
theorem ok_better (T : Tab K mg) (k : Nat) : FnOk P w K mg base CX0 (k + 3) T.f_better T.fd_better ["web", "three"] (spF K [] 2 φ_better) := by
  refine fn_b T.F_better sc_better (by decide) fun cdv A outer s H E hr => ?_
  have hu := hu65 hr
  exact (s_cons (sasg (rd 1) (gtup [3, 4, 5] rfl (gcons 3 sc_better.nd (gcons 4 sc_better.nd (gcons 5 sc_better.nd gs_nil)))))
    (s_cons (slc 2 [("row", 6)] rfl sc_better.nd sc_better.kind (i_seq (cal (ps := ["web"]) (vp := []) (ok_neighbours T (k + 1)) hr T.g_neighbours T.F_neighbours.kp T.b_neighbours (cn 0 c_nil))) (fun _ _ _ _ _ => (gnm 6 sc_better.nd)) (fun _ _ _ _ _ => tsn) (fun _ _ _ _ _ => (e_len (bs T.m_len) (ac (rd 6) a_nil))))
    (s_cons (s_if (t_lt (xix hu (rd 2) (rd 5)) (e_max2 rfl (bs T.m_max) (ac (xix hu (rd 2) (rd 3)) (ac (xix hu (rd 2) (rd 4)) a_nil)))) (s_cons (s_ret (cal (ps := ["web", "place", "other"]) (vp := []) (ok_moved T (k + 0)) hr T.g_moved T.F_moved.kp T.b_moved (cn 0 (cn 5 (cv (e_if (t_ge (xix hu (rd 2) (rd 3)) (xix hu (rd 2) (rd 4))) (rd 3) (rd 4)) c_nil)))))
    s_nil) s_nil)
    (s_cons (s_ret (cal (ps := ["web", "place", "other"]) (vp := []) (ok_moved T (k + 0)) hr T.g_moved T.F_moved.kp T.b_moved (cv (cal (ps := ["web", "place", "other"]) (vp := []) (ok_moved T (k + 0)) hr T.g_moved T.F_moved.kp T.b_moved (cn 0 (cn 3 (cn 5 c_nil)))) (cn 4 (cn 5 c_nil)))))
    s_nil))))
end
/-! ### made_parted -/
section
variable {P : Program} {w : World} {K : PySem.W.Frag} {mg : Str → Option Value} {base : Heap}
def fs_made_parted : Fs := (seqM (expM (callM 1 [] φ_look_at (cyM 0 cnM)))
  (seqM (setM 1 (naM (acM true (rdM 0) anM) lstH))
  (seqM (setM 2 (callM 1 [] φ_parts_shown (cyM 0 cnM)))
  (seqM (whM (tbM (b2M true (b2M true (rdM 2) (kM (.int 0)) ixH) (kM (.str "three")) eqH)) (seqM (expM (muM 1 (plM 1) "list" true (acM true (callM 2 [] φ_better (cvM true (b2M true (rdM 1) (u1M (kM (.int 1)) negH) ixH) (cvM true (b2M true (rdM 2) (kM (.int 1)) ixH) cnM))) anM) appH))
  (seqM (setM 2 (callM 1 [] φ_parts_shown (cvM true (b2M true (rdM 1) (u1M (kM (.int 1)) negH) ixH) cnM)))
  (seqM (ifS (tbM (b2M true (naM (acM true (rdM 1) anM) lenH) (kM (.int 2000)) gtH)) (seqM noS
  nxM) nxM)
  nxM))) FU)
  (seqM (retM (naM (acM true (rdM 1) anM) tupleH))
  nxM)))))
def φ_made_parted : Fn := defM [] 2 fs_made_parted
theorem ok_made_parted (T : Tab K mg) (k : Nat) : FnOk P w K mg base CX0 (k + 27) T.f_made_parted T.fd_made_parted ["web"] (spF K [] 1 φ_made_parted) := by
  refine fn_b T.F_made_parted sc_made_parted (by decide) fun cdv A outer s H E hr => ?_
  have hu := hu65 hr
  exact (s_cons (sexpr (cal (ps := ["web"]) (vp := []) (ok_look_at T (k + 23)) hr T.g_look_at T.F_look_at.kp T.b_look_at (cn 0 c_nil)))
    (s_cons (sset 1 (e_lst (ac (rd 0) a_nil)) sc_made_parted.nd)
    (s_cons (sset 2 (cal (ps := ["web"]) (vp := []) (ok_parts_shown T (k + 0)) hr T.g_parts_shown T.F_parts_shown.kp T.b_parts_shown (cn 0 c_nil)) sc_made_parted.nd)
    (s_cons (s_while (n := FU) PassesOwn.never (t_eq (xix hu (rd 2) e_int) e_str hu) (s_cons (sexpr (e_append (pn 1) (ac (cal (ps := ["web", "three"]) (vp := []) (ok_better T (k + 23)) hr T.g_better T.F_better.kp T.b_better (cv (xix hu (rd 1) (e_neg e_int)) (cv (xix hu (rd 2) e_int) c_nil))) a_nil) ms))
    (s_cons (sset 2 (cal (ps := ["web"]) (vp := []) (ok_parts_shown T (k + 0)) hr T.g_parts_shown T.F_parts_shown.kp T.b_parts_shown (cv (xix hu (rd 1) (e_neg e_int)) c_nil)) sc_made_parted.nd)
    (s_cons (s_if (t_gt (e_len (bs T.m_len) (ac (rd 1) a_nil)) e_int) (s_cons s_never
    s_nil) s_nil)
    s_nil))))
    (s_cons (s_ret (e_tuple (bs T.m_tuple) (ac (rd 1) a_nil)))
    s_nil)))))
end
/-! ### _law_pairs -/
section
variable {P : Program} {w : World} {K : PySem.W.Frag} {mg : Str → Option Value} {base : Heap}
theorem ok__law_pairs (T : Tab K mg) (k : Nat) : FnOk P w K mg base CX0 (k + 1) T.f__law_pairs T.fd__law_pairs ["count"] (spF K [] 1 φ__law_pairs) := by
  refine fn_b T.F__law_pairs sc__law_pairs (by decide) fun cdv A outer s H E hr => ?_
  have hu := hu65 hr
  exact (s_cons (sset 1 (e_lst a_nil) sc__law_pairs.nd)
    (s_cons (sfor rfl PassesOwn.never (irg1 T.m_range (ac (rd 0) a_nil)) (gnm 2 sc__law_pairs.nd) (s_cons (sset 1 (e_add (rd 1) (xlc [("b", 3)] rfl sc__law_pairs.nd (irg2 T.m_range (ac (e_add (rd 2) e_int) (ac (rd 0) a_nil))) (fun _ _ _ _ _ => (gnm 3 sc__law_pairs.nd)) (fun _ _ _ _ _ => tsn) (fun _ _ _ _ _ => (e_tup (ac (rd 2) (ac (rd 3) a_nil)))))) sc__law_pairs.nd)
    s_nil))
    (s_cons (s_ret (mv 1))
    s_nil)))
end
/-! ### _law_same -/
section
variable {P : Program} {w : World} {K : PySem.W.Frag} {mg : Str → Option Value} {base : Heap}
theorem ok__law_same (T : Tab K mg) (k : Nat) : (n : Nat) → FnOk P w K mg base CX0 (k + 1 + n) T.f__law_same T.fd__law_same ["actual", "expected"] (spF K [] 2 (φ__law_same n))
  | 0 => fn_b T.F__law_same sc__law_same (by decide) fun cdv A outer s H E hr => ss_never _
  | n + 1 => by
    have ih : FnOk P w K mg base CX0 (k + 1 + n) T.f__law_same T.fd__law_same ["actual", "expected"] (spF K [] 2 (φ__law_same n)) := ok__law_same T k n
    refine fn_b (k := k + 1 + n) T.F__law_same sc__law_same (by decide) fun cdv A outer s H E hr => ?_
    have hu := hu65 hr
    exact (s_cons (s_if (PW.pt (tw_or (ttru (e_isi (T := "tuple") (by decide) boot_tuple (by decide) (by decide) (by rfl) T.m_tuple (rd 1) (bs T.m_isinstance) (by rfl))) (tw_or1 (ttru (e_isi (T := "list") (by decide) boot_list (by decide) (by decide) (by rfl) T.m_list (rd 1) (bs T.m_isinstance) (by rfl)))))) (s_cons (s_if (PW.pt (tw_or (t_ne (e_isi (T := "tuple") (by decide) boot_tuple (by decide) (by decide) (by rfl) T.m_tuple (rd 0) (bs T.m_isinstance) (by rfl)) (e_isi (T := "tuple") (by decide) boot_tuple (by decide) (by decide) (by rfl) T.m_tuple (rd 1) (bs T.m_isinstance) (by rfl)) hu) (tw_or1 (t_ne (e_isi (T := "list") (by decide) boot_list (by decide) (by decide) (by rfl) T.m_list (rd 0) (bs T.m_isinstance) (by rfl)) (e_isi (T := "list") (by decide) boot_list (by decide) (by decide) (by rfl) T.m_list (rd 1) (bs T.m_isinstance) (by rfl)) hu)))) (s_cons (s_ret e_bl)
    s_nil) s_nil)
    (s_cons (s_if (t_ne (e_len (bs T.m_len) (ac (rd 0) a_nil)) (e_len (bs T.m_len) (ac (rd 1) a_nil)) hu) (s_cons (s_ret e_bl)
    s_nil) s_nil)
    (s_cons (s_ret (e_eq (e_len (bs T.m_len) (ac (xlc [("k", 2)] rfl sc__law_same.nd (irg1 T.m_range (ac (e_len (bs T.m_len) (ac (rd 1) a_nil)) a_nil)) (fun _ _ _ _ _ => (gnm 2 sc__law_same.nd)) (fun _ _ _ _ _ => (ts1 (t_not (ttru (cal (ps := ["actual", "expected"]) (vp := []) ih hr T.g__law_same T.F__law_same.kp T.b__law_same (cv (xix hu (rd 0) (rd 2)) (cv (xix hu (rd 1) (rd 2)) c_nil))))))) (fun _ _ _ _ _ => (rd 2))) a_nil)) e_int hu))
    s_nil))) s_nil)
    (s_cons (s_if (PW.pt (tw_or (ttru (e_isi (T := "bool") (by decide) boot_bool (by decide) (by decide) (by rfl) T.m_bool (rd 1) (bs T.m_isinstance) (by rfl))) (tw_or1 (ttru (e_isi (T := "bool") (by decide) boot_bool (by decide) (by decide) (by rfl) T.m_bool (rd 0) (bs T.m_isinstance) (by rfl)))))) (s_cons (s_ret (e_and (e_isi (T := "bool") (by decide) boot_bool (by decide) (by decide) (by rfl) T.m_bool (rd 1) (bs T.m_isinstance) (by rfl)) (e_and (e_isi (T := "bool") (by decide) boot_bool (by decide) (by decide) (by rfl) T.m_bool (rd 0) (bs T.m_isinstance) (by rfl)) (e_one (e_eq (rd 0) (rd 1) hu)))))
    s_nil) s_nil)
    (s_cons (s_if (PW.pt (tw_or (t_is (rd 1) e_non) (tw_or1 (t_is (rd 0) e_non)))) (s_cons (s_ret (e_and (e_is (rd 1) e_non) (e_one (e_is (rd 0) e_non))))
    s_nil) s_nil)
    (s_cons (s_if (PW.pt (tw_or (ttru (e_isi (T := "str") (by decide) boot_str (by decide) (by decide) (by rfl) T.m_str (rd 1) (bs T.m_isinstance) (by rfl))) (tw_or1 (ttru (e_isi (T := "str") (by decide) boot_str (by decide) (by decide) (by rfl) T.m_str (rd 0) (bs T.m_isinstance) (by rfl)))))) (s_cons (s_ret (e_and (e_isi (T := "str") (by decide) boot_str (by decide) (by decide) (by rfl) T.m_str (rd 1) (bs T.m_isinstance) (by rfl)) (e_and (e_isi (T := "str") (by decide) boot_str (by decide) (by decide) (by rfl) T.m_str (rd 0) (bs T.m_isinstance) (by rfl)) (e_one (e_eq (rd 0) (rd 1) hu)))))
    s_nil) s_nil)
    (s_cons (s_ret (e_and (e_isi (T := "int") (by decide) boot_int (by decide) (by decide) (by rfl) T.m_int (rd 0) (bs T.m_isinstance) (by rfl)) (e_and (e_isi (T := "int") (by decide) boot_int (by decide) (by decide) (by rfl) T.m_int (rd 1) (bs T.m_isinstance) (by rfl)) (e_one (e_eq (rd 0) (rd 1) hu)))))
    s_nil)))))
end
/-! ### _law_web -/
section
variable {P : Program} {w : World} {K : PySem.W.Frag} {mg : Str → Option Value} {base : Heap}
theorem ok__law_web (T : Tab K mg) (k : Nat) : FnOk P w K mg base CX0 (k + 2) T.f__law_web T.fd__law_web ["draws", "least", "most"] (spF K [0] 3 φ__law_web) := by
  refine fn_b T.F__law_web sc__law_web (by decide) fun cdv A outer s H E hr => ?_
  have hu := hu65 hr
  exact (s_cons (sset 3 (e_add (rd 1) (cal (ps := ["draws", "limit"]) (vp := [0]) (ok__law_draw T (k + 0)) hr T.g__law_draw T.F__law_draw.kp T.b__law_draw (cn 0 (cv (e_add (e_sub (rd 2) (rd 1)) e_int) c_nil)))) sc__law_web.nd)
    (s_cons (sset 4 (cal (ps := ["draws", "limit"]) (vp := [0]) (ok__law_draw T (k + 0)) hr T.g__law_draw T.F__law_draw.kp T.b__law_draw (cn 0 (cv e_int c_nil))) sc__law_web.nd)
    (s_cons (sset 5 (cal (ps := ["count"]) (vp := []) (ok__law_pairs T (k + 0)) hr T.g__law_pairs T.F__law_pairs.kp T.b__law_pairs (cn 3 c_nil)) sc__law_web.nd)
    (s_cons (s_if (t_eq (rd 4) e_int hu) (s_cons (s_ret (cal (ps := ["count", "pairs"]) (vp := []) (ok__law_made T (k + 0)) hr T.g__law_made T.F__law_made.kp T.b__law_made (cn 3 (cv (xlc [("k", 10)] rfl sc__law_web.nd (irg2 T.m_range (ac e_int (ac (rd 3) a_nil))) (fun _ _ _ _ _ => (gnm 10 sc__law_web.nd)) (fun _ _ _ _ _ => tsn) (fun _ _ _ _ _ => (e_tup (ac (rd 10) (ac (cal (ps := ["draws", "limit"]) (vp := [0]) (ok__law_draw T (k + 0)) hr T.g__law_draw T.F__law_draw.kp T.b__law_draw (cn 0 (cn 10 c_nil))) a_nil))))) c_nil))))
    s_nil) s_nil)
    (s_cons (s_if (PW.pt (tw_and (t_eq (rd 4) e_int hu) (tw_and1 (t_gt (rd 3) e_int)))) (s_cons (slc 7 [("pair", 9)] rfl sc__law_web.nd sc__law_web.kind (iln 5) (fun _ _ _ _ _ => (gnm 9 sc__law_web.nd)) (fun _ _ _ _ _ => (ts1 (t_eq (cal (ps := ["draws", "limit"]) (vp := [0]) (ok__law_draw T (k + 0)) hr T.g__law_draw T.F__law_draw.kp T.b__law_draw (cn 0 (cv e_int c_nil))) e_int hu))) (fun _ _ _ _ _ => (rd 9)))
    (s_cons (s_ret (cal (ps := ["count", "pairs"]) (vp := []) (ok__law_made T (k + 0)) hr T.g__law_made T.F__law_made.kp T.b__law_made (cn 3 (cv (e_add (e_add (xlc [("k", 10)] rfl sc__law_web.nd (irg1 T.m_range (ac (e_sub (rd 3) e_int) a_nil)) (fun _ _ _ _ _ => (gnm 10 sc__law_web.nd)) (fun _ _ _ _ _ => tsn) (fun _ _ _ _ _ => (e_tup (ac (rd 10) (ac (e_add (rd 10) e_int) a_nil))))) (e_lst (ac (e_tup (ac e_int (ac (e_sub (rd 3) e_int) a_nil))) a_nil))) (rd 7)) c_nil))))
    s_nil)) s_nil)
    (s_cons (s_if (t_eq (rd 4) e_int hu) (s_cons (sset 8 (xlc [("k", 10)] rfl sc__law_web.nd (irg1 T.m_range (ac (rd 3) a_nil)) (fun _ _ _ _ _ => (gnm 10 sc__law_web.nd)) (fun _ _ _ _ _ => tsn) (fun _ _ _ _ _ => (cal (ps := ["draws", "limit"]) (vp := [0]) (ok__law_draw T (k + 0)) hr T.g__law_draw T.F__law_draw.kp T.b__law_draw (cn 0 (cv e_int c_nil))))) sc__law_web.nd)
    (s_cons (s_ret (cal (ps := ["count", "pairs"]) (vp := []) (ok__law_made T (k + 0)) hr T.g__law_made T.F__law_made.kp T.b__law_made (cn 3 (cv (xlc [("a", 11), ("b", 12)] rfl sc__law_web.nd (iln 5) (fun _ _ _ _ _ => (gtup [11, 12] rfl (gcons 11 sc__law_web.nd (gcons 12 sc__law_web.nd gs_nil)))) (fun _ _ _ _ _ => (ts1 (PW.pt (tw_and (t_ne (xix hu (rd 8) (rd 11)) (xix hu (rd 8) (rd 12)) hu) (tw_and1 (t_gt (cal (ps := ["draws", "limit"]) (vp := [0]) (ok__law_draw T (k + 0)) hr T.g__law_draw T.F__law_draw.kp T.b__law_draw (cn 0 (cv e_int c_nil))) e_int)))))) (fun _ _ _ _ _ => (e_tup (ac (rd 11) (ac (rd 12) a_nil))))) c_nil))))
    s_nil)) s_nil)
    (s_cons (s_if (t_eq (rd 4) e_int hu) (s_cons (s_ret (cal (ps := ["count", "pairs"]) (vp := []) (ok__law_made T (k + 0)) hr T.g__law_made T.F__law_made.kp T.b__law_made (cn 3 (cv (xlc [("pair", 9)] rfl sc__law_web.nd (iln 5) (fun _ _ _ _ _ => (gnm 9 sc__law_web.nd)) (fun _ _ _ _ _ => (ts1 (t_gt (cal (ps := ["draws", "limit"]) (vp := [0]) (ok__law_draw T (k + 0)) hr T.g__law_draw T.F__law_draw.kp T.b__law_draw (cn 0 (cv e_int c_nil))) e_int))) (fun _ _ _ _ _ => (rd 9))) c_nil))))
    s_nil) s_nil)
    (s_cons (sset 6 (e_add e_int (cal (ps := ["draws", "limit"]) (vp := [0]) (ok__law_draw T (k + 0)) hr T.g__law_draw T.F__law_draw.kp T.b__law_draw (cn 0 (cv e_int c_nil)))) sc__law_web.nd)
    (s_cons (s_ret (cal (ps := ["count", "pairs"]) (vp := []) (ok__law_made T (k + 0)) hr T.g__law_made T.F__law_made.kp T.b__law_made (cn 3 (cv (xlc [("pair", 9)] rfl sc__law_web.nd (iln 5) (fun _ _ _ _ _ => (gnm 9 sc__law_web.nd)) (fun _ _ _ _ _ => (ts1 (t_eq (cal (ps := ["draws", "limit"]) (vp := [0]) (ok__law_draw T (k + 0)) hr T.g__law_draw T.F__law_draw.kp T.b__law_draw (cn 0 (cn 6 c_nil))) e_int hu))) (fun _ _ _ _ _ => (rd 9))) c_nil))))
    s_nil)))))))))
end
/-! ### parted_web -/
section
variable {P : Program} {w : World} {K : PySem.W.Frag} {mg : Str → Option Value} {base : Heap}
def fs_parted_web : Fs := (seqM (retM (callM 2 [] φ_web_of (cyM 0 (cvM true (lc2M [2, 3] [3] (range1M (acM true (rdM 0) anM)) (.nm 2) yesT (range1M (acM true (rdM 2) anM)) (.nm 3) (tbM (b2M true (b2M true (rdM 2) (rdM 1) modH) (b2M true (rdM 3) (rdM 1) modH) neH)) (naM (acM true (rdM 2) (acM true (rdM 3) anM)) tupH)) cnM))))
  nxM)
def φ_parted_web : Fn := defM [] 2 fs_parted_web
theorem ok_parted_web (T : Tab K mg) (k : Nat) : FnOk P w K mg base CX0 (k + 2) T.f_parted_web T.fd_parted_web ["count", "parts"] (spF K [] 2 φ_parted_web) := by
  refine fn_b T.F_parted_web sc_parted_web (by decide) fun cdv A outer s H E hr => ?_
  have hu := hu65 hr
  exact (s_cons (s_ret (cal (ps := ["count", "pairs"]) (vp := []) (ok_web_of T (k + 0)) hr T.g_web_of T.F_web_of.kp T.b_web_of (cn 0 (cv (xlc2 [3] [("a", 2), ("b", 3)] rfl sc_parted_web.nd (irg1 T.m_range (ac (rd 0) a_nil)) (fun _ _ _ _ _ => (gnm 2 sc_parted_web.nd)) (fun _ _ _ _ _ => tsn) (fun _ _ _ _ _ => (irg1 T.m_range (ac (rd 2) a_nil))) (fun _ _ _ _ _ => (gnm 3 sc_parted_web.nd)) (fun _ _ _ _ _ => (ts1 (t_ne (e_mod (rd 2) (rd 1)) (e_mod (rd 3) (rd 1)) hu))) (fun _ _ _ _ _ => (e_tup (ac (rd 2) (ac (rd 3) a_nil))))) c_nil))))
    s_nil)
end
/-! ### most_ties -/
section
variable {P : Program} {w : World} {K : PySem.W.Frag} {mg : Str → Option Value} {base : Heap}
def fs_most_ties : Fs := (seqM (retM (ifM (tbM (b2M true (rdM 1) (kM (.int 1)) gtH)) (naM (acM true (b2M true (callM 2 [] φ_parted_web (cyM 0 (cvM true (b2M true (rdM 1) (kM (.int 1)) subH) cnM))) (kM (.int 1)) ixH) anM) lenH) (kM (.int 0))))
  nxM)
def φ_most_ties : Fn := defM [] 0 fs_most_ties
theorem ok_most_ties (T : Tab K mg) (k : Nat) : FnOk P w K mg base CX0 (k + 3) T.f_most_ties T.fd_most_ties ["count", "size"] (spF K [] 2 φ_most_ties) := by
  refine fn_b T.F_most_ties sc_most_ties (by decide) fun cdv A outer s H E hr => ?_
  have hu := hu65 hr
  exact (s_cons (s_ret (e_if (t_gt (rd 1) e_int) (e_len (bs T.m_len) (ac (xix hu (cal (ps := ["count", "parts"]) (vp := []) (ok_parted_web T (k + 0)) hr T.g_parted_web T.F_parted_web.kp T.b_parted_web (cn 0 (cv (e_sub (rd 1) e_int) c_nil))) e_int) a_nil)) e_int))
    s_nil)
end
/-! ### _law_pick -/
section
variable {P : Program} {w : World} {K : PySem.W.Frag} {mg : Str → Option Value} {base : Heap}
theorem ok__law_pick (T : Tab K mg) (k : Nat) : FnOk P w K mg base CX0 (k + 2) T.f__law_pick T.fd__law_pick ["draws", "row"] (spF K [0] 2 φ__law_pick) := by
  refine fn_b T.F__law_pick sc__law_pick (by decide) fun cdv A outer s H E hr => ?_
  have hu := hu65 hr
  exact (s_cons (s_ret (xix hu (fz 1) (cal (ps := ["draws", "limit"]) (vp := [0]) (ok__law_draw T (k + 0)) hr T.g__law_draw T.F__law_draw.kp T.b__law_draw (cn 0 (cv (e_len (bs T.m_len) (ac (rd 1) a_nil)) c_nil)))))
    s_nil)
end
/-! ### _law_tied -/
section
variable {P : Program} {w : World} {K : PySem.W.Frag} {mg : Str → Option Value} {base : Heap}
theorem ok__law_tied (T : Tab K mg) (k : Nat) : FnOk P w K mg base CX0 (k + 1) T.f__law_tied T.fd__law_tied ["web", "a", "b"] (spF K [] 3 φ__law_tied) := by
  refine fn_b T.F__law_tied sc__law_tied (by decide) fun cdv A outer s H E hr => ?_
  have hu := hu65 hr
  exact (s_cons (s_ret (xin hu (e_tup (ac (e_min2 rfl (bs T.m_min) (ac (rd 1) (ac (rd 2) a_nil))) (ac (e_max2 rfl (bs T.m_max) (ac (rd 1) (ac (rd 2) a_nil))) a_nil))) (xix hu (rd 0) e_int)))
    s_nil)
end
/-! ### _law_shown -/
section
variable {P : Program} {w : World} {K : PySem.W.Frag} {mg : Str → Option Value} {base : Heap}
def fs__law_shown : Fs := (seqM (forM (seM (callM 2 [] φ__law_choices (cvM true (b2M true (rdM 0) (kM (.int 0)) ixH) (cvM true (kM (.int 3)) cnM)))) (.tp [3, 4, 5]) (seqM (forM (seM (naM (acM true (naM (acM true (rdM 3) (acM true (rdM 4) (acM true (rdM 5) anM))) tupH) (acM true (naM (acM true (rdM 3) (acM true (rdM 5) (acM true (rdM 4) anM))) tupH) (acM true (naM (acM true (rdM 4) (acM true (rdM 5) (acM true (rdM 3) anM))) tupH) anM))) tupH)) (.tp [7, 8, 9]) (seqM (ifS (andT (trM (callM 3 [] φ__law_tied (cyM 0 (cyM 7 (cyM 8 cnM))))) (andT (notT (trM (callM 3 [] φ__law_tied (cyM 0 (cyM 7 (cyM 9 cnM)))))) (notT (trM (callM 3 [] φ__law_tied (cyM 0 (cyM 8 (cyM 9 cnM)))))))) (seqM (retM (naM (acM true (kM (.str "three")) (acM true (naM (acM true (rdM 7) (acM true (rdM 8) (acM true (rdM 9) anM))) tupH) anM)) tupH))
  nxM) nxM)
  nxM))
  nxM))
  (seqM (setM 1 (naM anM lstH))
  (seqM (forM (range1M (acM true (b2M true (rdM 0) (kM (.int 0)) ixH) anM)) (.nm 2) (seqM (setM 6 (naM (acM true (lcM [10] (range1M (acM true (b2M true (rdM 0) (kM (.int 0)) ixH) anM)) (.nm 10) (notT (trM (callM 3 [] φ__law_tied (cyM 0 (cyM 2 (cyM 10 cnM)))))) (rdM 10)) anM) tupleH))
  (seqM (setM 1 (b2M true (rdM 1) (ifM (tbM (b2M true (rdM 6) (rdM 1) (inH true))) (naM (acM true (rdM 6) anM) lstH) (naM anM lstH)) addH))
  nxM)))
  (seqM (retM (naM (acM true (kM (.str "parts")) (acM true (naM (acM true (rdM 1) anM) tupleH) anM)) tupH))
  nxM))))
def φ__law_shown : Fn := defM [] 10 fs__law_shown
theorem ok__law_shown (T : Tab K mg) (k : Nat) : FnOk P w K mg base CX0 (k + 2) T.f__law_shown T.fd__law_shown ["web"] (spF K [] 1 φ__law_shown) := by
  refine fn_b T.F__law_shown sc__law_shown (by decide) fun cdv A outer s H E hr => ?_
  have hu := hu65 hr
  exact (s_cons (sfor rfl PassesOwn.never (i_seq (cal (ps := ["count", "size"]) (vp := []) (ok__law_choices T (k + 0)) hr T.g__law_choices T.F__law_choices.kp T.b__law_choices (cv (xix hu (rd 0) e_int) (cv e_int c_nil)))) (gtup [3, 4, 5] rfl (gcons 3 sc__law_shown.nd (gcons 4 sc__law_shown.nd (gcons 5 sc__law_shown.nd gs_nil)))) (s_cons (sfor rfl PassesOwn.never (i_seq (e_tup (ac (e_tup (ac (rd 3) (ac (rd 4) (ac (rd 5) a_nil)))) (ac (e_tup (ac (rd 3) (ac (rd 5) (ac (rd 4) a_nil)))) (ac (e_tup (ac (rd 4) (ac (rd 5) (ac (rd 3) a_nil)))) a_nil))))) (gtup [7, 8, 9] rfl (gcons 7 sc__law_shown.nd (gcons 8 sc__law_shown.nd (gcons 9 sc__law_shown.nd gs_nil)))) (s_cons (s_if (PW.pt (tw_and (ttru (cal (ps := ["web", "a", "b"]) (vp := []) (ok__law_tied T (k + 0)) hr T.g__law_tied T.F__law_tied.kp T.b__law_tied (cn 0 (cn 7 (cn 8 c_nil))))) (tw_and (t_not (ttru (cal (ps := ["web", "a", "b"]) (vp := []) (ok__law_tied T (k + 0)) hr T.g__law_tied T.F__law_tied.kp T.b__law_tied (cn 0 (cn 7 (cn 9 c_nil)))))) (tw_and1 (t_not (ttru (cal (ps := ["web", "a", "b"]) (vp := []) (ok__law_tied T (k + 0)) hr T.g__law_tied T.F__law_tied.kp T.b__law_tied (cn 0 (cn 8 (cn 9 c_nil)))))))))) (s_cons (s_ret (e_tup (ac e_str (ac (e_tup (ac (rd 7) (ac (rd 8) (ac (rd 9) a_nil)))) a_nil))))
    s_nil) s_nil)
    s_nil))
    s_nil))
    (s_cons (sset 1 (e_lst a_nil) sc__law_shown.nd)
    (s_cons (sfor rfl PassesOwn.never (irg1 T.m_range (ac (xix hu (rd 0) e_int) a_nil)) (gnm 2 sc__law_shown.nd) (s_cons (sset 6 (e_tuple (bs T.m_tuple) (ac (xlc [("j", 10)] rfl sc__law_shown.nd (irg1 T.m_range (ac (xix hu (rd 0) e_int) a_nil)) (fun _ _ _ _ _ => (gnm 10 sc__law_shown.nd)) (fun _ _ _ _ _ => (ts1 (t_not (ttru (cal (ps := ["web", "a", "b"]) (vp := []) (ok__law_tied T (k + 0)) hr T.g__law_tied T.F__law_tied.kp T.b__law_tied (cn 0 (cn 2 (cn 10 c_nil)))))))) (fun _ _ _ _ _ => (rd 10))) a_nil)) sc__law_shown.nd)
    (s_cons (sset 1 (e_add (rd 1) (e_if (tnotin hu (rd 6) (rd 1)) (e_lst (ac (rd 6) a_nil)) (e_lst a_nil))) sc__law_shown.nd)
    s_nil)))
    (s_cons (s_ret (e_tup (ac e_str (ac (e_tuple (bs T.m_tuple) (ac (rd 1) a_nil)) a_nil))))
    s_nil))))
end
/-! ### all_tied_part -/
section
variable {P : Program} {w : World} {K : PySem.W.Frag} {mg : Str → Option Value} {base : Heap}
def fs_all_tied_part : Fs := (seqM (expM (callM 1 [] φ_look_at (cyM 0 cnM)))
  (seqM (forM (seM (callM 2 [] (φ_choices 24) (cvM true (b2M true (rdM 0) (kM (.int 0)) ixH) (cyM 1 cnM)))) (.nm 2) (seqM (ifS (trM (naM (acM true (lc2M [4, 5, 3] [3] (enM (fzM 2)) (.tp [4, 5]) yesT (seM (b2M true (fzM 2) (b2M true (rdM 4) (kM (.int 1)) addH) slLH)) (.nm 3) yesT (callM 3 [] φ_tied (cyM 0 (cyM 5 (cyM 3 cnM))))) anM) (anyH true))) (seqM (retM (mvM 2))
  nxM) nxM)
  nxM))
  (seqM (retM (kM .non))
  nxM)))
def φ_all_tied_part : Fn := defM [] 4 fs_all_tied_part
theorem ok_all_tied_part (T : Tab K mg) (k : Nat) : FnOk P w K mg base CX0 (k + 26) T.f_all_tied_part T.fd_all_tied_part ["web", "size"] (spF K [] 2 φ_all_tied_part) := by
  refine fn_b T.F_all_tied_part sc_all_tied_part (by decide) fun cdv A outer s H E hr => ?_
  have hu := hu65 hr
  exact (s_cons (sexpr (cal (ps := ["web"]) (vp := []) (ok_look_at T (k + 22)) hr T.g_look_at T.F_look_at.kp T.b_look_at (cn 0 c_nil)))
    (s_cons (sfor rfl PassesOwn.never (i_seq (cal (ps := ["count", "size"]) (vp := []) (fn_cast (by omega) (ok_choices T (k + 0) 24)) hr T.g_choices T.F_choices.kp T.b_choices (cv (xix hu (rd 0) e_int) (cn 1 c_nil)))) (gnm 2 sc_all_tied_part.nd) (s_cons (s_if (ttru (e_all rfl (bs T.m_all) (ac (xlc2 [3] [("k", 4), ("a", 5), ("b", 3)] rfl sc_all_tied_part.nd (ien T.m_enumerate (fz 2)) (fun _ _ _ _ _ => (gtup [4, 5] rfl (gcons 4 sc_all_tied_part.nd (gcons 5 sc_all_tied_part.nd gs_nil)))) (fun _ _ _ _ _ => tsn) (fun _ _ _ _ _ => (i_seq (e_slL (fz 2) (e_add (rd 4) e_int)))) (fun _ _ _ _ _ => (gnm 3 sc_all_tied_part.nd)) (fun _ _ _ _ _ => tsn) (fun _ _ _ _ _ => (cal (ps := ["web", "first", "other"]) (vp := []) (ok_tied T (k + 24)) hr T.g_tied T.F_tied.kp T.b_tied (cn 0 (cn 5 (cn 3 c_nil)))))) a_nil))) (s_cons (s_ret (mv 2))
    s_nil) s_nil)
    s_nil))
    (s_cons (s_ret e_non)
    s_nil)))
end
/-! ### great_ones -/
section
variable {P : Program} {w : World} {K : PySem.W.Frag} {mg : Str → Option Value} {base : Heap}
theorem ok_great_ones (T : Tab K mg) (k : Nat) : FnOk P w K mg base CX0 (k + 4) T.f_great_ones T.fd_great_ones ["web"] (spF K [] 1 φ_great_ones) := by
  refine fn_b T.F_great_ones sc_great_ones (by decide) fun cdv A outer s H E hr => ?_
  have hu := hu65 hr
  exact (s_cons (sexpr (cal (ps := ["web"]) (vp := []) (ok_look_at T (k + 0)) hr T.g_look_at T.F_look_at.kp T.b_look_at (cn 0 c_nil)))
    (s_cons (sset 1 (cal (ps := ["web"]) (vp := []) (ok_neighbours T (k + 2)) hr T.g_neighbours T.F_neighbours.kp T.b_neighbours (cn 0 c_nil)) sc_great_ones.nd)
    (s_cons (sset 2 (e_lst a_nil) sc_great_ones.nd)
    (s_cons (sset 3 (e_lst (ac (e_tup (ac (e_tup a_nil) (ac (e_lrg1 rfl T.m_list T.m_range (xix hu (rd 0) e_int)) (ac (e_lst a_nil) a_nil)))) a_nil)) sc_great_ones.nd)
    (s_cons (s_while (n := FU) PassesOwn.never (t_gt (e_len (bs T.m_len) (ac (rd 3) a_nil)) e_int) (s_cons (sasg (e_pop (pn 3) rfl rfl) (gtup [5, 6, 7] rfl (gcons 5 sc_great_ones.nd (gcons 6 sc_great_ones.nd (gcons 7 sc_great_ones.nd gs_nil)))))
    (s_cons (s_if (PW.pt (tw_and (t_eq (e_len (bs T.m_len) (ac (rd 6) a_nil)) e_int hu) (tw_and1 (t_eq (e_len (bs T.m_len) (ac (rd 7) a_nil)) e_int hu)))) (s_cons (sexpr (e_append (pn 2) (ac (e_tuple (bs T.m_tuple) (ac (e_sorted rfl (bs T.m_sorted) (ac (rd 5) a_nil)) a_nil)) a_nil) ms))
    s_nil) s_nil)
    (s_cons (spar 8 9 rfl sc_great_ones.nd (ac (e_list (bs T.m_list) (ac (rd 6) a_nil)) (ac (e_list (bs T.m_list) (ac (rd 7) a_nil)) a_nil)))
    (s_cons (sfor rfl PassesOwn.never (i_seq (fz 6)) (gnm 4 sc_great_ones.nd) (s_cons (sexpr (e_append (pn 3) (ac (e_tup (ac (e_add (rd 5) (e_tup (ac (rd 4) a_nil))) (ac (xlc [("b", 10)] rfl sc_great_ones.nd (iln 8) (fun _ _ _ _ _ => (gnm 10 sc_great_ones.nd)) (fun _ _ _ _ _ => (ts1 (tin hu (rd 10) (xix hu (rd 1) (rd 4))))) (fun _ _ _ _ _ => (rd 10))) (ac (xlc [("b", 10)] rfl sc_great_ones.nd (iln 9) (fun _ _ _ _ _ => (gnm 10 sc_great_ones.nd)) (fun _ _ _ _ _ => (ts1 (tin hu (rd 10) (xix hu (rd 1) (rd 4))))) (fun _ _ _ _ _ => (rd 10))) a_nil)))) a_nil) ms))
    (s_cons (sexpr (e_remove (pn 8) (ac (rd 4) a_nil) ms))
    (s_cons (sexpr (e_append (pn 9) (ac (mv 4) a_nil) ms))
    s_nil))))
    s_nil)))))
    (s_cons (s_ret (e_if (t_gt (xix hu (rd 0) e_int) e_int) (e_tuple (bs T.m_tuple) (ac (e_sorted rfl (bs T.m_sorted) (ac (rd 2) a_nil)) a_nil)) (e_tup a_nil)))
    s_nil))))))
end
/-! ### greatest_tied -/
section
variable {P : Program} {w : World} {K : PySem.W.Frag} {mg : Str → Option Value} {base : Heap}
def fs_greatest_tied : Fs := (seqM (retM (naM (acM true (b2M true (lcM [1] (seM (callM 1 [] φ_great_ones (cyM 0 cnM))) (.nm 1) yesT (naM (acM true (rdM 1) anM) lenH)) (naM (acM true (kM (.int 0)) anM) lstH) addH) anM) (bestH true)))
  nxM)
def φ_greatest_tied : Fn := defM [] 1 fs_greatest_tied
theorem ok_greatest_tied (T : Tab K mg) (k : Nat) : FnOk P w K mg base CX0 (k + 5) T.f_greatest_tied T.fd_greatest_tied ["web"] (spF K [] 1 φ_greatest_tied) := by
  refine fn_b T.F_greatest_tied sc_greatest_tied (by decide) fun cdv A outer s H E hr => ?_
  have hu := hu65 hr
  exact (s_cons (s_ret (e_max1 rfl hu (bs T.m_max) (ac (e_add (xlc [("row", 1)] rfl sc_greatest_tied.nd (i_seq (cal (ps := ["web"]) (vp := []) (ok_great_ones T (k + 0)) hr T.g_great_ones T.F_great_ones.kp T.b_great_ones (cn 0 c_nil))) (fun _ _ _ _ _ => (gnm 1 sc_greatest_tied.nd)) (fun _ _ _ _ _ => tsn) (fun _ _ _ _ _ => (e_len (bs T.m_len) (ac (rd 1) a_nil)))) (e_lst (ac e_int a_nil))) a_nil)))
    s_nil)
end
/-! ### law -/
section
variable {P : Program} {w : World} {K : PySem.W.Frag} {mg : Str → Option Value} {base : Heap}
def fs_law_0 : Fs := (setM 1 (callM 1 [] φ__law_draws (cyM 0 cnM)))
def fs_law_1 : Fs := (asgM (.tp [12, 13]) (naM (acM false (callM 2 [0] φ__law_draw (cyM 1 (cvM true (kM (.int 8)) cnM))) (acM true (b2M false (kM (.int 1)) (callM 2 [0] φ__law_draw (cyM 1 (cvM true (kM (.int 4)) cnM))) addH) anM)) tupH))
def fs_law_2 : Fs := (setM 2 (callM 2 [] φ__law_made (cyM 12 (cvM true (lcM [18, 19] (seM (callM 1 [] φ__law_pairs (cyM 12 cnM))) (.tp [18, 19]) (tbM (b2M true (b2M true (b2M true (b2M true (rdM 19) (rdM 18) subH) (rdM 13) fdivH) (rdM 13) mulH) (b2M true (rdM 19) (rdM 18) subH) neH)) (naM (acM true (rdM 18) (acM true (rdM 19) anM)) tupH)) cnM))))
def fs_law_3 : Fs := (ifS (orT (notT (trM (callM 2 [] (φ__law_same 12) (cvM true (callM 2 [] φ_parted_web (cyM 12 (cyM 13 cnM))) (cyM 2 cnM))))) (orT (notT (trM (callM 2 [] (φ__law_same 12) (cvM true (callM 2 [] φ_most_ties (cyM 12 (cvM true (b2M true (rdM 13) (kM (.int 1)) addH) cnM))) (cvM true (naM (acM true (b2M true (rdM 2) (kM (.int 1)) ixH) anM) lenH) cnM))))) (tbM (b2M true (callM 2 [] φ_most_ties (cyM 12 (cvM true (kM (.int 1)) cnM))) (kM (.int 0)) neH)))) (seqM (retM (kM (.bl false)))
  nxM) nxM)
def fs_law_4 : Fs := (parM [14, 15] (acM false (callM 1 [] φ__law_pairs (cyM 12 cnM)) (acM true (callM 2 [0] φ__law_draw (cyM 1 (cvM true (kM (.int 3)) cnM))) anM)))
def fs_law_5 : Fs := (ifS (tbM (b2M true (rdM 15) (kM (.int 0)) eqH)) (seqM (setM 2 (callM 3 [0] φ__law_web (cyM 1 (cvM true (kM (.int 0)) (cvM true (kM (.int 7)) cnM)))))
  nxM) (seqM (ifS (andT (tbM (b2M true (rdM 15) (kM (.int 1)) eqH)) (tbM (b2M true (naM (acM true (rdM 14) anM) lenH) (kM (.int 0)) gtH))) (seqM (setM 10 (callM 2 [0] φ__law_pick (cyM 1 (cyM 14 cnM))))
  (seqM (setM 2 (ifM (tbM (b2M true (rdM 10) (b2M true (rdM 2) (kM (.int 1)) ixH) (inH false))) (callM 2 [] φ__law_made (cyM 12 (cvM true (lcM [17] (seM (b2M true (fzM 2) (kM (.int 1)) ixH)) (.nm 17) (tbM (b2M true (rdM 17) (rdM 10) neH)) (rdM 17)) cnM))) (callM 2 [] φ__law_made (cyM 12 (cvM true (b2M true (b2M true (rdM 2) (kM (.int 1)) ixH) (naM (acM true (rdM 10) anM) tupH) addH) cnM)))))
  nxM)) nxM)
  nxM))
def fs_law_6 : Fs := (ifS (notT (trM (callM 2 [] (φ__law_same 12) (cvM true (callM 1 [] φ_parts_shown (cyM 2 cnM)) (cvM true (callM 1 [] φ__law_shown (cyM 2 cnM)) cnM))))) (seqM (retM (kM (.bl false)))
  nxM) nxM)
def fs_law_7 : Fs := (setM 3 (callM 2 [0] φ__law_draw (cyM 1 (cvM true (kM (.int 5)) cnM))))
def fs_law_8 : Fs := (setM 4 (lcM [16] (seM (callM 2 [] φ__law_choices (cvM true (b2M true (rdM 2) (kM (.int 0)) ixH) (cyM 3 cnM)))) (.nm 16) (trM (callM 2 [] φ__law_full (cyM 2 (cyM 16 cnM)))) (rdM 16)))
def fs_law_9 : Fs := (ifS (notT (trM (callM 2 [] (φ__law_same 12) (cvM true (callM 2 [] φ_all_tied_part (cyM 2 (cyM 3 cnM))) (cvM true (ifM (tbM (b2M true (naM (acM true (rdM 4) anM) lenH) (kM (.int 0)) gtH)) (b2M true (rdM 4) (kM (.int 0)) ixH) (kM .non)) cnM))))) (seqM (retM (kM (.bl false)))
  nxM) nxM)
def fs_law_10 : Fs := (setM 5 (callM 1 [] φ__law_greatest (cyM 2 cnM)))
def fs_law_11 : Fs := (ifS (orT (notT (trM (callM 2 [] (φ__law_same 12) (cvM true (callM 1 [] φ_greatest_tied (cyM 2 cnM)) (cyM 5 cnM))))) (tbM (b2M true (naM (acM true (b2M true (rdM 2) (kM (.int 1)) ixH) anM) lenH) (callM 2 [] φ_most_ties (cvM true (b2M true (rdM 2) (kM (.int 0)) ixH) (cvM true (b2M true (rdM 5) (kM (.int 1)) addH) cnM))) gtH))) (seqM (retM (kM (.bl false)))
  nxM) nxM)
def fs_law_12 : Fs := (setM 6 (callM 1 [] φ_made_parted (cyM 2 cnM)))
def fs_law_13 : Fs := (ifS (orT (tbM (b2M true (b2M true (rdM 6) (kM (.int 0)) ixH) (rdM 2) neH)) (tbM (b2M true (b2M true (callM 1 [] φ__law_shown (cvM true (b2M true (rdM 6) (u1M (kM (.int 1)) negH) ixH) cnM)) (kM (.int 0)) ixH) (kM (.str "parts")) neH))) (seqM (retM (kM (.bl false)))
  nxM) nxM)
def fs_law_14 : Fs := (forM (range2M (acM true (kM (.int 1)) (acM true (naM (acM true (rdM 6) anM) lenH) anM))) (.nm 7) (seqM (ifS (orT (tbM (b2M true (b2M true (b2M true (rdM 6) (rdM 7) ixH) (kM (.int 0)) ixH) (b2M true (rdM 2) (kM (.int 0)) ixH) neH)) (orT (tbM (b2M true (naM (acM true (b2M true (b2M true (rdM 6) (rdM 7) ixH) (kM (.int 1)) ixH) anM) lenH) (naM (acM true (b2M true (b2M true (rdM 6) (b2M true (rdM 7) (kM (.int 1)) subH) ixH) (kM (.int 1)) ixH) anM) lenH) ltH)) (tbM (b2M true (callM 1 [] φ__law_greatest (cvM true (b2M true (rdM 6) (rdM 7) ixH) cnM)) (callM 1 [] φ__law_greatest (cvM true (b2M true (rdM 6) (b2M true (rdM 7) (kM (.int 1)) subH) ixH) cnM)) gtH)))) (seqM (retM (kM (.bl false)))
  nxM) nxM)
  nxM))
def fs_law_15 : Fs := (setM 8 (b2M false (kM (.int 1)) (callM 2 [0] φ__law_draw (cyM 1 (cvM true (kM (.int 4)) cnM))) addH))
def fs_law_16 : Fs := (setM 9 (naM (acM true (naM anM tupH) anM) lstH))
def fs_law_17 : Fs := (forM (seM (callM 1 [] φ__law_pairs (cyM 8 cnM))) (.nm 10) (seqM (setM 9 (b2M true (rdM 9) (lcM [17] (slM 9) (.nm 17) yesT (b2M true (rdM 17) (naM (acM true (rdM 10) anM) tupH) addH)) addH))
  nxM))
def fs_law_18 : Fs := (setM 3 (b2M false (kM (.int 2)) (callM 2 [0] φ__law_draw (cyM 1 (cvM true (kM (.int 3)) cnM))) addH))
def fs_law_19 : Fs := (setM 11 (lcM [17] (slM 9) (.nm 17) (tbM (b2M true (callM 1 [] φ__law_greatest (cvM true (naM (acM true (rdM 8) (acM true (rdM 17) anM)) tupH) cnM)) (rdM 3) ltH)) (naM (acM true (rdM 17) anM) lenH)))
def fs_law_20 : Fs := (retM (callM 2 [] (φ__law_same 12) (cvM true (callM 2 [] φ_most_ties (cyM 8 (cyM 3 cnM))) (cvM true (naM (acM true (rdM 11) anM) (bestH true)) cnM))))
def fs_law : Fs := (seqM fs_law_0
  (seqM fs_law_1
  (seqM fs_law_2
  (seqM fs_law_3
  (seqM fs_law_4
  (seqM fs_law_5
  (seqM fs_law_6
  (seqM fs_law_7
  (seqM fs_law_8
  (seqM fs_law_9
  (seqM fs_law_10
  (seqM fs_law_11
  (seqM fs_law_12
  (seqM fs_law_13
  (seqM fs_law_14
  (seqM fs_law_15
  (seqM fs_law_16
  (seqM fs_law_17
  (seqM fs_law_18
  (seqM fs_law_19
  (seqM fs_law_20
  nxM)))))))))))))))))))))
def φ_law : Fn := defM [] 19 fs_law
theorem ok_law (T : Tab K mg) (k : Nat) : FnOk P w K mg base CX0 (k + 28) T.f_law T.fd_law ["script"] (spF K [] 1 φ_law) := by
  refine fn_b T.F_law sc_law (by decide) fun cdv A outer s H E hr => ?_
  have hu := hu65 hr
  exact (s_cons (sset 1 (cal (ps := ["script"]) (vp := []) (ok__law_draws T (k + 26)) hr T.g__law_draws T.F__law_draws.kp T.b__law_draws (cn 0 c_nil)) sc_law.nd)
    (s_cons (sasg (e_tup (ac (cal (ps := ["draws", "limit"]) (vp := [0]) (ok__law_draw T (k + 26)) hr T.g__law_draw T.F__law_draw.kp T.b__law_draw (cn 1 (cv e_int c_nil))) (ac (e_add e_int (cal (ps := ["draws", "limit"]) (vp := [0]) (ok__law_draw T (k + 26)) hr T.g__law_draw T.F__law_draw.kp T.b__law_draw (cn 1 (cv e_int c_nil)))) a_nil))) (gtup [12, 13] rfl (gcons 12 sc_law.nd (gcons 13 sc_law.nd gs_nil))))
    (s_cons (sset 2 (cal (ps := ["count", "pairs"]) (vp := []) (ok__law_made T (k + 26)) hr T.g__law_made T.F__law_made.kp T.b__law_made (cn 12 (cv (xlc [("a", 18), ("b", 19)] rfl sc_law.nd (i_seq (cal (ps := ["count"]) (vp := []) (ok__law_pairs T (k + 26)) hr T.g__law_pairs T.F__law_pairs.kp T.b__law_pairs (cn 12 c_nil))) (fun _ _ _ _ _ => (gtup [18, 19] rfl (gcons 18 sc_law.nd (gcons 19 sc_law.nd gs_nil)))) (fun _ _ _ _ _ => (ts1 (t_ne (e_mul (e_fdiv (e_sub (rd 19) (rd 18)) (rd 13)) (rd 13)) (e_sub (rd 19) (rd 18)) hu))) (fun _ _ _ _ _ => (e_tup (ac (rd 18) (ac (rd 19) a_nil))))) c_nil))) sc_law.nd)
    (s_cons (s_if (PW.pt (tw_or (t_not (ttru (cal (ps := ["actual", "expected"]) (vp := []) (fn_cast (by omega) (ok__law_same T (k + 14) 12)) hr T.g__law_same T.F__law_same.kp T.b__law_same (cv (cal (ps := ["count", "parts"]) (vp := []) (ok_parted_web T (k + 25)) hr T.g_parted_web T.F_parted_web.kp T.b_parted_web (cn 12 (cn 13 c_nil))) (cn 2 c_nil))))) (tw_or (t_not (ttru (cal (ps := ["actual", "expected"]) (vp := []) (fn_cast (by omega) (ok__law_same T (k + 14) 12)) hr T.g__law_same T.F__law_same.kp T.b__law_same (cv (cal (ps := ["count", "size"]) (vp := []) (ok_most_ties T (k + 24)) hr T.g_most_ties T.F_most_ties.kp T.b_most_ties (cn 12 (cv (e_add (rd 13) e_int) c_nil))) (cv (e_len (bs T.m_len) (ac (xix hu (rd 2) e_int) a_nil)) c_nil))))) (tw_or1 (t_ne (cal (ps := ["count", "size"]) (vp := []) (ok_most_ties T (k + 24)) hr T.g_most_ties T.F_most_ties.kp T.b_most_ties (cn 12 (cv e_int c_nil))) e_int hu))))) (s_cons (s_ret e_bl)
    s_nil) s_nil)
    (s_cons (spar 14 15 rfl sc_law.nd (ac (cal (ps := ["count"]) (vp := []) (ok__law_pairs T (k + 26)) hr T.g__law_pairs T.F__law_pairs.kp T.b__law_pairs (cn 12 c_nil)) (ac (cal (ps := ["draws", "limit"]) (vp := [0]) (ok__law_draw T (k + 26)) hr T.g__law_draw T.F__law_draw.kp T.b__law_draw (cn 1 (cv e_int c_nil))) a_nil)))
    (s_cons (s_if (t_eq (rd 15) e_int hu) (s_cons (sset 2 (cal (ps := ["draws", "least", "most"]) (vp := [0]) (ok__law_web T (k + 25)) hr T.g__law_web T.F__law_web.kp T.b__law_web (cn 1 (cv e_int (cv e_int c_nil)))) sc_law.nd)
    s_nil) (s_cons (s_if (PW.pt (tw_and (t_eq (rd 15) e_int hu) (tw_and1 (t_gt (e_len (bs T.m_len) (ac (rd 14) a_nil)) e_int)))) (s_cons (sset 10 (cal (ps := ["draws", "row"]) (vp := [0]) (ok__law_pick T (k + 25)) hr T.g__law_pick T.F__law_pick.kp T.b__law_pick (cn 1 (cn 14 c_nil))) sc_law.nd)
    (s_cons (sset 2 (e_if (tin hu (rd 10) (xix hu (rd 2) e_int)) (cal (ps := ["count", "pairs"]) (vp := []) (ok__law_made T (k + 26)) hr T.g__law_made T.F__law_made.kp T.b__law_made (cn 12 (cv (xlc [("one", 17)] rfl sc_law.nd (i_seq (xix hu (fz 2) e_int)) (fun _ _ _ _ _ => (gnm 17 sc_law.nd)) (fun _ _ _ _ _ => (ts1 (t_ne (rd 17) (rd 10) hu))) (fun _ _ _ _ _ => (rd 17))) c_nil))) (cal (ps := ["count", "pairs"]) (vp := []) (ok__law_made T (k + 26)) hr T.g__law_made T.F__law_made.kp T.b__law_made (cn 12 (cv (e_add (xix hu (rd 2) e_int) (e_tup (ac (rd 10) a_nil))) c_nil)))) sc_law.nd)
    s_nil)) s_nil)
    s_nil))
    (s_cons (s_if (t_not (ttru (cal (ps := ["actual", "expected"]) (vp := []) (fn_cast (by omega) (ok__law_same T (k + 14) 12)) hr T.g__law_same T.F__law_same.kp T.b__law_same (cv (cal (ps := ["web"]) (vp := []) (ok_parts_shown T (k + 1)) hr T.g_parts_shown T.F_parts_shown.kp T.b_parts_shown (cn 2 c_nil)) (cv (cal (ps := ["web"]) (vp := []) (ok__law_shown T (k + 25)) hr T.g__law_shown T.F__law_shown.kp T.b__law_shown (cn 2 c_nil)) c_nil))))) (s_cons (s_ret e_bl)
    s_nil) s_nil)
    (s_cons (sset 3 (cal (ps := ["draws", "limit"]) (vp := [0]) (ok__law_draw T (k + 26)) hr T.g__law_draw T.F__law_draw.kp T.b__law_draw (cn 1 (cv e_int c_nil))) sc_law.nd)
    (s_cons (slc 4 [("some", 16)] rfl sc_law.nd sc_law.kind (i_seq (cal (ps := ["count", "size"]) (vp := []) (ok__law_choices T (k + 26)) hr T.g__law_choices T.F__law_choices.kp T.b__law_choices (cv (xix hu (rd 2) e_int) (cn 3 c_nil)))) (fun _ _ _ _ _ => (gnm 16 sc_law.nd)) (fun _ _ _ _ _ => (ts1 (ttru (cal (ps := ["web", "some"]) (vp := []) (ok__law_full T (k + 26)) hr T.g__law_full T.F__law_full.kp T.b__law_full (cn 2 (cn 16 c_nil)))))) (fun _ _ _ _ _ => (rd 16)))
    (s_cons (s_if (t_not (ttru (cal (ps := ["actual", "expected"]) (vp := []) (fn_cast (by omega) (ok__law_same T (k + 14) 12)) hr T.g__law_same T.F__law_same.kp T.b__law_same (cv (cal (ps := ["web", "size"]) (vp := []) (ok_all_tied_part T (k + 1)) hr T.g_all_tied_part T.F_all_tied_part.kp T.b_all_tied_part (cn 2 (cn 3 c_nil))) (cv (e_if (t_gt (e_len (bs T.m_len) (ac (rd 4) a_nil)) e_int) (xix hu (rd 4) e_int) e_non) c_nil))))) (s_cons (s_ret e_bl)
    s_nil) s_nil)
    (s_cons (sset 5 (cal (ps := ["web"]) (vp := []) (ok__law_greatest T (k + 25)) hr T.g__law_greatest T.F__law_greatest.kp T.b__law_greatest (cn 2 c_nil)) sc_law.nd)
    (s_cons (s_if (PW.pt (tw_or (t_not (ttru (cal (ps := ["actual", "expected"]) (vp := []) (fn_cast (by omega) (ok__law_same T (k + 14) 12)) hr T.g__law_same T.F__law_same.kp T.b__law_same (cv (cal (ps := ["web"]) (vp := []) (ok_greatest_tied T (k + 22)) hr T.g_greatest_tied T.F_greatest_tied.kp T.b_greatest_tied (cn 2 c_nil)) (cn 5 c_nil))))) (tw_or1 (t_gt (e_len (bs T.m_len) (ac (xix hu (rd 2) e_int) a_nil)) (cal (ps := ["count", "size"]) (vp := []) (ok_most_ties T (k + 24)) hr T.g_most_ties T.F_most_ties.kp T.b_most_ties (cv (xix hu (rd 2) e_int) (cv (e_add (rd 5) e_int) c_nil))))))) (s_cons (s_ret e_bl)
    s_nil) s_nil)
    (s_cons (sset 6 (cal (ps := ["web"]) (vp := []) (ok_made_parted T (k + 0)) hr T.g_made_parted T.F_made_parted.kp T.b_made_parted (cn 2 c_nil)) sc_law.nd)
    (s_cons (s_if (PW.pt (tw_or (t_ne (xix hu (rd 6) e_int) (rd 2) hu) (tw_or1 (t_ne (xix hu (cal (ps := ["web"]) (vp := []) (ok__law_shown T (k + 25)) hr T.g__law_shown T.F__law_shown.kp T.b__law_shown (cv (xix hu (rd 6) (e_neg e_int)) c_nil)) e_int) e_str hu)))) (s_cons (s_ret e_bl)
    s_nil) s_nil)
    (s_cons (sfor rfl PassesOwn.never (irg2 T.m_range (ac e_int (ac (e_len (bs T.m_len) (ac (rd 6) a_nil)) a_nil))) (gnm 7 sc_law.nd) (s_cons (s_if (PW.pt (tw_or (t_ne (xix hu (xix hu (rd 6) (rd 7)) e_int) (xix hu (rd 2) e_int) hu) (tw_or (t_lt (e_len (bs T.m_len) (ac (xix hu (xix hu (rd 6) (rd 7)) e_int) a_nil)) (e_len (bs T.m_len) (ac (xix hu (xix hu (rd 6) (e_sub (rd 7) e_int)) e_int) a_nil))) (tw_or1 (t_gt (cal (ps := ["web"]) (vp := []) (ok__law_greatest T (k + 25)) hr T.g__law_greatest T.F__law_greatest.kp T.b__law_greatest (cv (xix hu (rd 6) (rd 7)) c_nil)) (cal (ps := ["web"]) (vp := []) (ok__law_greatest T (k + 25)) hr T.g__law_greatest T.F__law_greatest.kp T.b__law_greatest (cv (xix hu (rd 6) (e_sub (rd 7) e_int)) c_nil))))))) (s_cons (s_ret e_bl)
    s_nil) s_nil)
    s_nil))
    (s_cons (sset 8 (e_add e_int (cal (ps := ["draws", "limit"]) (vp := [0]) (ok__law_draw T (k + 26)) hr T.g__law_draw T.F__law_draw.kp T.b__law_draw (cn 1 (cv e_int c_nil)))) sc_law.nd)
    (s_cons (sset 9 (e_lst (ac (e_tup a_nil) a_nil)) sc_law.nd)
    (s_cons (sfor rfl PassesOwn.never (i_seq (cal (ps := ["count"]) (vp := []) (ok__law_pairs T (k + 26)) hr T.g__law_pairs T.F__law_pairs.kp T.b__law_pairs (cn 8 c_nil))) (gnm 10 sc_law.nd) (s_cons (sset 9 (e_add (rd 9) (xlc [("one", 17)] rfl sc_law.nd (iln 9) (fun _ _ _ _ _ => (gnm 17 sc_law.nd)) (fun _ _ _ _ _ => tsn) (fun _ _ _ _ _ => (e_add (rd 17) (e_tup (ac (rd 10) a_nil)))))) sc_law.nd)
    s_nil))
    (s_cons (sset 3 (e_add e_int (cal (ps := ["draws", "limit"]) (vp := [0]) (ok__law_draw T (k + 26)) hr T.g__law_draw T.F__law_draw.kp T.b__law_draw (cn 1 (cv e_int c_nil)))) sc_law.nd)
    (s_cons (slc 11 [("one", 17)] rfl sc_law.nd sc_law.kind (iln 9) (fun _ _ _ _ _ => (gnm 17 sc_law.nd)) (fun _ _ _ _ _ => (ts1 (t_lt (cal (ps := ["web"]) (vp := []) (ok__law_greatest T (k + 25)) hr T.g__law_greatest T.F__law_greatest.kp T.b__law_greatest (cv (e_tup (ac (rd 8) (ac (rd 17) a_nil))) c_nil)) (rd 3)))) (fun _ _ _ _ _ => (e_len (bs T.m_len) (ac (rd 17) a_nil))))
    (s_cons (s_ret (cal (ps := ["actual", "expected"]) (vp := []) (fn_cast (by omega) (ok__law_same T (k + 14) 12)) hr T.g__law_same T.F__law_same.kp T.b__law_same (cv (cal (ps := ["count", "size"]) (vp := []) (ok_most_ties T (k + 24)) hr T.g_most_ties T.F_most_ties.kp T.b_most_ties (cn 8 (cn 3 c_nil))) (cv (e_max1 rfl hu (bs T.m_max) (ac (rd 11) a_nil)) c_nil))))
    s_nil)))))))))))))))))))))
end
/-! ### what the top has written -/
theorem law_mk {P : Program} {w : World} {K : PySem.W.Frag} {h : Heap} {mg : Str → Option Value} {fa : Addr} (X : K.In h) (G : h.Ns mainGlobals mg) (hfa : mg "law" = some (.ref fa))
    {f__law_draws : Addr} {oc__law_draws kV__law_draws dc__law_draws pm__law_draws cd__law_draws ct__law_draws : Value} {od__law_draws an__law_draws : Option Addr} {sl__law_draws : Array (Option Value)}
    {f__law_made : Addr} {oc__law_made kV__law_made dc__law_made pm__law_made cd__law_made ct__law_made : Value} {od__law_made an__law_made : Option Addr} {sl__law_made : Array (Option Value)}
    {f__law_draw : Addr} {oc__law_draw kV__law_draw dc__law_draw pm__law_draw cd__law_draw ct__law_draw : Value} {od__law_draw an__law_draw : Option Addr} {sl__law_draw : Array (Option Value)}
    {f__law_choices : Addr} {oc__law_choices kV__law_choices dc__law_choices pm__law_choices cd__law_choices ct__law_choices : Value} {od__law_choices an__law_choices : Option Addr} {sl__law_choices : Array (Option Value)}
    {f__law_full : Addr} {oc__law_full kV__law_full dc__law_full pm__law_full cd__law_full ct__law_full : Value} {od__law_full an__law_full : Option Addr} {sl__law_full : Array (Option Value)}
    {f__law_greatest : Addr} {oc__law_greatest kV__law_greatest dc__law_greatest pm__law_greatest cd__law_greatest ct__law_greatest : Value} {od__law_greatest an__law_greatest : Option Addr} {sl__law_greatest : Array (Option Value)}
    {f_is_number : Addr} {oc_is_number kV_is_number dc_is_number pm_is_number cd_is_number ct_is_number : Value} {od_is_number an_is_number : Option Addr} {sl_is_number : Array (Option Value)}
    {f_is_web : Addr} {oc_is_web kV_is_web dc_is_web pm_is_web cd_is_web ct_is_web : Value} {od_is_web an_is_web : Option Addr} {sl_is_web : Array (Option Value)}
    {f_look_at : Addr} {oc_look_at kV_look_at dc_look_at pm_look_at cd_look_at ct_look_at : Value} {od_look_at an_look_at : Option Addr} {sl_look_at : Array (Option Value)}
    {f_choices : Addr} {oc_choices kV_choices dc_choices pm_choices cd_choices ct_choices : Value} {od_choices an_choices : Option Addr} {sl_choices : Array (Option Value)}
    {f_neighbours : Addr} {oc_neighbours kV_neighbours dc_neighbours pm_neighbours cd_neighbours ct_neighbours : Value} {od_neighbours an_neighbours : Option Addr} {sl_neighbours : Array (Option Value)}
    {f_tied : Addr} {oc_tied kV_tied dc_tied pm_tied cd_tied ct_tied : Value} {od_tied an_tied : Option Addr} {sl_tied : Array (Option Value)}
    {f_parts_shown : Addr} {oc_parts_shown kV_parts_shown dc_parts_shown pm_parts_shown cd_parts_shown ct_parts_shown : Value} {od_parts_shown an_parts_shown : Option Addr} {sl_parts_shown : Array (Option Value)}
    {f_web_of : Addr} {oc_web_of kV_web_of dc_web_of pm_web_of cd_web_of ct_web_of : Value} {od_web_of an_web_of : Option Addr} {sl_web_of : Array (Option Value)}
    {f_moved : Addr} {oc_moved kV_moved dc_moved pm_moved cd_moved ct_moved : Value} {od_moved an_moved : Option Addr} {sl_moved : Array (Option Value)}
    {f_better : Addr} {oc_better kV_better dc_better pm_better cd_better ct_better : Value} {od_better an_better : Option Addr} {sl_better : Array (Option Value)}
    {f_made_parted : Addr} {oc_made_parted kV_made_parted dc_made_parted pm_made_parted cd_made_parted ct_made_parted : Value} {od_made_parted an_made_parted : Option Addr} {sl_made_parted : Array (Option Value)}
    {f__law_pairs : Addr} {oc__law_pairs kV__law_pairs dc__law_pairs pm__law_pairs cd__law_pairs ct__law_pairs : Value} {od__law_pairs an__law_pairs : Option Addr} {sl__law_pairs : Array (Option Value)}
    {f__law_same : Addr} {oc__law_same kV__law_same dc__law_same pm__law_same cd__law_same ct__law_same : Value} {od__law_same an__law_same : Option Addr} {sl__law_same : Array (Option Value)}
    {f__law_web : Addr} {oc__law_web kV__law_web dc__law_web pm__law_web cd__law_web ct__law_web : Value} {od__law_web an__law_web : Option Addr} {sl__law_web : Array (Option Value)}
    {f_parted_web : Addr} {oc_parted_web kV_parted_web dc_parted_web pm_parted_web cd_parted_web ct_parted_web : Value} {od_parted_web an_parted_web : Option Addr} {sl_parted_web : Array (Option Value)}
    {f_most_ties : Addr} {oc_most_ties kV_most_ties dc_most_ties pm_most_ties cd_most_ties ct_most_ties : Value} {od_most_ties an_most_ties : Option Addr} {sl_most_ties : Array (Option Value)}
    {f__law_pick : Addr} {oc__law_pick kV__law_pick dc__law_pick pm__law_pick cd__law_pick ct__law_pick : Value} {od__law_pick an__law_pick : Option Addr} {sl__law_pick : Array (Option Value)}
    {f__law_tied : Addr} {oc__law_tied kV__law_tied dc__law_tied pm__law_tied cd__law_tied ct__law_tied : Value} {od__law_tied an__law_tied : Option Addr} {sl__law_tied : Array (Option Value)}
    {f__law_shown : Addr} {oc__law_shown kV__law_shown dc__law_shown pm__law_shown cd__law_shown ct__law_shown : Value} {od__law_shown an__law_shown : Option Addr} {sl__law_shown : Array (Option Value)}
    {f_all_tied_part : Addr} {oc_all_tied_part kV_all_tied_part dc_all_tied_part pm_all_tied_part cd_all_tied_part ct_all_tied_part : Value} {od_all_tied_part an_all_tied_part : Option Addr} {sl_all_tied_part : Array (Option Value)}
    {f_great_ones : Addr} {oc_great_ones kV_great_ones dc_great_ones pm_great_ones cd_great_ones ct_great_ones : Value} {od_great_ones an_great_ones : Option Addr} {sl_great_ones : Array (Option Value)}
    {f_greatest_tied : Addr} {oc_greatest_tied kV_greatest_tied dc_greatest_tied pm_greatest_tied cd_greatest_tied ct_greatest_tied : Value} {od_greatest_tied an_greatest_tied : Option Addr} {sl_greatest_tied : Array (Option Value)}
    {f_law : Addr} {oc_law kV_law dc_law pm_law cd_law ct_law : Value} {od_law an_law : Option Addr} {sl_law : Array (Option Value)}
    (a__law_draws : PySem.W.nsIn K mainGlobals "_law_draws" = some (some (.ref f__law_draws))) (l__law_draws : K.lookup f__law_draws = some ⟨oc__law_draws, od__law_draws, .func (PySem.W.fnOf "_law_draws" "_law_draws" (L2.defArgs st__law_draws) (L2.defBody st__law_draws) (L2.defScope st__law_draws) .none kV__law_draws dc__law_draws pm__law_draws an__law_draws cd__law_draws ct__law_draws), sl__law_draws⟩)
    (c__law_draws : PySem.W.codeIn K cd__law_draws "_law_draws" = true) (k__law_draws : PySem.W.keepIn K (.ref f__law_draws) = true)
    (a__law_made : PySem.W.nsIn K mainGlobals "_law_made" = some (some (.ref f__law_made))) (l__law_made : K.lookup f__law_made = some ⟨oc__law_made, od__law_made, .func (PySem.W.fnOf "_law_made" "_law_made" (L2.defArgs st__law_made) (L2.defBody st__law_made) (L2.defScope st__law_made) .none kV__law_made dc__law_made pm__law_made an__law_made cd__law_made ct__law_made), sl__law_made⟩)
    (c__law_made : PySem.W.codeIn K cd__law_made "_law_made" = true) (k__law_made : PySem.W.keepIn K (.ref f__law_made) = true)
    (a__law_draw : PySem.W.nsIn K mainGlobals "_law_draw" = some (some (.ref f__law_draw))) (l__law_draw : K.lookup f__law_draw = some ⟨oc__law_draw, od__law_draw, .func (PySem.W.fnOf "_law_draw" "_law_draw" (L2.defArgs st__law_draw) (L2.defBody st__law_draw) (L2.defScope st__law_draw) .none kV__law_draw dc__law_draw pm__law_draw an__law_draw cd__law_draw ct__law_draw), sl__law_draw⟩)
    (c__law_draw : PySem.W.codeIn K cd__law_draw "_law_draw" = true) (k__law_draw : PySem.W.keepIn K (.ref f__law_draw) = true)
    (a__law_choices : PySem.W.nsIn K mainGlobals "_law_choices" = some (some (.ref f__law_choices))) (l__law_choices : K.lookup f__law_choices = some ⟨oc__law_choices, od__law_choices, .func (PySem.W.fnOf "_law_choices" "_law_choices" (L2.defArgs st__law_choices) (L2.defBody st__law_choices) (L2.defScope st__law_choices) .none kV__law_choices dc__law_choices pm__law_choices an__law_choices cd__law_choices ct__law_choices), sl__law_choices⟩)
    (c__law_choices : PySem.W.codeIn K cd__law_choices "_law_choices" = true) (k__law_choices : PySem.W.keepIn K (.ref f__law_choices) = true)
    (a__law_full : PySem.W.nsIn K mainGlobals "_law_full" = some (some (.ref f__law_full))) (l__law_full : K.lookup f__law_full = some ⟨oc__law_full, od__law_full, .func (PySem.W.fnOf "_law_full" "_law_full" (L2.defArgs st__law_full) (L2.defBody st__law_full) (L2.defScope st__law_full) .none kV__law_full dc__law_full pm__law_full an__law_full cd__law_full ct__law_full), sl__law_full⟩)
    (c__law_full : PySem.W.codeIn K cd__law_full "_law_full" = true) (k__law_full : PySem.W.keepIn K (.ref f__law_full) = true)
    (a__law_greatest : PySem.W.nsIn K mainGlobals "_law_greatest" = some (some (.ref f__law_greatest))) (l__law_greatest : K.lookup f__law_greatest = some ⟨oc__law_greatest, od__law_greatest, .func (PySem.W.fnOf "_law_greatest" "_law_greatest" (L2.defArgs st__law_greatest) (L2.defBody st__law_greatest) (L2.defScope st__law_greatest) .none kV__law_greatest dc__law_greatest pm__law_greatest an__law_greatest cd__law_greatest ct__law_greatest), sl__law_greatest⟩)
    (c__law_greatest : PySem.W.codeIn K cd__law_greatest "_law_greatest" = true) (k__law_greatest : PySem.W.keepIn K (.ref f__law_greatest) = true)
    (a_is_number : PySem.W.nsIn K mainGlobals "is_number" = some (some (.ref f_is_number))) (l_is_number : K.lookup f_is_number = some ⟨oc_is_number, od_is_number, .func (PySem.W.fnOf "is_number" "is_number" (L2.defArgs st_is_number) (L2.defBody st_is_number) (L2.defScope st_is_number) .none kV_is_number dc_is_number pm_is_number an_is_number cd_is_number ct_is_number), sl_is_number⟩)
    (c_is_number : PySem.W.codeIn K cd_is_number "is_number" = true) (k_is_number : PySem.W.keepIn K (.ref f_is_number) = true)
    (a_is_web : PySem.W.nsIn K mainGlobals "is_web" = some (some (.ref f_is_web))) (l_is_web : K.lookup f_is_web = some ⟨oc_is_web, od_is_web, .func (PySem.W.fnOf "is_web" "is_web" (L2.defArgs st_is_web) (L2.defBody st_is_web) (L2.defScope st_is_web) .none kV_is_web dc_is_web pm_is_web an_is_web cd_is_web ct_is_web), sl_is_web⟩)
    (c_is_web : PySem.W.codeIn K cd_is_web "is_web" = true) (k_is_web : PySem.W.keepIn K (.ref f_is_web) = true)
    (a_look_at : PySem.W.nsIn K mainGlobals "look_at" = some (some (.ref f_look_at))) (l_look_at : K.lookup f_look_at = some ⟨oc_look_at, od_look_at, .func (PySem.W.fnOf "look_at" "look_at" (L2.defArgs st_look_at) (L2.defBody st_look_at) (L2.defScope st_look_at) .none kV_look_at dc_look_at pm_look_at an_look_at cd_look_at ct_look_at), sl_look_at⟩)
    (c_look_at : PySem.W.codeIn K cd_look_at "look_at" = true) (k_look_at : PySem.W.keepIn K (.ref f_look_at) = true)
    (a_choices : PySem.W.nsIn K mainGlobals "choices" = some (some (.ref f_choices))) (l_choices : K.lookup f_choices = some ⟨oc_choices, od_choices, .func (PySem.W.fnOf "choices" "choices" (L2.defArgs st_choices) (L2.defBody st_choices) (L2.defScope st_choices) .none kV_choices dc_choices pm_choices an_choices cd_choices ct_choices), sl_choices⟩)
    (c_choices : PySem.W.codeIn K cd_choices "choices" = true) (k_choices : PySem.W.keepIn K (.ref f_choices) = true)
    (a_neighbours : PySem.W.nsIn K mainGlobals "neighbours" = some (some (.ref f_neighbours))) (l_neighbours : K.lookup f_neighbours = some ⟨oc_neighbours, od_neighbours, .func (PySem.W.fnOf "neighbours" "neighbours" (L2.defArgs st_neighbours) (L2.defBody st_neighbours) (L2.defScope st_neighbours) .none kV_neighbours dc_neighbours pm_neighbours an_neighbours cd_neighbours ct_neighbours), sl_neighbours⟩)
    (c_neighbours : PySem.W.codeIn K cd_neighbours "neighbours" = true) (k_neighbours : PySem.W.keepIn K (.ref f_neighbours) = true)
    (a_tied : PySem.W.nsIn K mainGlobals "tied" = some (some (.ref f_tied))) (l_tied : K.lookup f_tied = some ⟨oc_tied, od_tied, .func (PySem.W.fnOf "tied" "tied" (L2.defArgs st_tied) (L2.defBody st_tied) (L2.defScope st_tied) .none kV_tied dc_tied pm_tied an_tied cd_tied ct_tied), sl_tied⟩)
    (c_tied : PySem.W.codeIn K cd_tied "tied" = true) (k_tied : PySem.W.keepIn K (.ref f_tied) = true)
    (a_parts_shown : PySem.W.nsIn K mainGlobals "parts_shown" = some (some (.ref f_parts_shown))) (l_parts_shown : K.lookup f_parts_shown = some ⟨oc_parts_shown, od_parts_shown, .func (PySem.W.fnOf "parts_shown" "parts_shown" (L2.defArgs st_parts_shown) (L2.defBody st_parts_shown) (L2.defScope st_parts_shown) .none kV_parts_shown dc_parts_shown pm_parts_shown an_parts_shown cd_parts_shown ct_parts_shown), sl_parts_shown⟩)
    (c_parts_shown : PySem.W.codeIn K cd_parts_shown "parts_shown" = true) (k_parts_shown : PySem.W.keepIn K (.ref f_parts_shown) = true)
    (a_web_of : PySem.W.nsIn K mainGlobals "web_of" = some (some (.ref f_web_of))) (l_web_of : K.lookup f_web_of = some ⟨oc_web_of, od_web_of, .func (PySem.W.fnOf "web_of" "web_of" (L2.defArgs st_web_of) (L2.defBody st_web_of) (L2.defScope st_web_of) .none kV_web_of dc_web_of pm_web_of an_web_of cd_web_of ct_web_of), sl_web_of⟩)
    (c_web_of : PySem.W.codeIn K cd_web_of "web_of" = true) (k_web_of : PySem.W.keepIn K (.ref f_web_of) = true)
    (a_moved : PySem.W.nsIn K mainGlobals "moved" = some (some (.ref f_moved))) (l_moved : K.lookup f_moved = some ⟨oc_moved, od_moved, .func (PySem.W.fnOf "moved" "moved" (L2.defArgs st_moved) (L2.defBody st_moved) (L2.defScope st_moved) .none kV_moved dc_moved pm_moved an_moved cd_moved ct_moved), sl_moved⟩)
    (c_moved : PySem.W.codeIn K cd_moved "moved" = true) (k_moved : PySem.W.keepIn K (.ref f_moved) = true)
    (a_better : PySem.W.nsIn K mainGlobals "better" = some (some (.ref f_better))) (l_better : K.lookup f_better = some ⟨oc_better, od_better, .func (PySem.W.fnOf "better" "better" (L2.defArgs st_better) (L2.defBody st_better) (L2.defScope st_better) .none kV_better dc_better pm_better an_better cd_better ct_better), sl_better⟩)
    (c_better : PySem.W.codeIn K cd_better "better" = true) (k_better : PySem.W.keepIn K (.ref f_better) = true)
    (a_made_parted : PySem.W.nsIn K mainGlobals "made_parted" = some (some (.ref f_made_parted))) (l_made_parted : K.lookup f_made_parted = some ⟨oc_made_parted, od_made_parted, .func (PySem.W.fnOf "made_parted" "made_parted" (L2.defArgs st_made_parted) (L2.defBody st_made_parted) (L2.defScope st_made_parted) .none kV_made_parted dc_made_parted pm_made_parted an_made_parted cd_made_parted ct_made_parted), sl_made_parted⟩)
    (c_made_parted : PySem.W.codeIn K cd_made_parted "made_parted" = true) (k_made_parted : PySem.W.keepIn K (.ref f_made_parted) = true)
    (a__law_pairs : PySem.W.nsIn K mainGlobals "_law_pairs" = some (some (.ref f__law_pairs))) (l__law_pairs : K.lookup f__law_pairs = some ⟨oc__law_pairs, od__law_pairs, .func (PySem.W.fnOf "_law_pairs" "_law_pairs" (L2.defArgs st__law_pairs) (L2.defBody st__law_pairs) (L2.defScope st__law_pairs) .none kV__law_pairs dc__law_pairs pm__law_pairs an__law_pairs cd__law_pairs ct__law_pairs), sl__law_pairs⟩)
    (c__law_pairs : PySem.W.codeIn K cd__law_pairs "_law_pairs" = true) (k__law_pairs : PySem.W.keepIn K (.ref f__law_pairs) = true)
    (a__law_same : PySem.W.nsIn K mainGlobals "_law_same" = some (some (.ref f__law_same))) (l__law_same : K.lookup f__law_same = some ⟨oc__law_same, od__law_same, .func (PySem.W.fnOf "_law_same" "_law_same" (L2.defArgs st__law_same) (L2.defBody st__law_same) (L2.defScope st__law_same) .none kV__law_same dc__law_same pm__law_same an__law_same cd__law_same ct__law_same), sl__law_same⟩)
    (c__law_same : PySem.W.codeIn K cd__law_same "_law_same" = true) (k__law_same : PySem.W.keepIn K (.ref f__law_same) = true)
    (a__law_web : PySem.W.nsIn K mainGlobals "_law_web" = some (some (.ref f__law_web))) (l__law_web : K.lookup f__law_web = some ⟨oc__law_web, od__law_web, .func (PySem.W.fnOf "_law_web" "_law_web" (L2.defArgs st__law_web) (L2.defBody st__law_web) (L2.defScope st__law_web) .none kV__law_web dc__law_web pm__law_web an__law_web cd__law_web ct__law_web), sl__law_web⟩)
    (c__law_web : PySem.W.codeIn K cd__law_web "_law_web" = true) (k__law_web : PySem.W.keepIn K (.ref f__law_web) = true)
    (a_parted_web : PySem.W.nsIn K mainGlobals "parted_web" = some (some (.ref f_parted_web))) (l_parted_web : K.lookup f_parted_web = some ⟨oc_parted_web, od_parted_web, .func (PySem.W.fnOf "parted_web" "parted_web" (L2.defArgs st_parted_web) (L2.defBody st_parted_web) (L2.defScope st_parted_web) .none kV_parted_web dc_parted_web pm_parted_web an_parted_web cd_parted_web ct_parted_web), sl_parted_web⟩)
    (c_parted_web : PySem.W.codeIn K cd_parted_web "parted_web" = true) (k_parted_web : PySem.W.keepIn K (.ref f_parted_web) = true)
    (a_most_ties : PySem.W.nsIn K mainGlobals "most_ties" = some (some (.ref f_most_ties))) (l_most_ties : K.lookup f_most_ties = some ⟨oc_most_ties, od_most_ties, .func (PySem.W.fnOf "most_ties" "most_ties" (L2.defArgs st_most_ties) (L2.defBody st_most_ties) (L2.defScope st_most_ties) .none kV_most_ties dc_most_ties pm_most_ties an_most_ties cd_most_ties ct_most_ties), sl_most_ties⟩)
    (c_most_ties : PySem.W.codeIn K cd_most_ties "most_ties" = true) (k_most_ties : PySem.W.keepIn K (.ref f_most_ties) = true)
    (a__law_pick : PySem.W.nsIn K mainGlobals "_law_pick" = some (some (.ref f__law_pick))) (l__law_pick : K.lookup f__law_pick = some ⟨oc__law_pick, od__law_pick, .func (PySem.W.fnOf "_law_pick" "_law_pick" (L2.defArgs st__law_pick) (L2.defBody st__law_pick) (L2.defScope st__law_pick) .none kV__law_pick dc__law_pick pm__law_pick an__law_pick cd__law_pick ct__law_pick), sl__law_pick⟩)
    (c__law_pick : PySem.W.codeIn K cd__law_pick "_law_pick" = true) (k__law_pick : PySem.W.keepIn K (.ref f__law_pick) = true)
    (a__law_tied : PySem.W.nsIn K mainGlobals "_law_tied" = some (some (.ref f__law_tied))) (l__law_tied : K.lookup f__law_tied = some ⟨oc__law_tied, od__law_tied, .func (PySem.W.fnOf "_law_tied" "_law_tied" (L2.defArgs st__law_tied) (L2.defBody st__law_tied) (L2.defScope st__law_tied) .none kV__law_tied dc__law_tied pm__law_tied an__law_tied cd__law_tied ct__law_tied), sl__law_tied⟩)
    (c__law_tied : PySem.W.codeIn K cd__law_tied "_law_tied" = true) (k__law_tied : PySem.W.keepIn K (.ref f__law_tied) = true)
    (a__law_shown : PySem.W.nsIn K mainGlobals "_law_shown" = some (some (.ref f__law_shown))) (l__law_shown : K.lookup f__law_shown = some ⟨oc__law_shown, od__law_shown, .func (PySem.W.fnOf "_law_shown" "_law_shown" (L2.defArgs st__law_shown) (L2.defBody st__law_shown) (L2.defScope st__law_shown) .none kV__law_shown dc__law_shown pm__law_shown an__law_shown cd__law_shown ct__law_shown), sl__law_shown⟩)
    (c__law_shown : PySem.W.codeIn K cd__law_shown "_law_shown" = true) (k__law_shown : PySem.W.keepIn K (.ref f__law_shown) = true)
    (a_all_tied_part : PySem.W.nsIn K mainGlobals "all_tied_part" = some (some (.ref f_all_tied_part))) (l_all_tied_part : K.lookup f_all_tied_part = some ⟨oc_all_tied_part, od_all_tied_part, .func (PySem.W.fnOf "all_tied_part" "all_tied_part" (L2.defArgs st_all_tied_part) (L2.defBody st_all_tied_part) (L2.defScope st_all_tied_part) .none kV_all_tied_part dc_all_tied_part pm_all_tied_part an_all_tied_part cd_all_tied_part ct_all_tied_part), sl_all_tied_part⟩)
    (c_all_tied_part : PySem.W.codeIn K cd_all_tied_part "all_tied_part" = true) (k_all_tied_part : PySem.W.keepIn K (.ref f_all_tied_part) = true)
    (a_great_ones : PySem.W.nsIn K mainGlobals "great_ones" = some (some (.ref f_great_ones))) (l_great_ones : K.lookup f_great_ones = some ⟨oc_great_ones, od_great_ones, .func (PySem.W.fnOf "great_ones" "great_ones" (L2.defArgs st_great_ones) (L2.defBody st_great_ones) (L2.defScope st_great_ones) .none kV_great_ones dc_great_ones pm_great_ones an_great_ones cd_great_ones ct_great_ones), sl_great_ones⟩)
    (c_great_ones : PySem.W.codeIn K cd_great_ones "great_ones" = true) (k_great_ones : PySem.W.keepIn K (.ref f_great_ones) = true)
    (a_greatest_tied : PySem.W.nsIn K mainGlobals "greatest_tied" = some (some (.ref f_greatest_tied))) (l_greatest_tied : K.lookup f_greatest_tied = some ⟨oc_greatest_tied, od_greatest_tied, .func (PySem.W.fnOf "greatest_tied" "greatest_tied" (L2.defArgs st_greatest_tied) (L2.defBody st_greatest_tied) (L2.defScope st_greatest_tied) .none kV_greatest_tied dc_greatest_tied pm_greatest_tied an_greatest_tied cd_greatest_tied ct_greatest_tied), sl_greatest_tied⟩)
    (c_greatest_tied : PySem.W.codeIn K cd_greatest_tied "greatest_tied" = true) (k_greatest_tied : PySem.W.keepIn K (.ref f_greatest_tied) = true)
    (a_law : PySem.W.nsIn K mainGlobals "law" = some (some (.ref f_law))) (l_law : K.lookup f_law = some ⟨oc_law, od_law, .func (PySem.W.fnOf "law" "law" (L2.defArgs st_law) (L2.defBody st_law) (L2.defScope st_law) .none kV_law dc_law pm_law an_law cd_law ct_law), sl_law⟩)
    (c_law : PySem.W.codeIn K cd_law "law" = true) (k_law : PySem.W.keepIn K (.ref f_law) = true)
    (z_all : PySem.W.nsIn K mainGlobals "all" = some none)
    (z_bool : PySem.W.nsIn K mainGlobals "bool" = some none)
    (z_enumerate : PySem.W.nsIn K mainGlobals "enumerate" = some none)
    (z_int : PySem.W.nsIn K mainGlobals "int" = some none)
    (z_isinstance : PySem.W.nsIn K mainGlobals "isinstance" = some none)
    (z_len : PySem.W.nsIn K mainGlobals "len" = some none)
    (z_list : PySem.W.nsIn K mainGlobals "list" = some none)
    (z_max : PySem.W.nsIn K mainGlobals "max" = some none)
    (z_min : PySem.W.nsIn K mainGlobals "min" = some none)
    (z_range : PySem.W.nsIn K mainGlobals "range" = some none)
    (z_sorted : PySem.W.nsIn K mainGlobals "sorted" = some none)
    (z_str : PySem.W.nsIn K mainGlobals "str" = some none)
    (z_tuple : PySem.W.nsIn K mainGlobals "tuple" = some none)
    {t_MOST_PLACES : _} (y_MOST_PLACES : PySem.W.nsIn K mainGlobals "MOST_PLACES" = some (some (.int 60 t_MOST_PLACES)))
    : ∃ fd : FuncData, (∀ (s : Shared) (v : Value), BindsTo s fd ⟨[v], []⟩ [("script", v)]) ∧ ∀ base : Heap, K.In base → base.Ns mainGlobals mg → FnOk P w K mg base CX0 28 fa fd ["script"] (spF K [] 1 φ_law) := by
  have e := hfa.symm.trans (PySem.W.mg_of X G a_law)
  cases e
  have F__law_draws := L2.fun_mk (st := st__law_draws) l__law_draws c__law_draws k__law_draws
  have F__law_made := L2.fun_mk (st := st__law_made) l__law_made c__law_made k__law_made
  have F__law_draw := L2.fun_mk (st := st__law_draw) l__law_draw c__law_draw k__law_draw
  have F__law_choices := L2.fun_mk (st := st__law_choices) l__law_choices c__law_choices k__law_choices
  have F__law_full := L2.fun_mk (st := st__law_full) l__law_full c__law_full k__law_full
  have F__law_greatest := L2.fun_mk (st := st__law_greatest) l__law_greatest c__law_greatest k__law_greatest
  have F_is_number := L2.fun_mk (st := st_is_number) l_is_number c_is_number k_is_number
  have F_is_web := L2.fun_mk (st := st_is_web) l_is_web c_is_web k_is_web
  have F_look_at := L2.fun_mk (st := st_look_at) l_look_at c_look_at k_look_at
  have F_choices := L2.fun_mk (st := st_choices) l_choices c_choices k_choices
  have F_neighbours := L2.fun_mk (st := st_neighbours) l_neighbours c_neighbours k_neighbours
  have F_tied := L2.fun_mk (st := st_tied) l_tied c_tied k_tied
  have F_parts_shown := L2.fun_mk (st := st_parts_shown) l_parts_shown c_parts_shown k_parts_shown
  have F_web_of := L2.fun_mk (st := st_web_of) l_web_of c_web_of k_web_of
  have F_moved := L2.fun_mk (st := st_moved) l_moved c_moved k_moved
  have F_better := L2.fun_mk (st := st_better) l_better c_better k_better
  have F_made_parted := L2.fun_mk (st := st_made_parted) l_made_parted c_made_parted k_made_parted
  have F__law_pairs := L2.fun_mk (st := st__law_pairs) l__law_pairs c__law_pairs k__law_pairs
  have F__law_same := L2.fun_mk (st := st__law_same) l__law_same c__law_same k__law_same
  have F__law_web := L2.fun_mk (st := st__law_web) l__law_web c__law_web k__law_web
  have F_parted_web := L2.fun_mk (st := st_parted_web) l_parted_web c_parted_web k_parted_web
  have F_most_ties := L2.fun_mk (st := st_most_ties) l_most_ties c_most_ties k_most_ties
  have F__law_pick := L2.fun_mk (st := st__law_pick) l__law_pick c__law_pick k__law_pick
  have F__law_tied := L2.fun_mk (st := st__law_tied) l__law_tied c__law_tied k__law_tied
  have F__law_shown := L2.fun_mk (st := st__law_shown) l__law_shown c__law_shown k__law_shown
  have F_all_tied_part := L2.fun_mk (st := st_all_tied_part) l_all_tied_part c_all_tied_part k_all_tied_part
  have F_great_ones := L2.fun_mk (st := st_great_ones) l_great_ones c_great_ones k_great_ones
  have F_greatest_tied := L2.fun_mk (st := st_greatest_tied) l_greatest_tied c_greatest_tied k_greatest_tied
  have F_law := L2.fun_mk (st := st_law) l_law c_law k_law
  have T : {T : Tab K mg // T.f_law = fa ∧ ∀ (s : Shared) (v : Value), BindsTo s T.fd_law ⟨[v], []⟩ [("script", v)]} := ⟨{
    f__law_draws := f__law_draws, fd__law_draws := _, F__law_draws := F__law_draws, g__law_draws := PySem.W.mg_of X G a__law_draws, b__law_draws := F__law_draws.binds (ps := ["script"]) (fun _ _ _ _ _ _ us hl => match us, hl with | [_], _ => rfl),
    f__law_made := f__law_made, fd__law_made := _, F__law_made := F__law_made, g__law_made := PySem.W.mg_of X G a__law_made, b__law_made := F__law_made.binds (ps := ["count", "pairs"]) (fun _ _ _ _ _ _ us hl => match us, hl with | [_, _], _ => rfl),
    f__law_draw := f__law_draw, fd__law_draw := _, F__law_draw := F__law_draw, g__law_draw := PySem.W.mg_of X G a__law_draw, b__law_draw := F__law_draw.binds (ps := ["draws", "limit"]) (fun _ _ _ _ _ _ us hl => match us, hl with | [_, _], _ => rfl),
    f__law_choices := f__law_choices, fd__law_choices := _, F__law_choices := F__law_choices, g__law_choices := PySem.W.mg_of X G a__law_choices, b__law_choices := F__law_choices.binds (ps := ["count", "size"]) (fun _ _ _ _ _ _ us hl => match us, hl with | [_, _], _ => rfl),
    f__law_full := f__law_full, fd__law_full := _, F__law_full := F__law_full, g__law_full := PySem.W.mg_of X G a__law_full, b__law_full := F__law_full.binds (ps := ["web", "some"]) (fun _ _ _ _ _ _ us hl => match us, hl with | [_, _], _ => rfl),
    f__law_greatest := f__law_greatest, fd__law_greatest := _, F__law_greatest := F__law_greatest, g__law_greatest := PySem.W.mg_of X G a__law_greatest, b__law_greatest := F__law_greatest.binds (ps := ["web"]) (fun _ _ _ _ _ _ us hl => match us, hl with | [_], _ => rfl),
    f_is_number := f_is_number, fd_is_number := _, F_is_number := F_is_number, g_is_number := PySem.W.mg_of X G a_is_number, b_is_number := F_is_number.binds (ps := ["value"]) (fun _ _ _ _ _ _ us hl => match us, hl with | [_], _ => rfl),
    f_is_web := f_is_web, fd_is_web := _, F_is_web := F_is_web, g_is_web := PySem.W.mg_of X G a_is_web, b_is_web := F_is_web.binds (ps := ["value"]) (fun _ _ _ _ _ _ us hl => match us, hl with | [_], _ => rfl),
    f_look_at := f_look_at, fd_look_at := _, F_look_at := F_look_at, g_look_at := PySem.W.mg_of X G a_look_at, b_look_at := F_look_at.binds (ps := ["web"]) (fun _ _ _ _ _ _ us hl => match us, hl with | [_], _ => rfl),
    f_choices := f_choices, fd_choices := _, F_choices := F_choices, g_choices := PySem.W.mg_of X G a_choices, b_choices := F_choices.binds (ps := ["count", "size"]) (fun _ _ _ _ _ _ us hl => match us, hl with | [_, _], _ => rfl),
    f_neighbours := f_neighbours, fd_neighbours := _, F_neighbours := F_neighbours, g_neighbours := PySem.W.mg_of X G a_neighbours, b_neighbours := F_neighbours.binds (ps := ["web"]) (fun _ _ _ _ _ _ us hl => match us, hl with | [_], _ => rfl),
    f_tied := f_tied, fd_tied := _, F_tied := F_tied, g_tied := PySem.W.mg_of X G a_tied, b_tied := F_tied.binds (ps := ["web", "first", "other"]) (fun _ _ _ _ _ _ us hl => match us, hl with | [_, _, _], _ => rfl),
    f_parts_shown := f_parts_shown, fd_parts_shown := _, F_parts_shown := F_parts_shown, g_parts_shown := PySem.W.mg_of X G a_parts_shown, b_parts_shown := F_parts_shown.binds (ps := ["web"]) (fun _ _ _ _ _ _ us hl => match us, hl with | [_], _ => rfl),
    f_web_of := f_web_of, fd_web_of := _, F_web_of := F_web_of, g_web_of := PySem.W.mg_of X G a_web_of, b_web_of := F_web_of.binds (ps := ["count", "pairs"]) (fun _ _ _ _ _ _ us hl => match us, hl with | [_, _], _ => rfl),
    f_moved := f_moved, fd_moved := _, F_moved := F_moved, g_moved := PySem.W.mg_of X G a_moved, b_moved := F_moved.binds (ps := ["web", "place", "other"]) (fun _ _ _ _ _ _ us hl => match us, hl with | [_, _, _], _ => rfl),
    f_better := f_better, fd_better := _, F_better := F_better, g_better := PySem.W.mg_of X G a_better, b_better := F_better.binds (ps := ["web", "three"]) (fun _ _ _ _ _ _ us hl => match us, hl with | [_, _], _ => rfl),
    f_made_parted := f_made_parted, fd_made_parted := _, F_made_parted := F_made_parted, g_made_parted := PySem.W.mg_of X G a_made_parted, b_made_parted := F_made_parted.binds (ps := ["web"]) (fun _ _ _ _ _ _ us hl => match us, hl with | [_], _ => rfl),
    f__law_pairs := f__law_pairs, fd__law_pairs := _, F__law_pairs := F__law_pairs, g__law_pairs := PySem.W.mg_of X G a__law_pairs, b__law_pairs := F__law_pairs.binds (ps := ["count"]) (fun _ _ _ _ _ _ us hl => match us, hl with | [_], _ => rfl),
    f__law_same := f__law_same, fd__law_same := _, F__law_same := F__law_same, g__law_same := PySem.W.mg_of X G a__law_same, b__law_same := F__law_same.binds (ps := ["actual", "expected"]) (fun _ _ _ _ _ _ us hl => match us, hl with | [_, _], _ => rfl),
    f__law_web := f__law_web, fd__law_web := _, F__law_web := F__law_web, g__law_web := PySem.W.mg_of X G a__law_web, b__law_web := F__law_web.binds (ps := ["draws", "least", "most"]) (fun _ _ _ _ _ _ us hl => match us, hl with | [_, _, _], _ => rfl),
    f_parted_web := f_parted_web, fd_parted_web := _, F_parted_web := F_parted_web, g_parted_web := PySem.W.mg_of X G a_parted_web, b_parted_web := F_parted_web.binds (ps := ["count", "parts"]) (fun _ _ _ _ _ _ us hl => match us, hl with | [_, _], _ => rfl),
    f_most_ties := f_most_ties, fd_most_ties := _, F_most_ties := F_most_ties, g_most_ties := PySem.W.mg_of X G a_most_ties, b_most_ties := F_most_ties.binds (ps := ["count", "size"]) (fun _ _ _ _ _ _ us hl => match us, hl with | [_, _], _ => rfl),
    f__law_pick := f__law_pick, fd__law_pick := _, F__law_pick := F__law_pick, g__law_pick := PySem.W.mg_of X G a__law_pick, b__law_pick := F__law_pick.binds (ps := ["draws", "row"]) (fun _ _ _ _ _ _ us hl => match us, hl with | [_, _], _ => rfl),
    f__law_tied := f__law_tied, fd__law_tied := _, F__law_tied := F__law_tied, g__law_tied := PySem.W.mg_of X G a__law_tied, b__law_tied := F__law_tied.binds (ps := ["web", "a", "b"]) (fun _ _ _ _ _ _ us hl => match us, hl with | [_, _, _], _ => rfl),
    f__law_shown := f__law_shown, fd__law_shown := _, F__law_shown := F__law_shown, g__law_shown := PySem.W.mg_of X G a__law_shown, b__law_shown := F__law_shown.binds (ps := ["web"]) (fun _ _ _ _ _ _ us hl => match us, hl with | [_], _ => rfl),
    f_all_tied_part := f_all_tied_part, fd_all_tied_part := _, F_all_tied_part := F_all_tied_part, g_all_tied_part := PySem.W.mg_of X G a_all_tied_part, b_all_tied_part := F_all_tied_part.binds (ps := ["web", "size"]) (fun _ _ _ _ _ _ us hl => match us, hl with | [_, _], _ => rfl),
    f_great_ones := f_great_ones, fd_great_ones := _, F_great_ones := F_great_ones, g_great_ones := PySem.W.mg_of X G a_great_ones, b_great_ones := F_great_ones.binds (ps := ["web"]) (fun _ _ _ _ _ _ us hl => match us, hl with | [_], _ => rfl),
    f_greatest_tied := f_greatest_tied, fd_greatest_tied := _, F_greatest_tied := F_greatest_tied, g_greatest_tied := PySem.W.mg_of X G a_greatest_tied, b_greatest_tied := F_greatest_tied.binds (ps := ["web"]) (fun _ _ _ _ _ _ us hl => match us, hl with | [_], _ => rfl),
    f_law := fa, fd_law := _, F_law := F_law, g_law := PySem.W.mg_of X G a_law, b_law := F_law.binds (ps := ["script"]) (fun _ _ _ _ _ _ us hl => match us, hl with | [_], _ => rfl), m_all := PySem.W.mg_none_of X G z_all,
    m_bool := PySem.W.mg_none_of X G z_bool,
    m_enumerate := PySem.W.mg_none_of X G z_enumerate,
    m_int := PySem.W.mg_none_of X G z_int,
    m_isinstance := PySem.W.mg_none_of X G z_isinstance,
    m_len := PySem.W.mg_none_of X G z_len,
    m_list := PySem.W.mg_none_of X G z_list,
    m_max := PySem.W.mg_none_of X G z_max,
    m_min := PySem.W.mg_none_of X G z_min,
    m_range := PySem.W.mg_none_of X G z_range,
    m_sorted := PySem.W.mg_none_of X G z_sorted,
    m_str := PySem.W.mg_none_of X G z_str,
    m_tuple := PySem.W.mg_none_of X G z_tuple,
    c_MOST_PLACES := ⟨_, PySem.W.mg_of X G y_MOST_PLACES⟩ }, rfl, fun s v => .of_eq rfl⟩
  obtain ⟨T, rfl, hb⟩ := T
  exact ⟨T.fd_law, hb, fun base _ _ => ok_law T 0⟩
end K58

set_option Elab.async false
set_option linter.all false
set_option maxRecDepth 100000
set_option maxHeartbeats 4000000
namespace K58
open Wv Wl K02 PySem
local macro_rules | `(tactic| trivial) => `(tactic| (simp only [List.length_map, List.length_append, List.length_cons, List.length_nil, List.length_range, List.length_reverse, List.length_set]; omega))
local macro_rules | `(tactic| trivial) => `(tactic| (simp [Function.comp_def]; done))
local macro_rules | `(tactic| trivial) => `(tactic| assumption)
local macro_rules | `(tactic| trivial) => `(tactic| omega)
def fullB (n : Nat) (E : Nat → Nat → Bool) (row : List Nat) : Bool := decide (2 * ec (ad n E) row + row.length = row.length * row.length)
theorem even_sq (l : Nat) : ∃ k, l * l = 2 * k + l := by
  induction l with
  | zero => exact ⟨0, rfl⟩
  | succ l ih =>
    obtain ⟨k, hk⟩ := ih
    exact ⟨k + l, by rw [Nat.add_mul, Nat.mul_add]; omega⟩
theorem mem_row_im (row : List Nat) (hr : row.length ≤ 1000) (a : Nat) : inH false [.o (.im (.int (a : Nat))), .o (.im (rwI row))] = .ok (vB (decide (a ∈ row))) := by
  have q := in_tup false (intI a) (row.map intI) (by simp) (by simp)
  have m : intI a ∈ row.map intI ↔ a ∈ row := mem_intI
  simpa [m] using q
theorem law_full_ok (n : Nat) (E : Nat → Nat → Bool) (hn : n ≤ 60) (row : List Nat) (nd : row.Nodup) (hl : ∀ a ∈ row, a < n) (hr : row.length ≤ 60) : φ__law_full [.o (.im (webE n E)), .o (.im (rwI row))] = .ok (vB (fullB n E row), []) := by
  have hm := mem_row_im row (by omega)
  have tl := tsE_len n E
  refine Tr.eq ?_
  simp (disch := trivial) [φ__law_full, fs__law_full]
  rw [lcL_pure (fun p => decide (p.1 ∈ row) && decide (p.2 ∈ row)) tieD (by
    intro p hp
    have h1 := hm p.1
    have h2 := hm p.2
    simp (disch := trivial) [h1, h2])]
  have e := ties_in n E row nd hl
  obtain ⟨k, hk⟩ := even_sq row.length
  have ef : ((row.length : Int) * ((row.length : Int) - 1)).fdiv 2 = k := by
    have : (row.length : Int) * ((row.length : Int) - 1) = 2 * (k : Int) := by
      rw [Int.mul_sub, Int.mul_one]
      have : ((row.length * row.length : Nat) : Int) = ((2 * k + row.length : Nat) : Int) := by rw [hk]
      simp only [Int.natCast_mul, Int.natCast_add] at this
      omega
    rw [this]
    rw [Int.fdiv_eq_ediv_of_nonneg _ (by omega)]; omega
  have bl : bndI (row.length : Int) = true := by simp; omega
  simp (disch := trivial) [e, mul_li, ef]
  have : decide (ec (ad n E) row = k) = fullB n E row := by
    unfold fullB
    rw [hk]
    exact decide_eq_decide.mpr ⟨fun h => by omega, fun h => by omega⟩
  rw [this]
  exact ⟨_, rfl, rfl⟩
theorem fullB_iff (n : Nat) (E : Nat → Nat → Bool) (row : List Nat) : fullB n E row = true ↔ row.Pairwise fun a b => ad n E a b = true := by
  unfold fullB
  rw [decide_eq_true_eq]; exact ec_full row
/-- the greatest number of places all tied, as the law reckons it -/
def gr (n : Nat) (E : Nat → Nat → Bool) : Nat → Nat
  | 0 => 0
  | m + 1 => if ((chs n m).filter (fullB n E)).length > 0 then m else gr n E m
theorem gr_le (n : Nat) (E : Nat → Nat → Bool) : ∀ m, gr n E m ≤ m
  | 0 => Nat.le_refl _
  | m + 1 => by
    unfold gr; split
    · omega
    · have := gr_le n E m; omega
theorem chs_len_le (n : Nat) : ∀ s, (chs n s).length ≤ n ^ s
  | 0 => by simp [chs]
  | s + 1 => by
    have ih := chs_len_le n s
    have := length_flatMap_le (fun row => (nxt n row).map fun k => row ++ [k]) n (chs n s) fun row _ => by rw [List.length_map]; exact nxt_len n row
    calc (chs n (s + 1)).length ≤ (chs n s).length * n := this
      _ ≤ n ^ s * n := Nat.mul_le_mul_right _ ih
      _ = n ^ (s + 1) := (Nat.pow_succ ..).symm
theorem law_greatest_ok (n : Nat) (E : Nat → Nat → Bool) (hn : n ≤ 7) : φ__law_greatest [.o (.im (webE n E))] = .ok (vI (gr n E (n + 1)), []) := by
  refine Tr.eq ?_
  simp (disch := trivial) [φ__law_greatest, fs__law_greatest]
  refine (forL_tr (fun ys ρ => ∃ j2, ρ = [Sl.o (Dt.im (webE n E)), .o (.im (.int (gr n E ys.length : Nat))), j2, .e]) ⟨_, rfl⟩ ?_).bind ?_
  · rintro ys m zs _ e ⟨j2, rfl⟩
    obtain ⟨hy, hm⟩ := range_split e
    subst hy
    rw [List.length_range]
    have hc := law_choices_ok n m (by omega) (by omega)
    have hf : ∀ row ∈ chs n m, φ__law_full [.o (.im (webE n E)), .o (.im (rwI row))] = .ok (vB (fullB n E row), []) := fun row hr => by
      obtain ⟨h1, h2, h3⟩ := mem_chs.mp hr
      exact law_full_ok n E (by omega) row (h1.imp fun {a b} h => by omega) h2 (by omega)
    have hlen := chs_len_le n m
    have hpw : n ^ m ≤ 16000000 := Nat.le_trans (Nat.pow_le_pow_left hn m) (Nat.le_trans (Nat.pow_le_pow_right (by omega) (show m ≤ 7 by omega)) (by decide))
    have hfl := List.length_filter_le (fullB n E) (chs n m)
    refine Tr.gen fun P hP => ?_
    have fin : ∀ j2, P (.nx [Sl.o (Dt.im (webE n E)), .o (.im (.int (gr n E (m + 1) : Nat))), j2, .e]) := fun j2 => hP _ ⟨_, rfl, j2, by simp⟩
    simp only [gr] at fin
    have hc : φ__law_choices [vI n, vI m] = _ := hc
    simp (disch := trivial) [hc]
    rw [lcL_pure (fullB n E) rwD (by
      intro row hr
      have := hf row hr
      simp (disch := trivial) [this])]
    generalize ((chs n m).filter (fullB n E)) = F at *
    by_cases c : 0 < F.length
    · simp (disch := trivial) [c] at fin ⊢
      exact ⟨_, rfl, fin _⟩
    · simp (disch := trivial) [c] at fin ⊢
      exact ⟨_, rfl, fin _⟩
  · rintro u ⟨_, rfl, j2, rfl⟩
    rw [List.length_range]
    simp (disch := trivial)
    exact ⟨_, rfl, rfl⟩
theorem gr_ge (n : Nat) (E : Nat → Nat → Bool) : ∀ m s, s < m → (∃ row ∈ chs n s, fullB n E row = true) → s ≤ gr n E m
  | 0, s, h, _ => by omega
  | m + 1, s, h, ⟨row, h1, h2⟩ => by
    unfold gr
    split
    · omega
    · rename_i c
      by_cases e : s = m
      · subst e
        exact absurd (List.length_pos_of_mem (List.mem_filter.mpr ⟨h1, h2⟩)) c
      · exact gr_ge n E m s (by omega) ⟨row, h1, h2⟩
theorem gr_ex (n : Nat) (E : Nat → Nat → Bool) : ∀ m, ∃ row ∈ chs n (gr n E m), fullB n E row = true
  | 0 => ⟨[], by simp [gr, chs], (fullB_iff n E []).mpr .nil⟩
  | m + 1 => by
    unfold gr
    split
    · rename_i c
      obtain ⟨row, hr⟩ := List.exists_mem_of_length_pos c
      exact ⟨row, (List.mem_filter.mp hr).1, (List.mem_filter.mp hr).2⟩
    · exact gr_ex n E m
theorem clq_perm {n : Nat} {E : Nat → Nat → Bool} {l : List Nat} (h : Clq n E l) : l.Perm ((List.range n).filter fun x => decide (x ∈ l)) := by
  refine (List.perm_ext_iff_of_nodup h.1 (List.nodup_range.filter _)).mpr fun x => ?_
  simp only [List.mem_filter, List.mem_range, decide_eq_true_eq]
  exact ⟨fun z => ⟨h.2.1 x z, z⟩, fun z => z.2⟩
theorem clq_chs {n : Nat} {E : Nat → Nat → Bool} {l : List Nat} (h : Clq n E l) : ∃ row ∈ chs n l.length, fullB n E row = true := by
  have pm := clq_perm h
  obtain ⟨h1, h2, h3⟩ := h
  refine ⟨_, mem_chs.mpr ⟨List.pairwise_lt_range.filter _, fun a ha => List.mem_range.mp (List.mem_filter.mp ha).1, pm.length_eq.symm⟩, (fullB_iff n E _).mpr ?_⟩
  exact (pm.pairwise_iff (fun {a b} h => by rw [ad_comm]; exact h)).mp h3
theorem clq_le {n : Nat} {E : Nat → Nat → Bool} {l : List Nat} (h : Clq n E l) : l.length ≤ n := by
  have p := (clq_perm h).length_eq
  have := List.length_filter_le (fun x => decide (x ∈ l)) (List.range n)
  rw [List.length_range] at this; omega
/-- gr is the greatest number -/
theorem gr_max {n : Nat} {E : Nat → Nat → Bool} {l : List Nat} (h : Clq n E l) : l.length ≤ gr n E (n + 1) := gr_ge n E (n + 1) l.length (by have := clq_le h; omega) (clq_chs h)
theorem gr_clq (n : Nat) (E : Nat → Nat → Bool) : ∃ l, Clq n E l ∧ l.length = gr n E (n + 1) := by
  obtain ⟨row, h1, h2⟩ := gr_ex n E (n + 1)
  obtain ⟨k1, k2, k3⟩ := mem_chs.mp h1
  exact ⟨row, ⟨k1.imp fun {a b} h => by omega, k2, (fullB_iff n E row).mp h2⟩, k3⟩
end K58

set_option Elab.async false
set_option linter.all false
set_option maxRecDepth 100000
set_option maxHeartbeats 4000000
namespace K58
open Wv Wl K02 PySem
local macro_rules | `(tactic| trivial) => `(tactic| (simp only [List.length_map, List.length_append, List.length_cons, List.length_nil, List.length_range, List.length_reverse, List.length_set]; omega))
local macro_rules | `(tactic| trivial) => `(tactic| (simp [Function.comp_def]; done))
local macro_rules | `(tactic| trivial) => `(tactic| assumption)
local macro_rules | `(tactic| trivial) => `(tactic| omega)
theorem tsE_mv (n : Nat) (E : Nat → Nat → Bool) (p q : Nat) (hp : p < n) :
    tsE n (Eof ((tsE n E).filter (fun t => decide (p ≠ t.1) && decide (p ≠ t.2)) ++ ((nb n E q).filter fun x => decide (x ≠ p)).map fun x => (p, x))) = tsE n (mvE n E p q) := by
  refine List.filter_congr fun t ht => ?_
  obtain ⟨h1, h2⟩ := mem_pairsN.mp ht
  obtain ⟨a, b⟩ := t
  simp only at h1 h2
  rw [Bool.eq_iff_iff]
  simp only [Eof, decide_eq_true_eq, List.mem_append, List.mem_filter, mem_tsE, List.mem_map, mem_nb, Prod.mk.injEq, Bool.and_eq_true]
  unfold mvE
  by_cases ca : a = p
  · subst ca
    rw [if_pos rfl]
    constructor
    · rintro ((⟨_, h, _⟩ | ⟨x, ⟨hx, _⟩, _, rfl⟩) | (⟨_, _, h⟩ | ⟨x, ⟨hx, hx2⟩, e1, e2⟩))
      · exact absurd rfl h
      · exact hx
      · exact absurd rfl h
      · omega
    · intro h
      exact .inl (.inr ⟨b, ⟨h, by omega⟩, rfl, rfl⟩)
  · rw [if_neg ca]
    by_cases cb : b = p
    · subst cb
      rw [if_pos rfl]
      constructor
      · rintro ((⟨_, _, h⟩ | ⟨x, ⟨hx, _⟩, e, _⟩) | (⟨_, h, _⟩ | ⟨x, ⟨hx, hx2⟩, _, e2⟩))
        · exact absurd rfl h
        · omega
        · exact absurd rfl h
        · subst e2; exact hx
      · intro h
        exact .inr (.inr ⟨a, ⟨h, ca⟩, rfl, rfl⟩)
    · rw [if_neg cb]
      constructor
      · rintro ((⟨⟨_, _, h⟩, _⟩ | ⟨x, _, e, _⟩) | (⟨⟨h, _⟩, _⟩ | ⟨x, _, e, _⟩))
        · exact h
        · omega
        · omega
        · omega
      · intro h
        exact .inl (.inl ⟨⟨h1, h2, h⟩, fun e => ca e.symm, fun e => cb e.symm⟩)
theorem moved_ok (n : Nat) (E : Nat → Nat → Bool) (hn : n ≤ 60) (p q : Nat) (hp : p < n) (hq : q < n) : φ_moved [.o (.im (webE n E)), vI p, vI q] = .ok (.o (.im (webE n (mvE n E p q))), []) := by
  have tl := tsE_len n E
  have nn : n * n ≤ 60 * 60 := Nat.mul_le_mul hn hn
  have nl : (nb n E q).length ≤ n := by
    have := List.length_filter_le (fun b => ad n E q b) (List.range n)
    simpa [nb] using this
  have w := web_of_lok n ((tsE n E).filter (fun t => decide (p ≠ t.1) && decide (p ≠ t.2)) ++ ((nb n E q).filter fun x => decide (x ≠ p)).map fun x => (p, x)) (by
    have h1 := List.length_filter_le (fun t : Nat × Nat => decide (p ≠ t.1) && decide (p ≠ t.2)) (tsE n E)
    have h2 := List.length_filter_le (fun x => decide (x ≠ p)) (nb n E q)
    rw [List.length_append, List.length_map]; omega) (by
    intro t ht
    rcases List.mem_append.mp ht with ht | ht
    · have := mem_tsE.mp (List.mem_filter.mp ht).1; omega
    · obtain ⟨x, hx, rfl⟩ := List.mem_map.mp ht
      have := (ad_lt (mem_nb.mp (List.mem_filter.mp hx).1)).2.1
      exact ⟨hp, this⟩)
  rw [show webE n (Eof _) = webE n (mvE n E p q) by simp only [webE]; rw [tsE_mv n E p q hp]] at w
  have ne := neighbours_ok n E (by omega : n ≤ 1000)
  refine Tr.eq ?_
  simp (disch := trivial) [φ_moved, fs_moved]
  rw [lcL_pure (fun t => decide (p ≠ t.1) && decide (p ≠ t.2)) tieD (by
    rintro ⟨a, b⟩ ht
    have q := in_tup true (intI p) [intI a, intI b] (by simp) (by simp)
    simp at q
    simp (disch := trivial) [q])]
  have hrest := List.length_filter_le (fun t : Nat × Nat => decide (p ≠ t.1) && decide (p ≠ t.2)) (tsE n E)
  generalize (tsE n E).filter (fun t => decide (p ≠ t.1) && decide (p ≠ t.2)) = rest at *
  simp (disch := trivial) [ne]
  rw [lcL_pure (fun x => decide (x ≠ p)) (fun x => tieD (p, x)) (by
    intro x hx
    simp (disch := trivial) [tieD, tieI])]
  have hf := List.length_filter_le (fun x => decide (x ≠ p)) (nb n E q)
  generalize (nb n E q).filter (fun x => decide (x ≠ p)) = more at *
  simp [Function.comp_def] at w
  simp (disch := trivial) [Function.comp_def, w]
  exact ⟨_, rfl, rfl⟩
theorem better_ok (n : Nat) (E : Nat → Nat → Bool) (hn : n ≤ 60) (a b c : Nat) (h : Thr n E a b c) : φ_better [.o (.im (webE n E)), .o (.im (.tup [intI a, intI b, intI c]))] = .ok (.o (.im (webE n (bet n E a b c))), []) := by
  obtain ⟨h1, h2, h3, h4, h5⟩ := h.ne
  have hc := h.lt
  have ne := neighbours_ok n E (by omega : n ≤ 1000)
  have m1 := moved_ok n E hn c a hc h1
  have m2 := moved_ok n E hn c b hc h2
  have m3 := moved_ok n E hn a c h1 hc
  have m4 := moved_ok n (mvE n E a c) hn b c h2 hc
  refine Tr.eq ?_
  simp (disch := trivial) [φ_better, fs_better, ne]
  rw [lcL_map (fun k => intD (deg n E k)) (by intro k hk; simp (disch := trivial) [deg])]
  by_cases hd : deg n E c < max (deg n E a) (deg n E b)
  · have hc1 : (deg n E c : Int) < if deg n E a < deg n E b then (deg n E b : Int) else (deg n E a : Int) := by split <;> omega
    by_cases hab : deg n E b ≤ deg n E a
    · have e : bet n E a b c = mvE n E c a := by unfold bet; rw [if_pos hd, if_pos hab]
      rw [e]
      simp (disch := trivial) [hab, m1, hc1]
      exact ⟨_, rfl, rfl⟩
    · have e : bet n E a b c = mvE n E c b := by unfold bet; rw [if_pos hd, if_neg hab]
      rw [e]
      simp (disch := trivial) [hab, m2, hc1]
      exact ⟨_, rfl, rfl⟩
  · have e : bet n E a b c = mvE n (mvE n E a c) b c := by unfold bet; rw [if_neg hd]
    have hc1 : ¬ ((deg n E c : Int) < if deg n E a < deg n E b then (deg n E b : Int) else (deg n E a : Int)) := by split <;> omega
    rw [e]
    simp (disch := trivial) [m3, m4, hc1]
    exact ⟨_, rfl, rfl⟩
end K58

set_option Elab.async false
set_option linter.all false
set_option maxRecDepth 100000
set_option maxHeartbeats 4000000
namespace K58
open Wv Wl K02 PySem
local macro_rules | `(tactic| trivial) => `(tactic| (simp only [List.length_map, List.length_append, List.length_cons, List.length_nil, List.length_range, List.length_reverse, List.length_set]; omega))
local macro_rules | `(tactic| trivial) => `(tactic| (simp [Function.comp_def]; done))
local macro_rules | `(tactic| trivial) => `(tactic| assumption)
local macro_rules | `(tactic| trivial) => `(tactic| omega)
abbrev T3 := Nat × Nat × Nat
def tri : List Nat → List T3
  | [a, b, c] => [(a, b, c), (a, c, b), (b, c, a)]
  | _ => []
def isT (n : Nat) (E : Nat → Nat → Bool) (t : T3) : Bool := ad n E t.1 t.2.1 && (!ad n E t.1 t.2.2 && !ad n E t.2.1 t.2.2)
def thr (n : Nat) (E : Nat → Nat → Bool) : Option T3 := ((chs n 3).flatMap tri).find? (isT n E)
theorem row3 {n : Nat} {row : List Nat} (h : row ∈ chs n 3) : ∃ a b c, row = [a, b, c] ∧ a < b ∧ b < c ∧ c < n := by
  obtain ⟨h1, h2, h3⟩ := mem_chs.mp h
  match row, h3 with
  | [a, b, c], _ =>
    simp at h1
    exact ⟨a, b, c, rfl, h1.1.1, h1.2, h2 c (by simp)⟩
theorem thr_some {n : Nat} {E : Nat → Nat → Bool} {t : T3} (h : thr n E = some t) : Thr n E t.1 t.2.1 t.2.2 := by
  have h1 := List.find?_some h
  have h2 := List.mem_of_find?_eq_some h
  simp only [isT, Bool.and_eq_true, Bool.not_eq_true'] at h1
  obtain ⟨row, hr, ht⟩ := List.mem_flatMap.mp h2
  obtain ⟨a, b, c, rfl, l1, l2, l3⟩ := row3 hr
  refine ⟨h1.1, h1.2.1, h1.2.2, ?_⟩
  simp [tri] at ht
  rcases ht with rfl | rfl | rfl <;> simp only <;> omega
theorem thr_none {n : Nat} {E : Nat → Nat → Bool} (h : thr n E = none) (x y z : Nat) (hx : x < n) (hy : y < n) (hz : z < n) (t : ad n E x y = true) (u : ad n E x z = false) : z = x ∨ ad n E y z = true := by
  by_cases e : z = x
  · exact .inl e
  by_cases e2 : z = y
  · subst e2; rw [t] at u; cases u
  have ne := (ad_lt t).2.2
  right
  cases hyz : ad n E y z with
  | true => rfl
  | false =>
    have hn := List.find?_eq_none.mp h
    have key : ∀ a b c, a < b → b < c → c < n → ∀ t ∈ tri [a, b, c], isT n E t = false := fun a b c h1 h2 h3 t ht => by
      have := hn t (List.mem_flatMap.mpr ⟨[a, b, c], mem_chs.mpr ⟨by simp; omega, fun x hx => by simp at hx; omega, rfl⟩, ht⟩)
      simpa using this
    have sy : ∀ p q r, isT n E (p, q, r) = isT n E (q, p, r) := fun p q r => by
      simp only [isT, ad_comm n E p q, Bool.and_comm (!ad n E p r)]
    have bad : isT n E (x, y, z) = true := by simp [isT, t, u, hyz]
    have bad2 : isT n E (y, x, z) = true := by rw [sy]; exact bad
    rcases Nat.lt_or_gt_of_ne ne with h1 | h1
    · rcases Nat.lt_or_gt_of_ne e2 with h2 | h2
      · rcases Nat.lt_or_gt_of_ne e with h3 | h3
        · have := key z x y h3 h1 hy (x, y, z) (by simp [tri]); rw [this] at bad; cases bad
        · have := key x z y h3 h2 hy (x, y, z) (by simp [tri]); rw [this] at bad; cases bad
      · have := key x y z h1 h2 hz (x, y, z) (by simp [tri]); rw [this] at bad; cases bad
    · rcases Nat.lt_or_gt_of_ne e2 with h2 | h2
      · have := key z y x h2 h1 hx (y, x, z) (by simp [tri]); rw [this] at bad2; cases bad2
      · rcases Nat.lt_or_gt_of_ne e with h3 | h3
        · have := key y z x h2 h3 hx (y, x, z) (by simp [tri]); rw [this] at bad2; cases bad2
        · have := key y x z h1 h3 hz (y, x, z) (by simp [tri]); rw [this] at bad2; cases bad2
/-- without a three: not tied is the same for both -/
theorem eqv {n : Nat} {E : Nat → Nat → Bool} (h : thr n E = none) {x y : Nat} (hx : x < n) (hy : y < n) (e : ad n E x y = false) (z : Nat) (hz : z < n) : ad n E x z = ad n E y z := by
  cases q : ad n E x z with
  | true =>
    rcases thr_none h x z y hx hz hy q e with r | r
    · rw [r, q]
    · rw [ad_comm, r]
  | false =>
    cases q2 : ad n E y z with
    | false => rfl
    | true =>
      rcases thr_none h y z x hy hz hx q2 (by rw [ad_comm]; exact e) with r | r
      · rw [r, q2] at q; cases q
      · rw [ad_comm, r] at q; cases q
def cls (n : Nat) (E : Nat → Nat → Bool) (k : Nat) : List Nat := (List.range n).filter fun j => !ad n E k j
theorem mem_cls {n : Nat} {E : Nat → Nat → Bool} {k j : Nat} : j ∈ cls n E k ↔ j < n ∧ ad n E k j = false := by simp [cls]
theorem cls_eq {n : Nat} {E : Nat → Nat → Bool} (h : thr n E = none) {x y : Nat} (hx : x < n) (hy : y < n) : cls n E x = cls n E y ↔ ad n E x y = false := by
  constructor
  · intro e
    have : y ∈ cls n E y := mem_cls.mpr ⟨hy, ad_irr _ _ _⟩
    rw [← e] at this
    exact (mem_cls.mp this).2
  · intro e
    exact List.filter_congr fun z hz => by rw [eqv h hx hy e z (List.mem_range.mp hz)]
def fstB (n : Nat) (E : Nat → Nat → Bool) (k : Nat) : Bool := (List.range k).all fun j => ad n E j k
def partsU (n : Nat) (E : Nat → Nat → Bool) (m : Nat) : List (List Nat) := ((List.range m).filter (fstB n E)).map (cls n E)
theorem least {p : Nat → Prop} [DecidablePred p] : ∀ m, (∃ j, j < m ∧ p j) → ∃ j, j < m ∧ p j ∧ ∀ i, i < j → ¬ p i
  | 0, ⟨j, h, _⟩ => by omega
  | m + 1, ⟨j, h, hp⟩ => by
    by_cases c : ∃ j, j < m ∧ p j
    · obtain ⟨i, h1, h2, h3⟩ := least m c
      exact ⟨i, by omega, h2, h3⟩
    · have : j = m := Classical.byContradiction fun q => c ⟨j, by omega, hp⟩
      subst this
      exact ⟨j, by omega, hp, fun i hi hpi => c ⟨i, hi, hpi⟩⟩
theorem mem_partsU {n : Nat} {E : Nat → Nat → Bool} (h : thr n E = none) {m : Nat} (hm : m < n) : cls n E m ∈ partsU n E m ↔ fstB n E m = false := by
  simp only [partsU, List.mem_map, List.mem_filter, List.mem_range]
  constructor
  · rintro ⟨k, ⟨hk, _⟩, e⟩
    have := (cls_eq h (by omega) hm).mp e
    unfold fstB
    rw [List.all_eq_false]
    exact ⟨k, List.mem_range.mpr hk, by rw [this]; decide⟩
  · intro q
    unfold fstB at q
    rw [List.all_eq_false] at q
    obtain ⟨j, hj, hj2⟩ := q
    obtain ⟨k, h1, h2, h3⟩ := least (p := fun j => ad n E j m = false) m ⟨j, List.mem_range.mp hj, by simpa using hj2⟩
    refine ⟨k, ⟨h1, ?_⟩, (cls_eq h (by omega) hm).mpr h2⟩
    unfold fstB
    rw [List.all_eq_true]
    intro i hi
    have hi := List.mem_range.mp hi
    cases q : ad n E i k with
    | true => rfl
    | false =>
      have := eqv h (by omega) (by omega) q m hm
      exact absurd (by rw [this]; exact h2) (h3 i hi)
theorem partsU_succ (n : Nat) (E : Nat → Nat → Bool) (m : Nat) : partsU n E (m + 1) = partsU n E m ++ if fstB n E m = true then [cls n E m] else [] := by
  unfold partsU
  rw [List.range_succ, List.filter_append, List.map_append]
  cases q : fstB n E m <;> simp [q]
end K58

set_option Elab.async false
set_option linter.all false
set_option maxRecDepth 100000
set_option maxHeartbeats 4000000
namespace K58
open Wv Wl K02 PySem
local macro_rules | `(tactic| trivial) => `(tactic| (simp only [List.length_map, List.length_append, List.length_cons, List.length_nil, List.length_range, List.length_reverse, List.length_set]; omega))
local macro_rules | `(tactic| trivial) => `(tactic| (simp [Function.comp_def]; done))
local macro_rules | `(tactic| trivial) => `(tactic| assumption)
local macro_rules | `(tactic| trivial) => `(tactic| omega)
abbrev partsL (n : Nat) (E : Nat → Nat → Bool) : List (List Nat) := partsU n E n
abbrev thI (t : T3) : Im := .tup [.str "three", .tup [intI t.1, intI t.2.1, intI t.2.2]]
def encT (t : T3) : Itm := .one (.im (.tup [intI t.1, intI t.2.1, intI t.2.2]))
def shI (n : Nat) (E : Nat → Nat → Bool) : Im := match thr n E with
  | some t => thI t
  | none => .tup [.str "parts", .tup ((partsL n E).map rwI)]
theorem law_shown_ok (n : Nat) (E : Nat → Nat → Bool) (hn : n ≤ 7) : φ__law_shown [.o (.im (webE n E))] = .ok (.o (.im (shI n E)), []) := by
  have hc : φ__law_choices [vI n, vI 3] = _ := law_choices_ok n 3 (by omega) (by omega)
  have ht := law_tied_ok n E
  refine Tr.eq ?_
  simp (disch := trivial) [φ__law_shown, fs__law_shown, hc]
  refine (forL_trS (fun ys ρ => ∃ j3 j4 j5 j7 j8 j9, ρ = [Sl.o (Dt.im (webE n E)), .e, .e, j3, j4, j5, .e, j7, j8, j9, .e] ∧ ∀ t ∈ ys.flatMap tri, isT n E t = false)
    (fun u => (∃ j3 j4 j5 j7 j8 j9, u = .nx [Sl.o (Dt.im (webE n E)), .e, .e, j3, j4, j5, .e, j7, j8, j9, .e] ∧ thr n E = none) ∨ ∃ t ρ', u = .rt (.o (.im (thI t))) ρ' ∧ thr n E = some t)
    ⟨_, _, _, _, _, _, rfl, by simp⟩ ?_ ?_).bind ?_
  · rintro ys row zs _ e ⟨j3, j4, j5, j7, j8, j9, rfl, h0⟩
    obtain ⟨a, b, c, rfl, l1, l2, l3⟩ := row3 (by rw [e]; simp : row ∈ chs n 3)
    refine Tr.gen fun P hP => ?_
    simp (disch := trivial)
    have el : [Itm.one (Dt.im (Im.tup [intI a, intI b, intI c])), Itm.one (Dt.im (Im.tup [intI a, intI c, intI b])), Itm.one (Dt.im (Im.tup [intI b, intI c, intI a]))] = (tri [a, b, c]).map encT := rfl
    rw [el]
    refine (forL_trS (fun ts ρ => ∃ j7 j8 j9, ρ = [Sl.o (Dt.im (webE n E)), .e, .e, .o (intD a), .o (intD b), .o (intD c), .e, j7, j8, j9, .e] ∧ ∀ t ∈ ts, isT n E t = false)
      (fun u => (∃ j7 j8 j9, u = .nx [Sl.o (Dt.im (webE n E)), .e, .e, .o (intD a), .o (intD b), .o (intD c), .e, j7, j8, j9, .e] ∧ ∀ t ∈ tri [a, b, c], isT n E t = false) ∨ ∃ t ρ', u = .rt (.o (.im (thI t))) ρ' ∧ ∃ us vs, tri [a, b, c] = us ++ t :: vs ∧ (∀ t ∈ us, isT n E t = false) ∧ isT n E t = true)
      ⟨_, _, _, rfl, by simp⟩ ?_ ?_).bind ?_
    · rintro us ⟨x, y, z⟩ vs _ e' ⟨j7, j8, j9, rfl, h1⟩
      refine Tr.gen fun P hP => ?_
      by_cases c1 : isT n E (x, y, z) = true
      · have c2 := c1
        simp only [isT, Bool.and_eq_true, Bool.not_eq_true'] at c2
        simp (disch := trivial) [ht, c2.1, c2.2.1, c2.2.2, encT]
        exact ⟨_, rfl, hP _ (.inr ⟨(x, y, z), _, rfl, us, vs, e', h1, c1⟩)⟩
      · have c1 : isT n E (x, y, z) = false := by simpa using c1
        have fin : P (.nx [Sl.o (Dt.im (webE n E)), .e, .e, .o (intD a), .o (intD b), .o (intD c), .e, .o (intD x), .o (intD y), .o (intD z), .e]) := hP _ ⟨_, _, _, rfl, fun t ht => by
          rcases List.mem_append.mp ht with ht | ht
          · exact h1 t ht
          · simp at ht; subst ht; exact c1⟩
        have c2 := c1
        simp only [isT] at c2
        cases q1 : ad n E x y <;> cases q2 : ad n E x z <;> cases q3 : ad n E y z <;> rw [q1, q2, q3] at c2 <;> first | (simp at c2; done) | (simp (disch := trivial) [ht, q1, q2, q3, encT]; exact ⟨_, rfl, fin⟩)
    · rintro _ ⟨j7, j8, j9, rfl, h1⟩
      exact .inl ⟨_, _, _, rfl, h1⟩
    · rintro u (⟨j7, j8, j9, rfl, h1⟩ | ⟨t, ρ', rfl, us, vs, e', h1, h2⟩)
      · simp
        refine ⟨_, rfl, hP _ ⟨_, _, _, _, _, _, rfl, fun t ht => ?_⟩⟩
        rw [List.flatMap_append] at ht
        rcases List.mem_append.mp ht with ht | ht
        · exact h0 t ht
        · exact h1 t (by simpa using ht)
      · simp
        refine ⟨_, rfl, hP _ (.inr ⟨t, _, rfl, ?_⟩)⟩
        unfold thr
        rw [e, List.flatMap_append, List.flatMap_cons, e', List.find?_append, List.find?_eq_none.mpr (fun t ht => by rw [h0 t ht]; decide), List.append_assoc, List.find?_append, List.find?_eq_none.mpr (fun t ht => by rw [h1 t ht]; decide)]
        simp [h2]
  · rintro _ ⟨j3, j4, j5, j7, j8, j9, rfl, h0⟩
    refine .inl ⟨_, _, _, _, _, _, rfl, ?_⟩
    unfold thr
    rw [List.find?_eq_none]
    intro t ht; rw [h0 t ht]; decide
  · rintro u (⟨j3, j4, j5, j7, j8, j9, rfl, h0⟩ | ⟨t, ρ', rfl, h0⟩)
    · simp (disch := trivial)
      refine (forL_tr (fun ys ρ => ∃ j2 j3 j4 j5 j6 j7 j8 j9, ρ = [Sl.o (Dt.im (webE n E)), .o (.lst ((partsU n E ys.length).map rwD)), j2, j3, j4, j5, j6, j7, j8, j9, .e]) ⟨_, _, _, _, _, _, _, _, rfl⟩ ?_).bind ?_
      · rintro ys m zs _ e ⟨j2, j3, j4, j5, j6, j7, j8, j9, rfl⟩
        obtain ⟨hy, hm⟩ := range_split e
        subst hy
        rw [List.length_range]
        refine Tr.gen fun P hP => ?_
        simp (disch := trivial)
        rw [lcL_pure (fun j => !ad n E m j) intD (by
          intro j hj
          simp (disch := trivial) [ht])]
        have hin := in_lst true (rwI (cls n E m)) (.b (.lst ((partsU n E m).map rwD))) ((partsU n E m).map rwI) (by simp [Function.comp_def]) (by simp) (by simp)
        have hpl : (partsU n E m).length ≤ m := by
          have := List.length_filter_le (fstB n E) (List.range m)
          simpa [partsU] using this
        have hmem : (rwI (cls n E m) ∈ (partsU n E m).map rwI) ↔ cls n E m ∈ partsU n E m := by
          constructor
          · intro z
            obtain ⟨y, hy, e⟩ := List.mem_map.mp z
            rw [← rwI_inj e]; exact hy
          · exact fun z => List.mem_map.mpr ⟨_, z, rfl⟩
        have hfb := mem_partsU h0 hm
        have ps := partsU_succ n E m
        have fin : P (.nx [Sl.o (Dt.im (webE n E)), .o (.lst ((partsU n E (m + 1)).map rwD)), .o (intD m), j3, j4, j5, .o (rwD (cls n E m)), j7, j8, j9, .e]) := hP _ ⟨_, rfl, .o (intD m), j3, j4, j5, .o (rwD (cls n E m)), j7, j8, j9, by simp⟩
        rw [ps] at fin
        have ecl : (List.range n).filter (fun j => !ad n E m j) = cls n E m := rfl
        have hcl : (cls n E m).length ≤ n := by
          have := List.length_filter_le (fun j => !ad n E m j) (List.range n)
          simpa [cls] using this
        rw [ecl]
        simp only [hmem, hfb] at hin
        generalize cls n E m = C at *
        generalize partsU n E m = U at *
        cases hf : fstB n E m
        · rw [hf] at fin
          simp [hf] at hin
          simp at fin
          have ha := add_bo (U.map rwD) [] (by simp) rfl (by simp; omega)
          simp at ha
          simp (disch := trivial) [hin, ha]
          exact ⟨_, rfl, fin⟩
        · rw [hf] at fin
          simp [hf] at hin
          simp at fin
          simp (disch := trivial) [hin]
          exact ⟨_, rfl, fin⟩
      · rintro u ⟨_, rfl, j2, j3, j4, j5, j6, j7, j8, j9, rfl⟩
        rw [List.length_range]
        simp (disch := trivial)
        refine ⟨_, rfl, ?_⟩
        unfold shI; rw [h0]
    · simp
      refine ⟨_, rfl, ?_⟩
      unfold shI; rw [h0]
end K58

set_option Elab.async false
set_option linter.all false
set_option maxRecDepth 100000
set_option maxHeartbeats 4000000
namespace K58
open Wv Wl K02 PySem
local macro_rules | `(tactic| trivial) => `(tactic| (simp only [List.length_map, List.length_append, List.length_cons, List.length_nil, List.length_range, List.length_reverse, List.length_set]; omega))
local macro_rules | `(tactic| trivial) => `(tactic| (simp [Function.comp_def]; done))
local macro_rules | `(tactic| trivial) => `(tactic| assumption)
local macro_rules | `(tactic| trivial) => `(tactic| omega)
@[simp] theorem updH_o (l m : List (Im × Dt)) (h : allIm m = true) (hl : l.length + m.length ≤ 16777216) : updH (.dic false l) [.o (.dic false m)] = .ok (.dic false (putAll l m), vN) := by
  simp only [updH, d_o, isB_o, h, SZ_nat, hl, and_self, if_true]
theorem addN_len : ∀ (C ks : List Nat), (C.foldl addN ks).length ≤ ks.length + C.length
  | [], _ => by simp
  | c :: C, ks => by
    have h1 := addN_len C (addN ks c)
    have h2 : (addN ks c).length ≤ ks.length + 1 := by unfold addN; split <;> simp
    rw [List.foldl_cons, List.length_cons]; omega
theorem puts_setL : ∀ (C ks : List Nat), C.foldl (fun a x => put a (intI x) (Dt.im (.bl true))) (setL ks) = setL (C.foldl addN ks)
  | [], _ => rfl
  | c :: C, ks => by rw [List.foldl_cons, put_setL, puts_setL C]; rfl
theorem parts_shown_ok (n : Nat) (E : Nat → Nat → Bool) (hn : n ≤ 7) : φ_parts_shown [.o (.im (webE n E))] = .ok (.o (.im (shI n E)), []) := by
  have hc : φ_choices 24 [vI n, vI 3] = _ := choices_ok n (by omega) 3 24 (by omega) (by omega) fun t ht => by
    have h1 := chs_len_le n t
    have h2 : n ^ t ≤ 7 ^ t := Nat.pow_le_pow_left hn t
    have h3 : 7 ^ t ≤ 7 ^ 3 := Nat.pow_le_pow_right (by omega) ht
    omega
  have ht := tied_ok n E
  have hlook := look_at_ok n E (by omega : n ≤ 60)
  have ne := neighbours_ok n E (by omega : n ≤ 1000)
  refine Tr.eq ?_
  simp (disch := trivial) [φ_parts_shown, fs_parts_shown, hc, hlook]
  refine (forL_trS (fun ys ρ => ∃ j3 j4 j5 j7 j8 j9, ρ = [Sl.o (Dt.im (webE n E)), .e, .e, .e, .e, j3, j4, j5, j7, j8, j9, .e] ∧ ∀ t ∈ ys.flatMap tri, isT n E t = false)
    (fun u => (∃ j3 j4 j5 j7 j8 j9, u = .nx [Sl.o (Dt.im (webE n E)), .e, .e, .e, .e, j3, j4, j5, j7, j8, j9, .e] ∧ thr n E = none) ∨ ∃ t ρ', u = .rt (.o (.im (thI t))) ρ' ∧ thr n E = some t)
    ⟨_, _, _, _, _, _, rfl, by simp⟩ ?_ ?_).bind ?_
  · rintro ys row zs _ e ⟨j3, j4, j5, j7, j8, j9, rfl, h0⟩
    obtain ⟨a, b, c, rfl, l1, l2, l3⟩ := row3 (by rw [e]; simp : row ∈ chs n 3)
    refine Tr.gen fun P hP => ?_
    simp (disch := trivial)
    have el : [Itm.one (Dt.im (Im.tup [intI a, intI b, intI c])), Itm.one (Dt.im (Im.tup [intI a, intI c, intI b])), Itm.one (Dt.im (Im.tup [intI b, intI c, intI a]))] = (tri [a, b, c]).map encT := rfl
    rw [el]
    refine (forL_trS (fun ts ρ => ∃ j7 j8 j9, ρ = [Sl.o (Dt.im (webE n E)), .e, .e, .e, .e, .o (intD a), .o (intD b), .o (intD c), j7, j8, j9, .e] ∧ ∀ t ∈ ts, isT n E t = false)
      (fun u => (∃ j7 j8 j9, u = .nx [Sl.o (Dt.im (webE n E)), .e, .e, .e, .e, .o (intD a), .o (intD b), .o (intD c), j7, j8, j9, .e] ∧ ∀ t ∈ tri [a, b, c], isT n E t = false) ∨ ∃ t ρ', u = .rt (.o (.im (thI t))) ρ' ∧ ∃ us vs, tri [a, b, c] = us ++ t :: vs ∧ (∀ t ∈ us, isT n E t = false) ∧ isT n E t = true)
      ⟨_, _, _, rfl, by simp⟩ ?_ ?_).bind ?_
    · rintro us ⟨x, y, z⟩ vs _ e' ⟨j7, j8, j9, rfl, h1⟩
      refine Tr.gen fun P hP => ?_
      by_cases c1 : isT n E (x, y, z) = true
      · have c2 := c1
        simp only [isT, Bool.and_eq_true, Bool.not_eq_true'] at c2
        simp (disch := trivial) [ht, c2.1, c2.2.1, c2.2.2, encT]
        exact ⟨_, rfl, hP _ (.inr ⟨(x, y, z), _, rfl, us, vs, e', h1, c1⟩)⟩
      · have c1 : isT n E (x, y, z) = false := by simpa using c1
        have fin : P (.nx [Sl.o (Dt.im (webE n E)), .e, .e, .e, .e, .o (intD a), .o (intD b), .o (intD c), .o (intD x), .o (intD y), .o (intD z), .e]) := hP _ ⟨_, _, _, rfl, fun t ht => by
          rcases List.mem_append.mp ht with ht | ht
          · exact h1 t ht
          · simp at ht; subst ht; exact c1⟩
        have c2 := c1
        simp only [isT] at c2
        cases q1 : ad n E x y <;> cases q2 : ad n E x z <;> cases q3 : ad n E y z <;> rw [q1, q2, q3] at c2 <;> first | (simp at c2; done) | (simp (disch := trivial) [ht, q1, q2, q3, encT]; exact ⟨_, rfl, fin⟩)
    · rintro _ ⟨j7, j8, j9, rfl, h1⟩
      exact .inl ⟨_, _, _, rfl, h1⟩
    · rintro u (⟨j7, j8, j9, rfl, h1⟩ | ⟨t, ρ', rfl, us, vs, e', h1, h2⟩)
      · simp
        refine ⟨_, rfl, hP _ ⟨_, _, _, _, _, _, rfl, fun t ht => ?_⟩⟩
        rw [List.flatMap_append] at ht
        rcases List.mem_append.mp ht with ht | ht
        · exact h0 t ht
        · exact h1 t (by simpa using ht)
      · simp
        refine ⟨_, rfl, hP _ (.inr ⟨t, _, rfl, ?_⟩)⟩
        unfold thr
        rw [e, List.flatMap_append, List.flatMap_cons, e', List.find?_append, List.find?_eq_none.mpr (fun t ht => by rw [h0 t ht]; decide), List.append_assoc, List.find?_append, List.find?_eq_none.mpr (fun t ht => by rw [h1 t ht]; decide)]
        simp [h2]
  · rintro _ ⟨j3, j4, j5, j7, j8, j9, rfl, h0⟩
    refine .inl ⟨_, _, _, _, _, _, rfl, ?_⟩
    unfold thr
    rw [List.find?_eq_none]
    intro t ht; rw [h0 t ht]; decide
  · rintro u (⟨j3, j4, j5, j7, j8, j9, rfl, h0⟩ | ⟨t, ρ', rfl, h0⟩)
    · simp (disch := trivial) [ne]
      refine (forL_tr (fun ys ρ => ∃ ks j4 j5 j6 j7 j8 j9 j10 j11, ρ = [Sl.o (Dt.im (webE n E)), .o (.dic false (setL ks)), .o (.lst ((partsU n E ys.length).map rwD)), .o (rowsD n (nb n E)), j4, j5, j6, j7, j8, j9, j10, j11] ∧ ks.Nodup ∧ ∀ j, j ∈ ks ↔ j < n ∧ ∃ k, k < ys.length ∧ fstB n E k = true ∧ ad n E k j = false) ⟨[], _, _, _, _, _, _, _, _, rfl, by simp, by simp⟩ ?_).bind ?_
      · rintro ys m zs _ e ⟨ks, j4, j5, j6, j7, j8, j9, j10, j11, rfl, nd, hk⟩
        obtain ⟨hy, hm⟩ := range_split e
        subst hy
        rw [List.length_range] at hk ⊢
        have hpl : (partsU n E m).length ≤ m := by
          have := List.length_filter_le (fstB n E) (List.range m)
          simpa [partsU] using this
        have hkl : ks.length ≤ n := nodup_lt_len nd fun x hx => ((hk x).mp hx).1
        have hms : m ∈ ks ↔ fstB n E m = false := by
          rw [hk, ← mem_partsU h0 hm]
          simp only [partsU, List.mem_map, List.mem_filter, List.mem_range]
          constructor
          · rintro ⟨_, k, h1, h2, h3⟩
            exact ⟨k, ⟨h1, h2⟩, (cls_eq h0 (by omega) hm).mpr h3⟩
          · rintro ⟨k, ⟨h1, h2⟩, h3⟩
            exact ⟨hm, k, h1, h2, (cls_eq h0 (by omega) hm).mp h3⟩
        have ps := partsU_succ n E m
        have hcl : (cls n E m).length ≤ n := by
          have := List.length_filter_le (fun j => !ad n E m j) (List.range n)
          simpa [cls] using this
        refine Tr.gen fun P hP => ?_
        cases hf : fstB n E m
        · rw [hf] at hms ps
          have c2 : ¬ look (setL ks) (Im.int m) = none := by rw [look_setL_none]; simpa using hms
          have fin : P (.nx [Sl.o (Dt.im (webE n E)), .o (.dic false (setL ks)), .o (.lst ((partsU n E (m + 1)).map rwD)), .o (rowsD n (nb n E)), .o (intD m), j5, j6, j7, j8, j9, j10, j11]) := hP _ ⟨_, rfl, ks, .o (intD m), j5, j6, j7, j8, j9, j10, j11, by simp, nd, fun j => by
            rw [hk]; simp only [List.length_append, List.length_range, List.length_cons, List.length_nil]
            constructor
            · rintro ⟨h1, k, h2, h3⟩; exact ⟨h1, k, by omega, h3⟩
            · rintro ⟨h1, k, h2, h3, h4⟩
              refine ⟨h1, k, ?_, h3, h4⟩
              have : k ≠ m := fun z => by rw [z, hf] at h3; cases h3
              omega⟩
          rw [ps] at fin
          simp at fin
          simp (disch := trivial) [c2]
          exact ⟨_, rfl, fin⟩
        · rw [hf] at hms ps
          have c2 : look (setL ks) (Im.int m) = none := by rw [look_setL_none]; simpa using hms
          have fin : ∀ j8, P (.nx [Sl.o (Dt.im (webE n E)), .o (.dic false (setL (((cls n E m).foldl addN []).foldl addN ks))), .o (.lst ((partsU n E (m + 1)).map rwD)), .o (rowsD n (nb n E)), .o (intD m), j5, j6, j7, j8, j9, j10, .o (rwD (cls n E m))]) := fun j8 => hP _ ⟨_, rfl, ((cls n E m).foldl addN []).foldl addN ks, .o (intD m), j5, j6, j7, j8, j9, j10, .o (rwD (cls n E m)), by simp, nodup_addNs nd, fun j => by
            rw [mem_addNs, mem_addNs, hk, mem_cls]; simp only [List.length_append, List.length_range, List.length_cons, List.length_nil, List.not_mem_nil, false_or]
            constructor
            · rintro (⟨h1, k, h2, h3⟩ | h1)
              · exact ⟨h1, k, by omega, h3⟩
              · exact ⟨h1.1, m, by omega, hf, h1.2⟩
            · rintro ⟨h1, k, h2, h3, h4⟩
              by_cases c : k = m
              · subst c; exact .inr ⟨h1, h4⟩
              · exact .inl ⟨h1, k, by omega, h3, h4⟩⟩
          rw [ps] at fin
          simp at fin
          simp (disch := trivial) [c2]
          rw [lcL_pure (fun j => !ad n E m j) intD (by
            intro j hj
            have hin := in_lst true (intI j) (.b (.lst ((nb n E m).map intD))) ((nb n E m).map intI) (by simp [Function.comp_def]) (by simp) (by simp)
            simp at hin
            have hb : ad n E m j = decide (j ∈ nb n E m) := by rw [Bool.eq_iff_iff, decide_eq_true_eq, mem_nb]
            by_cases c : j = m
            · subst c
              simp (disch := trivial) [ad_irr]
            · simp (disch := trivial) [c, hin, hb])]
          have ecl : (List.range n).filter (fun j => !ad n E m j) = cls n E m := rfl
          rw [ecl]
          generalize cls n E m = C at *
          generalize partsU n E m = U at *
          simp (disch := trivial)
          rw [dcL_pure (fun _ => true) intI (fun _ => .im (.bl true)) (by rw [SZ_nat]; simp; omega) (by intro x hx; simp)]
          rw [filter_true, foldl_pair, show C.foldl (fun a x => put a (intI x) (Dt.im (.bl true))) [] = setL (C.foldl addN []) from puts_setL C []]
          have cl := addN_len C []
          generalize List.foldl addN [] C = D at *
          simp at fin cl
          simp (disch := trivial) [putAll_setL]
          exact ⟨_, rfl, fin _⟩
      · rintro u ⟨_, rfl, ks, j4, j5, j6, j7, j8, j9, j10, j11, rfl, nd, hk⟩
        rw [List.length_range]
        simp (disch := trivial)
        refine ⟨_, rfl, ?_⟩
        unfold shI; rw [h0]
    · simp
      refine ⟨_, rfl, ?_⟩
      unfold shI; rw [h0]
end K58

set_option Elab.async false
set_option linter.all false
set_option maxRecDepth 100000
set_option maxHeartbeats 4000000
namespace Wl
open Wv PySem
/-- the greatest of some numbers -/
theorem bestI_max : ∀ (l : List Nat) (a m : Nat), m ∈ a :: l → (∀ x ∈ a :: l, x ≤ m) → bestI true (intI a) (l.map intI) = intI m
  | [], a, m, h, _ => by simp at h; subst h; rfl
  | y :: l, a, m, h, k => by
    have e : bestI true (intI a) ((y :: l).map intI) = bestI true (if ltI (intI a) (intI y) = true then intI y else intI a) (l.map intI) := rfl
    rw [e]
    have ha := k a (by simp)
    have hy := k y (by simp)
    by_cases c : a < y
    · rw [if_pos ((ltI_int a y).mpr c)]
      refine bestI_max l y m ?_ fun x hx => k x (by simp at hx ⊢; rcases hx with rfl | hx <;> simp [*])
      rcases List.mem_cons.mp h with rfl | h
      · omega
      · exact h
    · rw [if_neg (fun z => c ((ltI_int a y).mp z))]
      refine bestI_max l a m ?_ fun x hx => k x (by simp at hx ⊢; rcases hx with rfl | hx <;> simp [*])
      rcases List.mem_cons.mp h with rfl | h
      · simp
      · rcases List.mem_cons.mp h with rfl | h
        · have : m = a := by omega
          subst this; simp
        · exact List.mem_cons_of_mem _ h
/-- the web of the pairs that a test takes -/
theorem tsE_filter (n : Nat) (f : Nat × Nat → Bool) : tsE n (Eof ((pairsN n).filter f)) = (pairsN n).filter f := by
  refine (tsE_of ((pairsN_sorted n).filter _) fun p => ?_).symm
  obtain ⟨a, b⟩ := p
  simp only [List.mem_filter, mem_pairsN, Eof, decide_eq_true_eq]
  constructor
  · rintro ⟨⟨h1, h2⟩, h3⟩; exact ⟨h1, h2, .inl ⟨⟨h1, h2⟩, h3⟩⟩
  · rintro ⟨h1, h2, h | h⟩
    · exact h
    · exact absurd h.1.1 (by omega)
/-- a part of the pairs, in their order, is the ties of its web -/
theorem tsE_sub {n : Nat} {l : List (Nat × Nat)} (h : l.Sublist (pairsN n)) : tsE n (Eof l) = l := by
  refine (tsE_of (List.Pairwise.sublist h (pairsN_sorted n)) fun p => ?_).symm
  obtain ⟨a, b⟩ := p
  have hm : ∀ q ∈ l, q.1 < q.2 ∧ q.2 < n := fun q hq => mem_pairsN.mp (h.subset hq)
  simp only [Eof, decide_eq_true_eq]
  constructor
  · intro z; have := hm _ z; exact ⟨this.1, this.2, .inl z⟩
  · rintro ⟨h1, h2, z | z⟩
    · exact z
    · exact absurd (hm _ z).1 (by simp only; omega)
end Wl
namespace K58
open Wv Wl K02 PySem
/-! ## the web of parts -/
def PW (p a b : Nat) : Bool := decide (a % p ≠ b % p)
theorem PW_len (n p : Nat) (hp : p ≠ 0) : (tsE n (PW p)).length = Tn n p := by
  unfold Tn; rw [if_neg hp]; rfl
theorem dvd_eq {a b p : Nat} (h : a < b) (hp : 0 < p) : ((b - a) / p * p ≠ b - a) ↔ a % p ≠ b % p := by
  refine not_congr ⟨fun e => ?_, fun e => ?_⟩
  · have : b = a + p * ((b - a) / p) := by rw [Nat.mul_comm]; omega
    rw [this, Nat.add_mul_mod_self_left]
  · have := Nat.sub_mod_eq_zero_of_mod_eq e.symm
    exact Nat.div_mul_cancel (Nat.dvd_of_mod_eq_zero this)
/-- all webs of some pairs: the lists of ties -/
def subs : List (Nat × Nat) → List (List (Nat × Nat)) → List (List (Nat × Nat))
  | [], L => L
  | p :: ps, L => subs ps (L ++ L.map fun l => l ++ [p])
theorem subs_len : ∀ (ps : List (Nat × Nat)) (L : List (List (Nat × Nat))), (subs ps L).length = L.length * 2 ^ ps.length
  | [], L => by simp [subs]
  | p :: ps, L => by
    rw [subs, subs_len ps]; simp [Nat.pow_succ]
    rw [← Nat.mul_two, Nat.mul_assoc, Nat.mul_comm 2]
theorem subs_app : ∀ (ps qs : List (Nat × Nat)) (L : List (List (Nat × Nat))), subs (ps ++ qs) L = subs qs (subs ps L)
  | [], _, _ => rfl
  | p :: ps, qs, L => by rw [List.cons_append, subs, subs_app ps qs]; rfl
theorem subs_mono : ∀ (ps : List (Nat × Nat)) (L : List (List (Nat × Nat))), ∀ l ∈ L, l ∈ subs ps L
  | [], _, _, h => h
  | p :: ps, L, l, h => subs_mono ps _ l (List.mem_append_left _ h)
theorem subs_sub : ∀ (ps qs : List (Nat × Nat)) (L : List (List (Nat × Nat))), (∀ l ∈ L, l.Sublist qs) → ∀ l ∈ subs ps L, l.Sublist (qs ++ ps)
  | [], qs, L, h, l, hl => by rw [List.append_nil]; exact h l hl
  | p :: ps, qs, L, h, l, hl => by
    have := subs_sub ps (qs ++ [p]) (L ++ L.map fun l => l ++ [p]) (fun m hm => by
      rcases List.mem_append.mp hm with hm | hm
      · exact (h m hm).trans (List.sublist_append_left _ _)
      · obtain ⟨k, hk, rfl⟩ := List.mem_map.mp hm
        exact (h k hk).append (List.Sublist.refl _)) l hl
    simpa using this
theorem subs_all : ∀ (ps l qs : List (Nat × Nat)) (L : List (List (Nat × Nat))), l.Sublist ps → qs ∈ L → qs ++ l ∈ subs ps L
  | [], l, qs, L, h, hq => by
    have : l = [] := by simpa using h
    subst this; simpa [subs] using hq
  | p :: ps, l, qs, L, h, hq => by
    rw [subs]
    cases h with
    | cons _ h => exact subs_all ps l qs _ h (List.mem_append_left _ hq)
    | cons_cons _ h =>
      rename_i l
      have := subs_all ps l (qs ++ [p]) (L ++ L.map fun l => l ++ [p]) h (List.mem_append_right _ (List.mem_map.mpr ⟨qs, hq, rfl⟩))
      simpa using this
end K58

set_option Elab.async false
set_option linter.all false
set_option maxRecDepth 100000
set_option maxHeartbeats 4000000
namespace Wl
open Wv PySem
@[simp] theorem cut_s1 {α : Type} (l : List α) (i : Nat) : cutL l (some ((i : Int) + 1)) none = l.drop (i + 1) := cut_lo l (i + 1)
theorem enItems_row (row : List Nat) : enItems (row.map intD) = (List.range row.length).map fun (k : Nat) => Itm.two (intD k) (intD (pl row k)) := by
  unfold enItems
  refine List.ext_getElem (by simp) fun i h1 h2 => ?_
  simp at h1 h2
  simp [pl, h1]
theorem pw_flat (R : Nat → Nat → Bool) (row : List Nat) : ((List.range row.length).flatMap fun k => (row.drop (k + 1)).map fun b => R (pl row k) b).all id = true ↔ row.Pairwise fun a b => R a b = true := by
  rw [List.all_eq_true, List.pairwise_iff_getElem]
  simp only [List.mem_flatMap, List.mem_map, List.mem_range, id_eq]
  constructor
  · intro h i j hi hj hij
    refine h _ ⟨i, hi, row[j], ?_, by rw [pl_get hi]⟩
    rw [List.mem_iff_getElem]
    exact ⟨j - (i + 1), by simp; omega, by simp; congr 1; omega⟩
  · rintro h _ ⟨k, hk, b, hb, rfl⟩
    obtain ⟨j, hj, rfl⟩ := List.mem_iff_getElem.mp hb
    simp at hj
    rw [pl_get hk, List.getElem_drop]
    exact h k (k + 1 + j) hk (by omega) (by omega)
end Wl
namespace K58
open Wv Wl K02 PySem
local macro_rules | `(tactic| trivial) => `(tactic| (simp only [List.length_map, List.length_append, List.length_cons, List.length_nil, List.length_range, List.length_reverse, List.length_set]; omega))
local macro_rules | `(tactic| trivial) => `(tactic| (simp [Function.comp_def]; done))
local macro_rules | `(tactic| trivial) => `(tactic| assumption)
local macro_rules | `(tactic| trivial) => `(tactic| omega)
def fstI (n : Nat) (E : Nat → Nat → Bool) (s : Nat) : Im := match (chs n s).find? (fullB n E) with
  | some r => rwI r
  | none => .non
theorem all_tied_part_ok (n : Nat) (E : Nat → Nat → Bool) (hn : n ≤ 7) (s : Nat) (hs : s ≤ 7) : φ_all_tied_part [.o (.im (webE n E)), vI s] = .ok (.o (.im (fstI n E s)), []) := by
  have hc : φ_choices 24 [vI n, vI s] = _ := choices_ok n (by omega) s 24 (by omega) (by omega) fun t ht => by
    have h1 := chs_len_le n t
    have h2 : n ^ t ≤ 7 ^ t := Nat.pow_le_pow_left hn t
    have h3 : 7 ^ t ≤ 7 ^ 7 := Nat.pow_le_pow_right (by omega) (by omega)
    omega
  have hlook := look_at_ok n E (by omega : n ≤ 60)
  refine Tr.eq ?_
  simp (disch := trivial) [φ_all_tied_part, fs_all_tied_part, hc, hlook]
  refine (forL_trS (fun ys ρ => ∃ j2, ρ = [Sl.o (Dt.im (webE n E)), .o (.im (.int s)), j2, .e, .e, .e] ∧ ∀ r ∈ ys, fullB n E r = false)
    (fun u => (∃ j2, u = .nx [Sl.o (Dt.im (webE n E)), .o (.im (.int s)), j2, .e, .e, .e] ∧ (chs n s).find? (fullB n E) = none) ∨ ∃ r ρ', u = .rt (.o (.im (rwI r))) ρ' ∧ (chs n s).find? (fullB n E) = some r)
    ⟨_, rfl, by simp⟩ ?_ ?_).bind ?_
  · rintro ys row zs _ e ⟨j2, rfl, h0⟩
    have hr : row ∈ chs n s := by rw [e]; simp
    obtain ⟨h1, h2, h3⟩ := mem_chs.mp hr
    have ht := tied_ok n E
    refine Tr.gen fun P hP => ?_
    simp (disch := trivial)
    rw [show List.map (Dt.im ∘ fun x : Nat => Im.int x) row = row.map intD from rfl, show (row.map intD).zipIdx.map (fun p => Itm.two (Dt.im (Im.int p.2)) p.1) = (List.range row.length).map (fun (k : Nat) => Itm.two (intD k) (intD (pl row k))) from enItems_row row]
    rw [lc2L_pure (fun k => (row.drop (k + 1)).map fun b => Dt.im (.bl (ad n E (pl row k) b))) 1000 ?len (by
      intro k hk acc hacc
      have := List.mem_range.mp hk
      simp (disch := trivial)
      rw [← List.map_drop, lc2I_pure (fun _ => true) (fun b => Dt.im (.bl (ad n E (pl row k) b))) (by simp at hacc ⊢; omega) (by
        intro b hb
        simp (disch := trivial) [ht])]
      simp)]
    case len =>
      have := length_flatMap_le (fun k => (row.drop (k + 1)).map fun b => Dt.im (.bl (ad n E (pl row k) b))) 7 (List.range row.length) (fun x _ => by
        rw [List.length_map, List.length_drop]; omega)
      rw [List.length_range] at this
      simp only [List.length_nil]; omega
    have eb : (List.range row.length).flatMap (fun k => (row.drop (k + 1)).map fun b => Dt.im (.bl (ad n E (pl row k) b))) = ((List.range row.length).flatMap fun k => (row.drop (k + 1)).map fun b => ad n E (pl row k) b).map fun b => Dt.im (.bl b) := by
      rw [List.map_flatMap]; simp [Function.comp_def]
    have ea : ((List.range row.length).flatMap fun k => (row.drop (k + 1)).map fun b => ad n E (pl row k) b).all id = fullB n E row := by
      rw [Bool.eq_iff_iff, pw_flat, fullB_iff]
    rw [eb]
    generalize ((List.range row.length).flatMap fun k => (row.drop (k + 1)).map fun b => ad n E (pl row k) b) = bs at *
    cases hf : fullB n E row
    · rw [hf] at ea
      simp (disch := trivial) [ea]
      refine ⟨_, rfl, hP _ ⟨_, rfl, fun r hr => ?_⟩⟩
      rcases List.mem_append.mp hr with hr | hr
      · exact h0 r hr
      · simp at hr; subst hr; exact hf
    · rw [hf] at ea
      simp (disch := trivial) [ea]
      refine ⟨_, rfl, hP _ (.inr ⟨row, _, rfl, ?_⟩)⟩
      rw [e, List.find?_append, List.find?_eq_none.mpr (fun t ht => by rw [h0 t ht]; decide)]
      simp [hf]
  · rintro _ ⟨j2, rfl, h0⟩
    refine .inl ⟨_, rfl, ?_⟩
    rw [List.find?_eq_none]
    intro r hr; rw [h0 r hr]; decide
  · rintro u (⟨j2, rfl, h0⟩ | ⟨r, ρ', rfl, h0⟩)
    · simp
      refine ⟨_, rfl, ?_⟩
      unfold fstI; rw [h0]
    · simp
      refine ⟨_, rfl, ?_⟩
      unfold fstI; rw [h0]
end K58

set_option Elab.async false
set_option linter.all false
set_option maxRecDepth 100000
set_option maxHeartbeats 4000000
namespace K58
open Wv Wl K02 PySem
local macro_rules | `(tactic| trivial) => `(tactic| (simp only [List.length_map, List.length_append, List.length_cons, List.length_nil, List.length_range, List.length_reverse, List.length_set]; omega))
local macro_rules | `(tactic| trivial) => `(tactic| (simp [Function.comp_def]; done))
local macro_rules | `(tactic| trivial) => `(tactic| assumption)
local macro_rules | `(tactic| trivial) => `(tactic| omega)
def pwL (n p : Nat) : List (Nat × Nat) := (List.range n).flatMap fun a => ((List.range a).filter fun b => PW p a b).map fun b => (a, b)
theorem mem_pwL {n p : Nat} {q : Nat × Nat} : q ∈ pwL n p ↔ q.1 < n ∧ q.2 < q.1 ∧ PW p q.1 q.2 = true := by
  obtain ⟨a, b⟩ := q
  simp only [pwL, List.mem_flatMap, List.mem_map, List.mem_filter, List.mem_range, Prod.mk.injEq]
  constructor
  · rintro ⟨x, hx, y, ⟨hy, hp⟩, rfl, rfl⟩; exact ⟨hx, hy, hp⟩
  · rintro ⟨h1, h2, h3⟩; exact ⟨a, h1, b, ⟨h2, h3⟩, rfl, rfl⟩
theorem PW_comm (p a b : Nat) : PW p a b = PW p b a := by
  unfold PW; exact decide_eq_decide.mpr ⟨fun h e => h e.symm, fun h e => h e.symm⟩
theorem tsE_pw (n p : Nat) : tsE n (Eof (pwL n p)) = tsE n (PW p) := by
  refine tsE_ext fun a b h k => ?_
  rw [Bool.eq_iff_iff]
  simp only [Eof, decide_eq_true_eq, mem_pwL]
  constructor
  · rintro (⟨_, h2, _⟩ | ⟨_, _, h3⟩)
    · omega
    · rw [PW_comm]; exact h3
  · intro z; exact .inr ⟨k, h, by rw [PW_comm]; exact z⟩
theorem pwL_len (n p : Nat) : (pwL n p).length ≤ n * n := by
  have := length_flatMap_le (fun a => ((List.range a).filter fun b => PW p a b).map fun b => (a, b)) n (List.range n) fun a ha => by
    have := List.length_filter_le (fun b => PW p a b) (List.range a)
    have := List.mem_range.mp ha
    simp at *; omega
  rw [List.length_range] at this; exact this
theorem fmod_nat (a p : Nat) : (a : Int).fmod (p : Int) = ((a % p : Nat) : Int) := by
  rw [Int.fmod_eq_emod_of_nonneg _ (by omega)]; simp
theorem parted_web_ok (n p : Nat) (hn : n ≤ 60) (hp : 0 < p) (hp2 : p ≤ 1000) : φ_parted_web [vI n, vI p] = .ok (.o (.im (webE n (PW p))), []) := by
  have w := web_of_lok n (pwL n p) (by
    have := pwL_len n p
    have h3 : n * n ≤ 60 * 60 := Nat.mul_le_mul hn hn
    omega) (fun q hq => by
    have := mem_pwL.mp hq; omega)
  rw [show webE n (Eof (pwL n p)) = webE n (PW p) by simp only [webE]; rw [tsE_pw]] at w
  have pl := pwL_len n p
  have h3 : n * n ≤ 60 * 60 := Nat.mul_le_mul hn hn
  have p0 : ¬ p = 0 := by omega
  refine Tr.eq ?_
  simp (disch := trivial) [φ_parted_web, fs_parted_web]
  rw [lc2L_pure (fun a => ((List.range a).filter fun b => PW p a b).map fun b => tieD (a, b)) 100000 ?len (by
    intro a ha acc hacc
    have := List.mem_range.mp ha
    have hla : acc.length ≤ 100000 := by omega
    simp (disch := trivial) only [lc2S_ap, tgM_nm1, putI_im, List.length_cons, List.length_nil, R.bind_ok, lc2G_ap, yesT_ap, lc2T_ap]
    simp (disch := trivial)
    rw [lc2I_pure (fun b => PW p a b) (fun b => tieD (a, b)) (by simp; omega) (by
      intro b hb
      simp (disch := trivial) [p0]
      have hc : ((a : Int).fmod p = (b : Int).fmod p) ↔ a % p = b % p := by rw [fmod_nat, fmod_nat]; omega
      simp only [hc, PW]
      split <;> simp_all [tieD, tieI])]
    simp)]
  case len =>
    have e : ((List.range n).flatMap fun a => ((List.range a).filter fun b => PW p a b).map fun b => tieD (a, b)) = (pwL n p).map tieD := by
      unfold pwL; rw [List.map_flatMap]; simp [Function.comp_def]
    rw [e]; simp; omega
  have e : ((List.range n).flatMap fun a => ((List.range a).filter fun b => PW p a b).map fun b => tieD (a, b)) = (pwL n p).map tieD := by
    unfold pwL; rw [List.map_flatMap]; simp [Function.comp_def]
  rw [e]
  simp (disch := trivial) [Function.comp_def, w]
  exact ⟨_, rfl, rfl⟩
theorem most_ties_ok (n s : Nat) (hn : n ≤ 60) (hs : s ≤ 1000) : φ_most_ties [vI n, vI s] = .ok (vI (if 1 < s then Tn n (s - 1) else 0 : Nat), []) := by
  refine Tr.eq ?_
  by_cases c : 1 < s
  · have w := parted_web_ok n (s - 1) hn (by omega) (by omega)
    rw [show ((s - 1 : Nat) : Int) = (s : Int) - 1 by omega] at w
    have e := PW_len n (s - 1) (by omega)
    have c' : (1 : Int) < s := by omega
    simp (disch := trivial) [φ_most_ties, fs_most_ties, c, c', w, e]
    exact ⟨_, rfl, rfl⟩
  · have c' : ¬ (1 : Int) < s := by omega
    simp (disch := trivial) [φ_most_ties, fs_most_ties, c, c']
    exact ⟨_, rfl, rfl⟩
end K58

set_option Elab.async false
set_option linter.all false
set_option maxRecDepth 100000
set_option maxHeartbeats 4000000
namespace K58
open Wv Wl K02 PySem
local macro_rules | `(tactic| trivial) => `(tactic| (simp only [List.length_map, List.length_append, List.length_cons, List.length_nil, List.length_range, List.length_reverse, List.length_set]; omega))
local macro_rules | `(tactic| trivial) => `(tactic| (simp [Function.comp_def]; done))
local macro_rules | `(tactic| trivial) => `(tactic| assumption)
local macro_rules | `(tactic| trivial) => `(tactic| omega)
abbrev EW := Nat → Nat → Bool
/-- webs on the way -/
inductive Rt (n : Nat) (E : EW) : List EW → EW → Prop
  | one : Rt n E [] E
  | step {pre F a b c} : Rt n E pre F → Thr n F a b c → Rt n E (pre ++ [F]) (bet n F a b c)
theorem Rt.len {n : Nat} {E : EW} {pre : List EW} {F : EW} (h : Rt n E pre F) : pre.length ≤ (tsE n F).length := by
  induction h with
  | one => simp
  | step _ t ih => have := bet_more t; simp; omega
theorem Rt.head {n : Nat} {E : EW} {pre : List EW} {F : EW} (h : Rt n E pre F) : ∃ r, pre ++ [F] = E :: r := by
  induction h with
  | one => exact ⟨[], rfl⟩
  | step _ t ih => obtain ⟨r, e⟩ := ih; exact ⟨_, by rw [e]; rfl⟩
/-- each has as many ties as the one before, and no greater set all tied -/
theorem Rt.next {n : Nat} {E : EW} {pre : List EW} {F : EW} (h : Rt n E pre F) : ∀ k A B, (pre ++ [F])[k]? = some A → (pre ++ [F])[k + 1]? = some B → (tsE n A).length ≤ (tsE n B).length ∧ gr n B (n + 1) ≤ gr n A (n + 1) := by
  induction h with
  | one => intro k A B _ h2; simp at h2
  | @step pre F a b c3 r t ih =>
    intro k A B h1 h2
    by_cases c : k + 1 < (pre ++ [F]).length
    · refine ih k A B ?_ ?_
      · rwa [List.getElem?_append_left (by omega)] at h1
      · rwa [List.getElem?_append_left c] at h2
    · have hk : k + 1 = (pre ++ [F]).length := by
        have : k + 1 < (pre ++ [F] ++ [bet n F a b c3]).length := by
          rw [List.getElem?_eq_some_iff] at h2
          exact h2.1
        simp at this c ⊢; omega
      have hk' : k = pre.length := by simpa using hk
      rw [hk, List.getElem?_append_right (Nat.le_refl _)] at h2
      rw [List.getElem?_append_left (by omega), hk'] at h1
      simp at h1 h2
      subst h1 h2
      refine ⟨Nat.le_of_lt (bet_more t), ?_⟩
      obtain ⟨l, h1, h2⟩ := gr_clq n (bet n F a b c3)
      obtain ⟨l', h3, h4⟩ := bet_clq t h1
      have := gr_max h3
      omega
theorem lay_th : PyData.canLay0 (.str "three") = true := by decide +kernel
theorem lay_pa : PyData.canLay0 (.str "parts") = true := by decide +kernel
theorem made_parted_ok (n : Nat) (E : EW) (hn : n ≤ 7) : Tr (φ_made_parted [.o (.im (webE n E))]) fun r => ∃ pre F, r = (.o (.im (.tup ((pre ++ [F]).map (webE n)))), []) ∧ Rt n E pre F ∧ thr n F = none := by
  have hlook := look_at_ok n E (by omega : n ≤ 60)
  have hs := parts_shown_ok n
  have l1 : Pl 60 (.str "three") = true := Pl_str lay_th
  have l2 : Pl 60 (.str "parts") = true := Pl_str lay_pa
  have e1 : (Im.str "parts" = Im.str "three") = False := by simp; decide
  have nn : n * n ≤ 7 * 7 := Nat.mul_le_mul hn hn
  refine Tr.gen fun P0 hP0 => ?_
  simp (disch := trivial) [φ_made_parted, fs_made_parted, hlook, hs E hn]
  refine (whM_tr (σ := List EW × EW) (fun s ρ => ρ = [Sl.o (Dt.im (webE n E)), .o (.lst ((s.1 ++ [s.2]).map fun F => .im (webE n F))), .o (.im (shI n s.2))] ∧ Rt n E s.1 s.2) (fun s => 50 - (tsE n s.2).length)
    (fun u => ∃ s : List EW × EW, u = .nx [Sl.o (Dt.im (webE n E)), .o (.lst ((s.1 ++ [s.2]).map fun F => .im (webE n F))), .o (.im (shI n s.2))] ∧ Rt n E s.1 s.2 ∧ thr n s.2 = none) ([], E) ⟨rfl, .one⟩ (by simp only [FU]; omega) ?_).bind ?_
  · rintro ⟨pre, F⟩ ρ ⟨rfl, hr⟩
    simp only at hr
    have hl := hr.len
    have tl := tsE_len n F
    refine Tr.gen fun P hP => ?_
    cases ht : thr n F with
    | none =>
      have eS : shI n F = .tup [.str "parts", .tup ((partsL n F).map rwI)] := by unfold shI; rw [ht]
      simp only
      rw [eS]
      simp (disch := trivial) [l1, l2, e1]
      refine ⟨_, rfl, hP _ ?_⟩
      rw [if_neg (by simp)]
      exact ⟨(pre, F), by simp [eS], hr, ht⟩
    | some t =>
      have eS : shI n F = thI t := by unfold shI; rw [ht]
      have th := thr_some ht
      have hb := better_ok n F (by omega) t.1 t.2.1 t.2.2 th
      have bm := bet_more th
      have tl2 := tsE_len n (bet n F t.1 t.2.1 t.2.2)
      have hs2 := hs (bet n F t.1 t.2.1 t.2.2) hn
      have hr2 := hr.step th
      have al := atI_last ((pre.map fun F => Dt.im (webE n F)) ++ [Dt.im (webE n F)]) (by simp)
      have al2 := atI_last ((pre.map fun F => Dt.im (webE n F)) ++ [Dt.im (webE n F)] ++ [Dt.im (webE n (bet n F t.1 t.2.1 t.2.2))]) (by simp)
      generalize bet n F t.1 t.2.1 t.2.2 = G at *
      simp only
      rw [eS]
      simp at al al2
      simp (disch := trivial) [l1, l2]
      refine ⟨_, rfl, hP _ ?_⟩
      rw [if_pos rfl]
      refine Tr.gen fun P hP => ?_
      simp (disch := trivial) [al, al2, hb, hs2]
      have c : ¬ (2000 : Int) < (pre.length : Int) + 2 := by omega
      simp (disch := trivial) [c]
      exact ⟨_, rfl, hP _ ⟨(pre ++ [F], G), ⟨by simp, hr2⟩, by simp only; omega⟩⟩
  · rintro u ⟨⟨pre, F⟩, rfl, hr, ht⟩
    have hd : dimOf ((pre.map fun F => Dt.im (webE n F)) ++ [Dt.im (webE n F)]) = some ((pre ++ [F]).map (webE n)) := by
      rw [dimOf_app _ _ (pre.map (webE n)) [webE n F] (dimOf_map' pre (webE n)) rfl]; simp
    simp (disch := trivial) [hd]
    exact ⟨_, rfl, hP0 _ ⟨pre, F, by simp, hr, ht⟩⟩
end K58

set_option Elab.async false
set_option linter.all false
set_option maxRecDepth 100000
set_option maxHeartbeats 4000000
namespace K58
open Wv Wl K02 PySem
local macro_rules | `(tactic| trivial) => `(tactic| (simp only [List.length_map, List.length_append, List.length_cons, List.length_nil, List.length_range, List.length_reverse, List.length_set]; omega))
local macro_rules | `(tactic| trivial) => `(tactic| (simp [Function.comp_def]; done))
local macro_rules | `(tactic| trivial) => `(tactic| assumption)
local macro_rules | `(tactic| trivial) => `(tactic| omega)
/-! ## great sets all tied, found by putting in places -/
structure It where
  R : List Nat
  P : List Nat
  X : List Nat
def kids (A : Nat → Nat → Bool) (R : List Nat) : List Nat → List Nat → List It
  | _, [] => []
  | X, p :: ps => ⟨R ++ [p], (p :: ps).filter (A p), X.filter (A p)⟩ :: kids A R (X ++ [p]) ps
def wt : List It → Nat
  | [] => 0
  | s :: l => 2 ^ s.P.length + wt l
theorem wt_app : ∀ a b : List It, wt (a ++ b) = wt a + wt b
  | [], _ => by simp [wt]
  | s :: a, b => by simp [wt, wt_app a b]; omega
theorem wt_kids {A : Nat → Nat → Bool} (irr : ∀ a, A a a = false) (R : List Nat) : ∀ (P X : List Nat), wt (kids A R X P) + 1 ≤ 2 ^ P.length
  | [], _ => by simp [kids, wt]
  | p :: ps, X => by
    have ih := wt_kids irr R ps (X ++ [p])
    have h1 : ((p :: ps).filter (A p)).length ≤ ps.length := by
      rw [List.filter_cons, irr p]; exact List.length_filter_le _ _
    have h2 : 2 ^ ((p :: ps).filter (A p)).length ≤ 2 ^ ps.length := Nat.pow_le_pow_right (by omega) h1
    simp only [kids, wt, List.length_cons, Nat.pow_succ]; omega
theorem kids_len (A : Nat → Nat → Bool) (R : List Nat) : ∀ (P X : List Nat), (kids A R X P).length = P.length
  | [], _ => rfl
  | p :: ps, X => by simp [kids, kids_len A R ps]
structure ItOk (n : Nat) (E : EW) (s : It) : Prop where
  clq : Clq n E s.R
  pnd : s.P.Nodup
  plt : ∀ p ∈ s.P, p < n
  pa : ∀ p ∈ s.P, ∀ r ∈ s.R, ad n E r p = true
  xlt : ∀ p ∈ s.X, p < n
  xa : ∀ p ∈ s.X, ∀ r ∈ s.R, ad n E r p = true
  sz : s.P.length + s.X.length ≤ n
  ne : s.R ≠ [] ∨ s.P ≠ [] ∨ n = 0
theorem clq_snoc {n : Nat} {E : EW} {R : List Nat} {p : Nat} (h : Clq n E R) (hp : p < n) (ha : ∀ r ∈ R, ad n E r p = true) : Clq n E (R ++ [p]) := by
  obtain ⟨h1, h2, h3⟩ := h
  refine ⟨List.nodup_append.mpr ⟨h1, by simp, fun x hx y hy e => ?_⟩, fun a hm => ?_, List.pairwise_append.mpr ⟨h3, by simp, fun a hm b hb => ?_⟩⟩
  · simp at hy; subst hy; subst e
    have := ha x hx; rw [ad_irr] at this; cases this
  · rcases List.mem_append.mp hm with hm | hm
    · exact h2 a hm
    · simp at hm; subst hm; exact hp
  · simp at hb; subst hb; exact ha a hm
theorem kids_ok {n : Nat} {E : EW} {R : List Nat} (hR : Clq n E R) : ∀ (P X : List Nat), ItOk n E ⟨R, P, X⟩ ∨ P = [] → ∀ s ∈ kids (ad n E) R X P, ItOk n E s
  | [], _, _, s, hs => by cases hs
  | p :: ps, X, h, s, hs => by
    have h := h.resolve_right (by simp)
    have hp : p < n := h.plt p (by simp)
    have hpa : ∀ r ∈ R, ad n E r p = true := h.pa p (by simp)
    rcases List.mem_cons.mp hs with rfl | hs
    · refine ⟨clq_snoc hR hp hpa, h.pnd.filter _, fun q hq => h.plt q (List.mem_filter.mp hq).1, fun q hq r hr => ?_, fun q hq => h.xlt q (List.mem_filter.mp hq).1, fun q hq r hr => ?_, ?_, .inl (by simp)⟩
      · obtain ⟨hq, hq2⟩ := List.mem_filter.mp hq
        rcases List.mem_append.mp hr with hr | hr
        · exact h.pa q hq r hr
        · simp at hr; subst hr; exact hq2
      · obtain ⟨hq, hq2⟩ := List.mem_filter.mp hq
        rcases List.mem_append.mp hr with hr | hr
        · exact h.xa q hq r hr
        · simp at hr; subst hr; exact hq2
      · have h1 := List.length_filter_le (ad n E p) (p :: ps)
        have h2 := List.length_filter_le (ad n E p) X
        have := h.sz
        simp only at this ⊢; omega
    · cases ps with
      | nil => cases hs
      | cons q ps =>
        refine kids_ok hR (q :: ps) (X ++ [p]) (.inl ⟨hR, (List.nodup_cons.mp h.pnd).2, fun q hq => h.plt q (List.mem_cons_of_mem _ hq), fun q hq => h.pa q (List.mem_cons_of_mem _ hq), fun q hq => ?_, fun q hq => ?_, ?_, .inr (.inl (by simp))⟩) s hs
        · rcases List.mem_append.mp hq with hq | hq
          · exact h.xlt q hq
          · simp at hq; subst hq; exact hp
        · rcases List.mem_append.mp hq with hq | hq
          · exact h.xa q hq
          · simp at hq; subst hq; exact hpa
        · have := h.sz
          simp at this ⊢; omega
theorem pw_mem {α : Type} {R : α → α → Prop} (sym : ∀ {a b}, R a b → R b a) : ∀ {l : List α}, l.Pairwise R → ∀ {a b}, a ∈ l → b ∈ l → a ≠ b → R a b
  | [], _, _, _, h, _, _ => by cases h
  | x :: l, h, a, b, ha, hb, ne => by
    obtain ⟨h1, h2⟩ := List.pairwise_cons.mp h
    rcases List.mem_cons.mp ha with e1 | ha'
    · rcases List.mem_cons.mp hb with e2 | hb'
      · exact absurd (e1.trans e2.symm) ne
      · rw [e1]; exact h1 b hb'
    · rcases List.mem_cons.mp hb with e2 | hb'
      · rw [e2]; exact sym (h1 a ha')
      · exact pw_mem sym h2 ha' hb' ne
/-- a set that is still to come -/
def Cov (M : List Nat) (s : It) : Prop := (∀ r ∈ s.R, r ∈ M) ∧ ∀ m ∈ M, m ∈ s.R ∨ m ∈ s.P
theorem kids_cov {n : Nat} {E : EW} {M R : List Nat} (hM : Clq n E M) : ∀ (P X : List Nat), Cov M ⟨R, P, X⟩ → (∃ m ∈ M, m ∉ R) → ∃ s ∈ kids (ad n E) R X P, Cov M s
  | [], X, h, ⟨m, h1, h2⟩ => by
    rcases h.2 m h1 with q | q
    · exact absurd q h2
    · cases q
  | p :: ps, X, h, ex => by
    by_cases c : p ∈ M
    · refine ⟨_, List.mem_cons_self, fun r hr => ?_, fun m hm => ?_⟩
      · rcases List.mem_append.mp hr with hr | hr
        · exact h.1 r hr
        · simp at hr; subst hr; exact c
      · rcases h.2 m hm with q | q
        · exact .inl (List.mem_append_left _ q)
        · by_cases e : m = p
          · subst e; exact .inl (by simp)
          · refine .inr (List.mem_filter.mpr ⟨q, ?_⟩)
            exact pw_mem (fun {a b} h => by rw [ad_comm]; exact h) hM.2.2 c hm (Ne.symm e)
    · have hp : Cov M ⟨R, ps, X ++ [p]⟩ := ⟨h.1, fun m hm => by
        rcases h.2 m hm with q | q
        · exact .inl q
        · rcases List.mem_cons.mp q with rfl | q
          · exact absurd hm c
          · exact .inr q⟩
      obtain ⟨s, hs, h2⟩ := kids_cov hM ps (X ++ [p]) hp ex
      exact ⟨s, List.mem_cons_of_mem _ hs, h2⟩
/-- at the end of the way: the set itself -/
theorem cov_end {n : Nat} {E : EW} {M : List Nat} {s : It} (hM : Clq n E M) (hm : M.length = gr n E (n + 1)) (h : Cov M s) (ok : ItOk n E s) (no : ∀ m ∈ M, m ∈ s.R) : s.R.length = M.length ∧ s.P = [] ∧ s.X = [] := by
  have h1 : s.R.length ≤ M.length := List.Nodup.length_le_of_subset ok.clq.1 fun r hr => h.1 r hr
  have h2 : M.length ≤ s.R.length := List.Nodup.length_le_of_subset hM.1 fun r hr => no r hr
  refine ⟨by omega, ?_, ?_⟩
  · cases hP : s.P with
    | nil => rfl
    | cons p ps =>
      have hp : p ∈ s.P := by rw [hP]; simp
      have := gr_max (clq_snoc ok.clq (ok.plt p hp) (ok.pa p hp))
      simp at this; omega
  · cases hP : s.X with
    | nil => rfl
    | cons p ps =>
      have hp : p ∈ s.X := by rw [hP]; simp
      have := gr_max (clq_snoc ok.clq (ok.xlt p hp) (ok.xa p hp))
      simp at this; omega
def srtN (n : Nat) (R : List Nat) : List Nat := (List.range n).filter fun x => decide (x ∈ R)
theorem srt_N {n : Nat} {E : EW} {R : List Nat} (h : Clq n E R) : srtI (R.map intI) = (srtN n R).map intI :=
  srt_ints h.1 (List.pairwise_lt_range.filter _) fun p => by
    simp only [srtN, List.mem_filter, List.mem_range, decide_eq_true_eq]
    exact ⟨fun z => z.2, fun z => ⟨h.2.1 p z, z⟩⟩
theorem srtN_clq {n : Nat} {E : EW} {R : List Nat} (h : Clq n E R) : Clq n E (srtN n R) ∧ (srtN n R).length = R.length := by
  have pm := clq_perm h
  exact ⟨⟨pm.nodup_iff.mp h.1, fun a ha => h.2.1 a (pm.mem_iff.mpr ha), (pm.pairwise_iff (fun {a b} h => by rw [ad_comm]; exact h)).mp h.2.2⟩, pm.length_eq.symm⟩
end K58

set_option Elab.async false
set_option linter.all false
set_option maxRecDepth 100000
set_option maxHeartbeats 4000000
namespace K58
open Wv Wl K02 PySem
local macro_rules | `(tactic| trivial) => `(tactic| (simp only [List.length_map, List.length_append, List.length_cons, List.length_nil, List.length_range, List.length_reverse, List.length_set]; omega))
local macro_rules | `(tactic| trivial) => `(tactic| (simp [Function.comp_def]; done))
local macro_rules | `(tactic| trivial) => `(tactic| assumption)
local macro_rules | `(tactic| trivial) => `(tactic| omega)
def itD (s : It) : Dt := .tpl [.im (rwI s.R), .lst (s.P.map intD), .lst (s.X.map intD)]
theorem intsOf_map (l : List Nat) : intsOf (l.map intD) = some (l.map Int.ofNat) := by
  induction l with
  | nil => rfl
  | cons a l ih => simp [intsOf, ih]
theorem remH_head (x : Nat) (l : List Nat) : remH (.lst ((x :: l).map intD)) [.o (.im (.int (x : Nat)))] = .ok (.lst (l.map intD), vN) := by
  have e := intsOf_map (x :: l)
  simp only [remH, e]
  simp [List.idxOf_cons]
structure GInv (n : Nat) (E : EW) (M : List Nat) (F : List (List Nat)) (st : List It) : Prop where
  ok : ∀ s ∈ st, ItOk n E s
  cl : ∀ r ∈ F, Clq n E r ∧ (r ≠ [] ∨ n = 0)
  cov : (∃ r ∈ F, r.length = M.length) ∨ ∃ s ∈ st, Cov M s
  sz : F.length + wt st ≤ 128
theorem great_ones_ok (n : Nat) (E : EW) (hn : n ≤ 7) : Tr (φ_great_ones [.o (.im (webE n E))]) fun r => ∃ F, r = (.o (.im (.tup (F.map rwI))), []) ∧ (∀ r ∈ F, Clq n E r) ∧ (n = 0 ∧ F = [] ∨ ∃ r ∈ F, r.length = gr n E (n + 1)) ∧ F.length ≤ 128 := by
  obtain ⟨M, hM, hMl⟩ := gr_clq n E
  have hlook := look_at_ok n E (by omega : n ≤ 60)
  have ne := neighbours_ok n E (by omega : n ≤ 1000)
  have h0 : GInv n E M [] [⟨[], List.range n, []⟩] := by
    refine ⟨fun s hs => ?_, by simp, .inr ⟨_, List.mem_singleton.mpr rfl, by simp, fun m hm => .inr (List.mem_range.mpr (hM.2.1 m hm))⟩, ?_⟩
    · simp at hs; subst hs
      refine ⟨⟨by simp, by simp, by simp⟩, List.nodup_range, fun p hp => List.mem_range.mp hp, by simp, by simp, by simp, by simp, ?_⟩
      by_cases c : n = 0
      · exact .inr (.inr c)
      · exact .inr (.inl (by simp [c]))
    · have : 2 ^ n ≤ 2 ^ 7 := Nat.pow_le_pow_right (by omega) hn
      simp [wt]; omega
  have hw := h0.sz
  have g1 := rg1H_nat false n (by omega)
  simp at g1
  refine Tr.gen fun P0 hP0 => ?_
  simp (disch := trivial) [φ_great_ones, fs_great_ones, hlook, ne, g1]
  refine (whM_tr (σ := List (List Nat) × List It) (fun s ρ => ∃ j4 j5 j6 j7 j8 j9, ρ = [Sl.o (Dt.im (webE n E)), .o (rowsD n (nb n E)), .o (.lst (s.1.map rwD)), .o (.lst (s.2.map itD)), j4, j5, j6, j7, j8, j9, .e] ∧ GInv n E M s.1 s.2) (fun s => wt s.2)
    (fun u => ∃ F j4 j5 j6 j7 j8 j9, u = .nx [Sl.o (Dt.im (webE n E)), .o (rowsD n (nb n E)), .o (.lst (F.map rwD)), .o (.lst []), j4, j5, j6, j7, j8, j9, .e] ∧ GInv n E M F []) ([], [⟨[], List.range n, []⟩]) ⟨_, _, _, _, _, _, rfl, h0⟩ (by simp only [List.length_nil, FU] at hw ⊢; omega) ?_).bind ?_
  · rintro ⟨F, st⟩ ρ ⟨j4, j5, j6, j7, j8, j9, rfl, inv⟩
    simp only at inv ⊢
    refine Tr.gen fun P hP => ?_
    rcases List.eq_nil_or_concat st with rfl | ⟨st', s, rfl⟩
    · simp
      refine ⟨_, rfl, hP _ ?_⟩
      rw [if_neg (by simp)]
      exact ⟨F, _, _, _, _, _, _, rfl, inv⟩
    · rw [List.concat_eq_append] at *
      have c : (0 : Int) < (st'.length : Int) + 1 := by omega
      simp [c]
      refine ⟨_, rfl, hP _ ?_⟩
      rw [if_pos rfl]
      have hpop := popH_ap (st'.map itD) (itD s)
      have ok := inv.ok s (by simp)
      have wk := wt_kids (A := ad n E) (ad_irr n E) s.R s.P s.X
      have isz := inv.sz
      rw [wt_app] at isz
      have w1 : ∀ l : List It, l.length ≤ wt l := fun l => by
        induction l with
        | nil => exact Nat.le_refl _
        | cons a l ih => have := Nat.pow_pos (a := 2) (n := a.P.length) (by omega); simp only [wt, List.length_cons]; omega
      have w2 := w1 st'
      have w0 : wt [s] = 2 ^ s.P.length := by simp [wt]
      have kl := kids_len (ad n E) s.R s.P s.X
      have osz := ok.sz
      have osR : s.R.length ≤ n := clq_le ok.clq
      obtain ⟨F2, hF2, inv2, hlt⟩ : ∃ F2, F2 = (if s.P = [] ∧ s.X = [] then F ++ [srtN n s.R] else F) ∧ GInv n E M F2 (st' ++ kids (ad n E) s.R s.X s.P) ∧ wt (st' ++ kids (ad n E) s.R s.X s.P) < wt (st' ++ [s]) := by
        refine ⟨_, rfl, ⟨fun x hx => ?_, fun r hr => ?_, ?_, ?_⟩, by rw [wt_app, wt_app]; omega⟩
        · rcases List.mem_append.mp hx with hx | hx
          · exact inv.ok x (List.mem_append_left _ hx)
          · exact kids_ok ok.clq s.P s.X (.inl ok) x hx
        · split at hr
          · rename_i c
            rcases List.mem_append.mp hr with hr | hr
            · exact inv.cl r hr
            · simp at hr; subst hr
              have := srtN_clq ok.clq
              refine ⟨this.1, ?_⟩
              rcases ok.ne with z | z | z
              · left
                intro e
                rw [e] at this
                exact z (List.length_eq_zero_iff.mp this.2.symm)
              · exact absurd c.1 z
              · exact .inr z
          · exact inv.cl r hr
        · rcases inv.cov with ⟨r, hr, e⟩ | ⟨x, hx, cv⟩
          · refine .inl ⟨r, ?_, e⟩
            split
            · exact List.mem_append_left _ hr
            · exact hr
          · rcases List.mem_append.mp hx with hx | hx
            · exact .inr ⟨x, List.mem_append_left _ hx, cv⟩
            · simp at hx; subst hx
              by_cases no : ∃ m ∈ M, m ∉ x.R
              · obtain ⟨y, hy, cy⟩ := kids_cov hM x.P x.X cv no
                exact .inr ⟨y, List.mem_append_right _ hy, cy⟩
              · have no' : ∀ m ∈ M, m ∈ x.R := fun m hm => Classical.byContradiction fun q => no ⟨m, hm, q⟩
                obtain ⟨e1, e2, e3⟩ := cov_end hM hMl cv ok no'
                refine .inl ⟨srtN n x.R, ?_, by rw [(srtN_clq ok.clq).2, e1]⟩
                rw [if_pos ⟨e2, e3⟩]; simp
        · rw [wt_app]
          split
          · rename_i c
            have h1 : wt [s] = 1 := by rw [w0, c.1]; rfl
            rw [c.1, List.length_append]
            simp only [kids, wt, List.length_cons, List.length_nil]; omega
          · omega
      have hsrt := srt_N ok.clq
      have hF : F.length ≤ 128 := by omega
      refine Tr.gen fun P hP => ?_
      have fin : ∀ j4 j5 j6 j7 j8 j9, P (.nx [Sl.o (Dt.im (webE n E)), .o (rowsD n (nb n E)), .o (.lst (F2.map rwD)), .o (.lst ((st' ++ kids (ad n E) s.R s.X s.P).map itD)), j4, j5, j6, j7, j8, j9, .e]) := fun j4 j5 j6 j7 j8 j9 => hP _ ⟨(F2, st' ++ kids (ad n E) s.R s.X s.P), ⟨j4, j5, j6, j7, j8, j9, rfl, inv2⟩, hlt⟩
      clear hP inv2 hlt inv
      obtain ⟨R, Q, X⟩ := s
      simp only at *
      have hpop2 : popH (.lst (st'.map itD ++ [itD ⟨R, Q, X⟩])) [] = .ok (.lst (st'.map itD), .o (.tpl [.im (rwI R), .lst (Q.map intD), .lst (X.map intD)])) := hpop
      have hQn : Q.length ≤ n := by omega
      have hXn : X.length ≤ n := by omega
      have hst : st'.length ≤ 128 := by omega
      have okp := ok.plt
      simp only at okp
      clear wk w0 w1 isz ok
      -- the inner loop
      have loop : ∀ (FD : Dt) (j4 : Sl) , Tr (forL (.nm 4) (seqM
                              (expM
                                (muM 3 (plM 3) "list" true
                                  (acM true
                                    (naM
                                      (acM true (b2M true (rdM 5) (naM (acM true (rdM 4) anM) tupH) addH)
                                        (acM true
                                          (lcM [10] (slM 8) (Tgt.nm 10)
                                            (tbM (b2M true (rdM 10) (b2M true (rdM 1) (rdM 4) ixH) (inH false)))
                                            (rdM 10))
                                          (acM true
                                            (lcM [10] (slM 9) (Tgt.nm 10)
                                              (tbM (b2M true (rdM 10) (b2M true (rdM 1) (rdM 4) ixH) (inH false)))
                                              (rdM 10))
                                            anM)))
                                      tupH)
                                    anM)
                                  appH))
                              (seqM (expM (muM 8 (plM 8) "list" true (acM true (rdM 4) anM) remH))
                                (seqM (expM (muM 9 (plM 9) "list" false (acM true (mvM 4) anM) appH)) nxM))) (Q.map fun x => Itm.one (intD x))
          [Sl.o (Dt.im (webE n E)), .o (rowsD n (nb n E)), .o FD, .o (.lst (st'.map itD)), j4, .o (rwD R), .s (.lst (Q.map intD)), .o (.lst (X.map intD)), .o (.lst (Q.map intD)), .o (.lst (X.map intD)), .e])
          fun u => ∃ j4 j8 j9, u = .nx [Sl.o (Dt.im (webE n E)), .o (rowsD n (nb n E)), .o FD, .o (.lst ((st' ++ kids (ad n E) R X Q).map itD)), j4, .o (rwD R), .s (.lst (Q.map intD)), .o (.lst (X.map intD)), j8, j9, .e] := by
        intro FD j4
        refine (forL_tr (fun (ys : List Nat) ρ => ∃ (j4 : Sl) (K : List It) (zs : List Nat), Q = ys ++ zs ∧ K ++ kids (ad n E) R (X ++ ys) zs = kids (ad n E) R X Q ∧ K.length = ys.length ∧ ρ = [Sl.o (Dt.im (webE n E)), .o (rowsD n (nb n E)), .o FD, .o (.lst ((st' ++ K).map itD)), j4, .o (rwD R), .s (.lst (Q.map intD)), .o (.lst (X.map intD)), .o (.lst (zs.map intD)), .o (.lst ((X ++ ys).map intD)), .e]) ⟨j4, [], Q, rfl, by simp, rfl, by simp⟩ ?_).mono ?_
        · rintro ys p zs _ e ⟨j4, K, zs', e1, e2, e3, rfl⟩
          have : zs' = p :: zs := List.append_cancel_left (e1.symm.trans e)
          subst this
          have hin : ∀ b, inH false [.o (.im (.int (b : Nat))), .b (.lst ((nb n E p).map intD))] = .ok (vB (ad n E p b)) := fun b => by
            have := in_lst false (intI b) (.b (.lst ((nb n E p).map intD))) ((nb n E p).map intI) (by simp [Function.comp_def]) (by simp) (by simp)
            simp at this
            rw [this]
            have : decide (b ∈ nb n E p) = ad n E p b := by rw [Bool.eq_iff_iff, decide_eq_true_eq, mem_nb]
            rw [this]
          have hrem := remH_head p zs
          have hk3 : K.length ≤ n := by
            have : ys.length ≤ Q.length := by rw [e]; simp
            omega
          have hp : p < n := by
            have := okp p (by rw [e]; simp)
            exact this
          have hzl : zs.length + ys.length + 1 = Q.length := by rw [e]; simp; omega
          refine Tr.gen fun P hP => ?_
          have fin : P (.nx [Sl.o (Dt.im (webE n E)), .o (rowsD n (nb n E)), .o FD, .o (.lst ((st' ++ (K ++ [It.mk (R ++ [p]) ((p :: zs).filter (ad n E p)) ((X ++ ys).filter (ad n E p))])).map itD)), .o (intD p), .o (rwD R), .s (.lst (Q.map intD)), .o (.lst (X.map intD)), .o (.lst (zs.map intD)), .o (.lst ((X ++ (ys ++ [p])).map intD)), .e]) := hP _ ⟨_, rfl, .o (intD p), K ++ [It.mk (R ++ [p]) ((p :: zs).filter (ad n E p)) ((X ++ ys).filter (ad n E p))], zs, by rw [e]; simp, by rw [← e2]; simp [kids], by simp [e3], rfl⟩
          have hY : (X ++ ys).length ≤ 14 := by simp; omega
          have eY : X ++ (ys ++ [p]) = (X ++ ys) ++ [p] := by simp
          rw [eY] at fin
          have hZ : (p :: zs).length ≤ 7 := by simp; omega
          generalize p :: zs = Z at *
          generalize X ++ ys = Y at *
          simp [itD, Function.comp_def] at fin
          simp (disch := trivial)
          rw [lcL_pure (fun b => ad n E p b) intD (by intro b hb; simp (disch := trivial) [hin])]
          generalize Z.filter (fun b => ad n E p b) = Z1 at *
          simp (disch := trivial)
          rw [lcL_pure (fun b => ad n E p b) intD (by intro b hb; simp (disch := trivial) [hin])]
          generalize Y.filter (fun b => ad n E p b) = Y1 at *
          simp (disch := trivial) [hrem, itD]
          exact ⟨_, rfl, by simpa [rwI] using fin⟩
        · rintro _ ⟨_, rfl, j4, K, zs, e1, e2, e3, rfl⟩
          have : zs = [] := by simpa using e1.symm
          subst this
          exact ⟨j4, .o (.lst []), .o (.lst ((X ++ Q).map intD)), by rw [← e2]; simp [kids]⟩
      by_cases c : Q = [] ∧ X = []
      · rw [if_pos c] at hF2
        obtain ⟨rfl, rfl⟩ := c
        simp (disch := trivial) [hpop2]
        refine (loop (.lst (F.map rwD ++ [Dt.im (Im.tup (srtI (R.map intI)))])) j4).bind ?_
        rintro u ⟨j4, j8, j9, rfl⟩
        simp
        refine ⟨_, rfl, ?_⟩
        have f := fin j4 (.o (rwD R)) (.s (.lst [])) (.o (.lst [])) j8 j9
        rw [hF2, List.map_append, List.map_singleton] at f
        rw [hsrt]
        simpa using f
      · rw [if_neg c] at hF2
        simp (disch := trivial) [hpop2, c]
        refine (loop (.lst (F.map rwD)) j4).bind ?_
        rintro u ⟨j4, j8, j9, rfl⟩
        simp
        refine ⟨_, rfl, ?_⟩
        have f := fin j4 (.o (rwD R)) (.s (.lst (Q.map intD))) (.o (.lst (X.map intD))) j8 j9
        rw [hF2] at f
        simpa using f
  · rintro u ⟨F, j4, j5, j6, j7, j8, j9, rfl, inv⟩
    have hcl := inv.cl
    have hsz := inv.sz
    have hcov : ∃ r ∈ F, r.length = gr n E (n + 1) := by
      rcases inv.cov with ⟨r, h1, h2⟩ | ⟨s, h, _⟩
      · exact ⟨r, h1, by rw [h2, hMl]⟩
      · cases h
    have hF : F.length ≤ 128 := by simp only [wt] at hsz; omega
    by_cases c : n = 0
    · subst c
      simp (disch := trivial)
      refine ⟨_, rfl, hP0 _ ⟨[], rfl, by simp, .inl ⟨rfl, rfl⟩, by simp⟩⟩
    · have c' : (0 : Int) < n := by omega
      have c2 : 0 < n := by omega
      have ok : okS (F.map rwI) = true := by
        unfold okS
        have : (F.map rwI).all Im.isRow = true := by
          rw [List.all_eq_true]; intro x hx
          obtain ⟨r, hr, rfl⟩ := List.mem_map.mp hx
          exact isRow_rw ((hcl r hr).2.resolve_right c)
        rw [this, Bool.or_true, Bool.true_or]
      have pm := srtI_perm (F.map rwI)
      obtain ⟨F', hF'⟩ : ∃ F' : List (List Nat), srtI (F.map rwI) = F'.map rwI := by
        have key : ∀ l : List Im, (∀ x ∈ l, ∃ r, rwI r = x) → ∃ F' : List (List Nat), l = F'.map rwI := by
          intro l
          induction l with
          | nil => intro _; exact ⟨[], rfl⟩
          | cons a l ih =>
            intro h
            obtain ⟨r, hr⟩ := h a (by simp)
            obtain ⟨F', e⟩ := ih fun x hx => h x (by simp [hx])
            exact ⟨r :: F', by rw [e, ← hr]; rfl⟩
        refine key _ fun x hx => ?_
        obtain ⟨r, _, e⟩ := List.mem_map.mp (pm.mem_iff.mp hx)
        exact ⟨r, e⟩
      rw [hF'] at pm
      have mem : ∀ r, r ∈ F' ↔ r ∈ F := fun r => by
        constructor
        · intro h
          obtain ⟨y, hy, e⟩ := List.mem_map.mp (pm.mem_iff.mp (List.mem_map.mpr ⟨r, h, rfl⟩))
          rw [← rwI_inj e]; exact hy
        · intro h
          obtain ⟨y, hy, e⟩ := List.mem_map.mp (pm.mem_iff.mpr (List.mem_map.mpr ⟨r, h, rfl⟩))
          rw [← rwI_inj e]; exact hy
      have len := pm.length_eq
      simp only [List.length_map] at len
      have hd : dimOf (F.map rwD) = some (F.map rwI) := dimOf_map' F rwI
      simp (disch := trivial) [c', c2, ok, hF']
      refine ⟨_, rfl, hP0 _ ⟨F', rfl, fun r hr => (hcl r ((mem r).mp hr)).1, .inr ?_, by omega⟩⟩
      obtain ⟨r, h1, h2⟩ := hcov
      exact ⟨r, (mem r).mpr h1, h2⟩
theorem greatest_tied_ok (n : Nat) (E : EW) (hn : n ≤ 7) : φ_greatest_tied [.o (.im (webE n E))] = .ok (vI (gr n E (n + 1)), []) := by
  obtain ⟨_, hg, F, rfl, h1, h2, h3⟩ := great_ones_ok n E hn
  refine Tr.eq ?_
  simp (disch := trivial) [φ_greatest_tied, fs_greatest_tied, hg]
  rw [lcL_map (fun r => intD r.length) (by
    intro r hr
    have := clq_le (h1 r hr)
    simp (disch := trivial))]
  have le : ∀ r ∈ F, r.length ≤ gr n E (n + 1) := fun r hr => gr_max (h1 r hr)
  have ex : ∃ a l, F.map List.length ++ [0] = a :: l := by cases F <;> simp
  obtain ⟨a, l, e⟩ := ex
  have hm : gr n E (n + 1) ∈ a :: l := by
    rw [← e]
    rcases h2 with ⟨h, hF⟩ | ⟨r, hr, e2⟩
    · subst h; subst hF
      have := gr_clq 0 E
      obtain ⟨m, hm1, hm2⟩ := this
      have := clq_le hm1
      simp at hm2 ⊢; omega
    · exact List.mem_append_left _ (List.mem_map.mpr ⟨r, hr, e2⟩)
  have hx : ∀ x ∈ a :: l, x ≤ gr n E (n + 1) := fun x hx => by
    rw [← e] at hx
    rcases List.mem_append.mp hx with hx | hx
    · obtain ⟨r, hr, rfl⟩ := List.mem_map.mp hx
      exact le r hr
    · simp at hx; omega
  have hb := bestI_max l a _ hm hx
  have hd : dimOf (F.map (fun r => intD r.length) ++ [.im (.int 0)]) = some (intI a :: l.map intI) := by
    rw [dimOf_app _ _ (F.map fun r => intI r.length) [intI 0] (dimOf_map' F fun r => intI r.length) rfl]
    have : (F.map fun r => intI r.length) ++ [intI 0] = (a :: l).map intI := by rw [← e]; simp
    rw [this]; rfl
  have hok : okS (intI a :: l.map intI) = true := okS_ints (a :: l)
  simp (disch := trivial) [hd, hok, hb]
  exact ⟨_, rfl, rfl⟩
end K58

set_option Elab.async false
set_option linter.all false
set_option maxRecDepth 100000
set_option maxHeartbeats 4000000
namespace K58
open Wv Wl K02 PySem
local macro_rules | `(tactic| trivial) => `(tactic| (simp only [List.length_map, List.length_append, List.length_cons, List.length_nil, List.length_range, List.length_reverse, List.length_set]; omega))
local macro_rules | `(tactic| trivial) => `(tactic| (simp [Function.comp_def]; done))
local macro_rules | `(tactic| trivial) => `(tactic| assumption)
local macro_rules | `(tactic| trivial) => `(tactic| omega)
theorem seq_nx {f g : Fs} {ρ ρ' : Ev} (h : f ρ = .ok (.nx ρ')) : seqM f g ρ = g ρ' := by simp [h]
theorem made_tok (n : Nat) (ps : List (Nat × Nat)) (h : ps.length ≤ 10000000) (hp : ∀ p ∈ ps, p.1 < n ∧ p.2 < n) :
    φ__law_made [vI n, .o (.im (tiesI ps))] = .ok (.o (.im (webE n (Eof ps))), []) := by
  refine Tr.eq ?_
  simp (disch := trivial) [φ__law_made, fs__law_made, Function.comp_def]
  refine (madeL n _ ps h).bind ?_
  rintro _ ⟨kvs, j1, j2, rfl, ks, h1, h2, h3⟩
  simp (disch := trivial) [h1, okS_ties, keys_web hp h2 h3]
  exact ⟨_, rfl, rfl⟩
theorem pb_web (d n : Nat) (E : EW) (hn : n ≤ 1000) : Pb (d + 3) (webE n E) = true := by
  have := tsE_len n E
  have h3 : n * n ≤ 1000 * 1000 := Nat.mul_le_mul hn hn
  have : Pbs (d + 1) ((tsE n E).map tieI) = true := Pbs_of fun i hi => by
    obtain ⟨p, _, rfl⟩ := List.mem_map.mp hi
    simp [tieI]
  simp [this]; omega
theorem pb_row (d : Nat) (row : List Nat) (h : row.length ≤ 1000) : Pb (d + 1) (rwI row) = true := by
  have : Pbs d (row.map intI) = true := Pbs_of fun i hi => by
    obtain ⟨p, _, rfl⟩ := List.mem_map.mp hi
    simp
  simp [rwI, this]; omega
abbrev lv (ns : List Int) (d : Dr) (n : Nat) (E : EW) (s3 s4 s5 s6 s7 s8 s9 s10 s11 s12 s13 s14 s15 s16 s17 s18 s19 : Sl) : Ev :=
  [.s (.scr ns), .o (drD d), .o (.im (webE n E)), s3, s4, s5, s6, s7, s8, s9, s10, s11, s12, s13, s14, s15, s16, s17, s18, s19]
abbrev oI (n : Nat) : Sl := .o (.im (.int (n : Nat)))
section
variable (ns : List Int)
theorem t0 : fs_law_0 [.s (.scr ns), .e, .e, .e, .e, .e, .e, .e, .e, .e, .e, .e, .e, .e, .e, .e, .e, .e, .e, .e] = .ok (.nx [.s (.scr ns), .o (drD ⟨ns, 0, 0, 1⟩), .e, .e, .e, .e, .e, .e, .e, .e, .e, .e, .e, .e, .e, .e, .e, .e, .e, .e]) := by
  simp (disch := trivial) [fs_law_0, draws_ok]
theorem t1 (d : Dr) : Tr ((seqM fs_law_1 fs_law_2) [.s (.scr ns), .o (drD d), .e, .e, .e, .e, .e, .e, .e, .e, .e, .e, .e, .e, .e, .e, .e, .e, .e, .e]) fun u => ∃ d n p, n ≤ 7 ∧ 0 < p ∧ p ≤ 4 ∧ u = .nx (lv ns d n (PW p) .e .e .e .e .e .e .e .e .e (oI n) (oI p) .e .e .e .e .e .e) := by
  refine Tr.gen fun P hP => ?_
  have b1 := drw_lt d 8 (by omega)
  have b2 := drw_lt (drw d 8).2 4 (by omega)
  simp (disch := trivial) [fs_law_1, fs_law_2]
  generalize (drw d 8).1 = n at *
  generalize (drw d 8).2 = d1 at *
  generalize (drw d1 4).1 = k at *
  generalize (drw d1 4).2 = d2 at *
  have hp := pairs_ok n (by omega)
  have hpl := pairsN_len n
  have hnn : n * n ≤ 7 * 7 := Nat.mul_le_mul (by omega) (by omega)
  have hfl := List.length_filter_le (fun t => PW (1 + k) t.1 t.2) (pairsN n)
  have hm := made_ok n ((pairsN n).filter fun t => PW (1 + k) t.1 t.2) (by omega) (fun p hp => by
      have := mem_pairsN.mp (List.mem_filter.mp hp).1
      omega)
  have ew : webE n (Eof ((pairsN n).filter fun t => PW (1 + k) t.1 t.2)) = webE n (PW (1 + k)) := by
    simp only [webE]; rw [tsE_filter]; rfl
  rw [ew] at hm
  simp (disch := trivial) [hp]
  rw [lcL_pure (fun t => PW (1 + k) t.1 t.2) tieD (by
    rintro ⟨a, b⟩ hab
    obtain ⟨h1, h2⟩ := mem_pairsN.mp hab
    simp only at h1 h2
    have ne : ¬ (1 + (k : Int)) = 0 := by omega
    have e1 : ((b : Int) - a).fdiv (1 + k) * (1 + k) = (((b - a) / (1 + k) * (1 + k) : Nat) : Int) := by
      rw [show ((b : Int) - a) = ((b - a : Nat) : Int) by omega, show (1 + (k : Int)) = ((1 + k : Nat) : Int) by omega, Int.fdiv_eq_ediv_of_nonneg _ (by omega)]
      simp
    have e2 : (((b : Int) - a).fdiv (1 + k) * (1 + k) = (b : Int) - a) ↔ ¬ (a % (1 + k) ≠ b % (1 + k)) := by
      rw [e1, ← dvd_eq h1 (by omega)]; omega
    have bk : bndI (1 + (k : Int)) = true := by simp; omega
    have nk : (1 + (k : Int)).natAbs < 1073741824 := by omega
    simp (disch := trivial) [ne, nk, bk, e2, PW])]
  simp (disch := trivial) [hm]
  exact ⟨_, rfl, hP _ ⟨d2, n, 1 + k, by omega, by omega, by omega, by simp⟩⟩
section
variable (d : Dr) (n : Nat) (E : EW) (s3 s4 s5 s6 s7 s8 s9 s10 s11 s12 s13 s14 s15 s16 s17 s18 s19 : Sl)
theorem t3 (p : Nat) (hn : n ≤ 7) (hp : 0 < p) (hp4 : p ≤ 4) : fs_law_3 (lv ns d n (PW p) s3 s4 s5 s6 s7 s8 s9 s10 s11 (oI n) (oI p) s14 s15 s16 s17 s18 s19) = .ok (.nx (lv ns d n (PW p) s3 s4 s5 s6 s7 s8 s9 s10 s11 (oI n) (oI p) s14 s15 s16 s17 s18 s19)) := by
  have h1 := parted_web_ok n p (by omega) hp (by omega)
  have h2 := most_ties_ok n (p + 1) (by omega) (by omega)
  have h3 := most_ties_ok n 1 (by omega) (by omega)
  rw [if_pos (by omega), Nat.add_sub_cancel, ← PW_len n p (by omega)] at h2
  rw [if_neg (by omega)] at h3
  have q1 := same_ok 12 3 (webE n (PW p)) (webE n (PW p)) (by omega) (pb_web 0 n _ (by omega)) (pb_web 0 n _ (by omega))
  have q2 := same_ok 12 0 (.int ((tsE n (PW p)).length : Nat)) (.int ((tsE n (PW p)).length : Nat)) (by omega) (by simp) (by simp)
  have h2 : φ_most_ties [vI n, .o (.im (.int ((p : Int) + 1)))] = _ := h2
  have h3 : φ_most_ties [vI n, .o (.im (.int 1))] = _ := h3
  simp (disch := trivial) [fs_law_3, h1, h2, h3, q1, q2]
theorem t4 (hn : n ≤ 7) : Tr (fs_law_4 (lv ns d n E s3 s4 s5 s6 s7 s8 s9 s10 s11 (oI n) s13 s14 s15 s16 s17 s18 s19)) fun u => ∃ d w, u = .nx (lv ns d n E s3 s4 s5 s6 s7 s8 s9 s10 s11 (oI n) s13 (.o (.lst ((pairsN n).map tieD))) (oI w) s16 s17 s18 s19) := by
  refine Tr.gen fun P hP => ?_
  have hp := pairs_ok n (by omega)
  simp (disch := trivial) [fs_law_4, hp]
  exact ⟨_, rfl, hP _ ⟨_, _, rfl⟩⟩
theorem t5 (w : Nat) (hn : n ≤ 7) : Tr (fs_law_5 (lv ns d n E s3 s4 s5 s6 s7 s8 s9 s10 s11 (oI n) s13 (.o (.lst ((pairsN n).map tieD))) (oI w) s16 s17 s18 s19)) fun u => ∃ d n' E s10, n' ≤ 7 ∧ u = .nx (lv ns d n' E s3 s4 s5 s6 s7 s8 s9 s10 s11 (oI n) s13 (.o (.lst ((pairsN n).map tieD))) (oI w) s16 s17 s18 s19) := by
  refine Tr.gen fun P hP => ?_
  by_cases c0 : w = 0
  · subst c0
    obtain ⟨_, h, m, F, d', rfl, -, hm⟩ := law_web_ok d 0 7 (by omega) (by omega)
    simp at h
    simp (disch := trivial) [fs_law_5, h]
    exact ⟨_, rfl, hP _ ⟨d', m, F, _, by omega, rfl⟩⟩
  · by_cases c1 : w = 1 ∧ 0 < (pairsN n).length
    · obtain ⟨c1, hpl⟩ := c1
      subst c1
      have hpl2 := pairsN_len n
      have hnn : n * n ≤ 7 * 7 := Nat.mul_le_mul hn hn
      have hv := drw_lt d (pairsN n).length hpl
      have h4 := draw_ok d (pairsN n).length hpl (by omega)
      have hpick : φ__law_pick [.o (drD d), .s (.lst ((pairsN n).map tieD))] = .ok (.o (.im (tieI ((pairsN n)[(drw d (pairsN n).length).1]'hv))), [drD (drw d (pairsN n).length).2]) := by
        simp (disch := trivial) [φ__law_pick, fs__law_pick, h4]
      have hpick2 : φ__law_pick [.o (drD d), .o (.lst ((pairsN n).map tieD))] = .ok (.o (.im (tieI ((pairsN n)[(drw d (pairsN n).length).1]'hv))), [drD (drw d (pairsN n).length).2]) := by
        simp (disch := trivial) [φ__law_pick, fs__law_pick, h4]
      have hm1 : (pairsN n)[(drw d (pairsN n).length).1]'hv ∈ pairsN n := List.getElem_mem _
      generalize (pairsN n)[(drw d (pairsN n).length).1]'hv = q at *
      generalize (drw d (pairsN n).length).2 = d' at *
      have hq := mem_pairsN.mp hm1
      have hl := tsE_len n E
      have m1 := made_ok n ((tsE n E).filter fun p => decide (p ≠ q)) (by have := List.length_filter_le (fun p => decide (p ≠ q)) (tsE n E); omega) (fun p hp => by have := mem_tsE.mp (List.mem_filter.mp hp).1; omega)
      have m2 := made_tok n (tsE n E ++ [q]) (by simp; omega) (fun p hp => by
        rcases List.mem_append.mp hp with hp | hp
        · have := mem_tsE.mp hp; omega
        · simp at hp; subst hp; omega)
      simp only [tiesI, List.map_append, List.map_cons, List.map_nil] at m2
      have c1' : (0 : Int) < (pairsN n).length := by omega
      have hin := in_tup false (tieI q) ((tsE n E).map tieI) (by simp) (by simp)
      have hin2 : tieI q ∈ (tsE n E).map tieI ↔ q ∈ tsE n E := mem_ties
      by_cases c2 : q ∈ tsE n E
      · simp (disch := trivial) [fs_law_5, hpl, hpick, hpick2, c2]
        rw [lcL_pure (fun p => decide (p ≠ q)) tieD (by
          intro k hk
          by_cases c : k = q
          · subst c; simp (disch := trivial)
          · have : ¬ (k.1 = q.1 ∧ k.2 = q.2) := fun z => c (Prod.ext z.1 z.2)
            simp (disch := trivial) [c]
            intro z1 z2; exact this ⟨z1, z2⟩)]
        generalize (tsE n E).filter (fun p => decide (p ≠ q)) = more at *
        simp (disch := trivial) [m1]
        exact ⟨_, rfl, hP _ ⟨d', n, _, _, hn, rfl⟩⟩
      · simp (disch := trivial) [fs_law_5, hpl, hpick, hpick2, c2, m2]
        exact ⟨_, rfl, hP _ ⟨d', n, _, _, hn, rfl⟩⟩
    · have c1' : ¬ ((w : Int) = 1 ∧ 0 < (pairsN n).length) := by omega
      simp (disch := trivial) [fs_law_5, c0, c1']
      exact ⟨_, rfl, hP _ ⟨d, n, E, _, hn, rfl⟩⟩
end
end
end K58

set_option Elab.async false
set_option linter.all false
set_option maxRecDepth 100000
set_option maxHeartbeats 4000000
namespace K58
open Wv Wl K02 PySem
local macro_rules | `(tactic| trivial) => `(tactic| (simp only [List.length_map, List.length_append, List.length_cons, List.length_nil, List.length_range, List.length_reverse, List.length_set]; omega))
local macro_rules | `(tactic| trivial) => `(tactic| (simp [Function.comp_def]; done))
local macro_rules | `(tactic| trivial) => `(tactic| assumption)
local macro_rules | `(tactic| trivial) => `(tactic| omega)
theorem pb_sh (n : Nat) (E : EW) (hn : n ≤ 7) : Pb 4 (shI n E) = true := by
  have h1 : ∀ d, Pb d (.str "three") = true := fun d => by cases d <;> simp [Pb, lay_th]
  have h2 : ∀ d, Pb d (.str "parts") = true := fun d => by cases d <;> simp [Pb, lay_pa]
  unfold shI
  cases thr n E with
  | some t => simp [thI, h1]
  | none =>
    have h3 : (partsL n E).length ≤ n := by
      have := List.length_filter_le (fstB n E) (List.range n)
      simpa [partsU] using this
    have : Pbs 2 ((partsL n E).map rwI) = true := Pbs_of fun i hi => by
      obtain ⟨r, hr, rfl⟩ := List.mem_map.mp hi
      obtain ⟨k, _, rfl⟩ := List.mem_map.mp hr
      have := List.length_filter_le (fun j => !ad n E k j) (List.range n)
      exact pb_row 1 _ (by simp [cls] at this ⊢; omega)
    simp [h2, this]; omega
section
variable (ns : List Int) (d : Dr) (n : Nat) (E : EW) (s3 s4 s5 s6 s7 s8 s9 s10 s11 s12 s13 s14 s15 s16 s17 s18 s19 : Sl) (hn : n ≤ 7)
include hn
theorem t6 : fs_law_6 (lv ns d n E s3 s4 s5 s6 s7 s8 s9 s10 s11 s12 s13 s14 s15 s16 s17 s18 s19) = .ok (.nx (lv ns d n E s3 s4 s5 s6 s7 s8 s9 s10 s11 s12 s13 s14 s15 s16 s17 s18 s19)) := by
  have h1 := parts_shown_ok n E hn
  have h2 := law_shown_ok n E hn
  have q1 := same_ok 12 4 (shI n E) (shI n E) (by omega) (pb_sh n E hn) (pb_sh n E hn)
  simp (disch := trivial) [fs_law_6, h1, h2, q1]
theorem t7 : Tr (fs_law_7 (lv ns d n E s3 s4 s5 s6 s7 s8 s9 s10 s11 s12 s13 s14 s15 s16 s17 s18 s19)) fun u => ∃ d s, s ≤ 4 ∧ u = .nx (lv ns d n E (oI s) s4 s5 s6 s7 s8 s9 s10 s11 s12 s13 s14 s15 s16 s17 s18 s19) := by
  have b := drw_lt d 5 (by omega)
  refine Tr.gen fun P hP => ?_
  simp (disch := trivial) [fs_law_7]
  exact ⟨_, rfl, hP _ ⟨_, _, by omega, rfl⟩⟩
theorem t8 (s : Nat) (hs : s ≤ 4) : fs_law_8 (lv ns d n E (oI s) s4 s5 s6 s7 s8 s9 s10 s11 s12 s13 s14 s15 s16 s17 s18 s19) = .ok (.nx (lv ns d n E (oI s) (.o (.lst (((chs n s).filter (fullB n E)).map rwD))) s5 s6 s7 s8 s9 s10 s11 s12 s13 s14 s15 s16 s17 s18 s19)) := by
  have hc := law_choices_ok n s (by omega) (by omega)
  simp (disch := trivial) [fs_law_8, hc]
  rw [lcL_pure (fullB n E) rwD (by
    intro row hr
    obtain ⟨h1, h2, h3⟩ := mem_chs.mp hr
    have := law_full_ok n E (by omega) row (h1.imp fun {a b} h => by omega) h2 (by omega)
    simp (disch := trivial) [this])]
  simp (disch := trivial)
theorem t9 (s : Nat) (hs : s ≤ 4) : fs_law_9 (lv ns d n E (oI s) (.o (.lst (((chs n s).filter (fullB n E)).map rwD))) s5 s6 s7 s8 s9 s10 s11 s12 s13 s14 s15 s16 s17 s18 s19) = .ok (.nx (lv ns d n E (oI s) (.o (.lst (((chs n s).filter (fullB n E)).map rwD))) s5 s6 s7 s8 s9 s10 s11 s12 s13 s14 s15 s16 s17 s18 s19)) := by
  have h1 := all_tied_part_ok n E hn s (by omega)
  have e : (chs n s).find? (fullB n E) = ((chs n s).filter (fullB n E)).head? := List.head?_filter.symm
  have hb : Pb 1 (fstI n E s) = true := by
    unfold fstI
    split
    · rename_i r hr
      have := (mem_chs.mp (List.mem_of_find?_eq_some hr)).2.2
      exact pb_row 0 r (by omega)
    · simp
  have q1 := same_ok 12 1 (fstI n E s) (fstI n E s) (by omega) hb hb
  unfold fstI at h1 q1
  rw [e] at h1 q1
  generalize (chs n s).filter (fullB n E) = L at *
  cases L with
  | nil =>
    simp at h1 q1
    simp (disch := trivial) [fs_law_9, h1, q1]
  | cons a L =>
    simp at h1 q1
    have c : (0 : Int) < (L.length : Int) + 1 := by omega
    simp (disch := trivial) [fs_law_9, h1, q1, c]
theorem t10 : fs_law_10 (lv ns d n E s3 s4 s5 s6 s7 s8 s9 s10 s11 s12 s13 s14 s15 s16 s17 s18 s19) = .ok (.nx (lv ns d n E s3 s4 (oI (gr n E (n + 1))) s6 s7 s8 s9 s10 s11 s12 s13 s14 s15 s16 s17 s18 s19)) := by
  have h1 := law_greatest_ok n E hn
  simp (disch := trivial) [fs_law_10, h1]
theorem gr_turan : (tsE n E).length ≤ if 1 < gr n E (n + 1) + 1 then Tn n (gr n E (n + 1) + 1 - 1) else 0 := by
  have h := gr_le n E (n + 1)
  have t := turan_web n E (gr n E (n + 1)) hn (by omega) fun l hl => gr_max hl
  by_cases c : 1 < gr n E (n + 1) + 1
  · rw [if_pos c]; simpa using t
  · rw [if_neg c]
    have e : gr n E (n + 1) = 0 := by omega
    rw [e] at t
    simpa [Tn] using t
theorem t11 : fs_law_11 (lv ns d n E s3 s4 (oI (gr n E (n + 1))) s6 s7 s8 s9 s10 s11 s12 s13 s14 s15 s16 s17 s18 s19) = .ok (.nx (lv ns d n E s3 s4 (oI (gr n E (n + 1))) s6 s7 s8 s9 s10 s11 s12 s13 s14 s15 s16 s17 s18 s19)) := by
  have h1 := greatest_tied_ok n E hn
  have hg := gr_le n E (n + 1)
  have h2 := most_ties_ok n (gr n E (n + 1) + 1) (by omega) (by omega)
  have ht := gr_turan n E hn
  have q1 := same_ok 12 0 (.int (gr n E (n + 1) : Nat)) (.int (gr n E (n + 1) : Nat)) (by omega) (by simp) (by simp)
  generalize gr n E (n + 1) = g at *
  generalize (if 1 < g + 1 then Tn n (g + 1 - 1) else 0) = t at *
  have h2 : φ_most_ties [vI n, .o (.im (.int ((g : Int) + 1)))] = _ := h2
  have c : ¬ t < (tsE n E).length := by omega
  simp (disch := trivial) [fs_law_11, h1, h2, q1, c]
theorem t12 : Tr (fs_law_12 (lv ns d n E s3 s4 s5 s6 s7 s8 s9 s10 s11 s12 s13 s14 s15 s16 s17 s18 s19)) fun u => ∃ pre F, u = .nx (lv ns d n E s3 s4 s5 (.o (.im (.tup ((pre ++ [F]).map (webE n))))) s7 s8 s9 s10 s11 s12 s13 s14 s15 s16 s17 s18 s19) ∧ Rt n E pre F ∧ thr n F = none := by
  refine Tr.gen fun P hP => ?_
  obtain ⟨_, h, pre, F, rfl, h1, h2⟩ := made_parted_ok n E hn
  simp at h
  simp (disch := trivial) [fs_law_12, h]
  exact ⟨_, rfl, hP _ ⟨pre, F, by simp, h1, h2⟩⟩
theorem t13 (pre : List EW) (F : EW) (hr : Rt n E pre F) (ht : thr n F = none) : fs_law_13 (lv ns d n E s3 s4 s5 (.o (.im (.tup ((pre ++ [F]).map (webE n))))) s7 s8 s9 s10 s11 s12 s13 s14 s15 s16 s17 s18 s19) = .ok (.nx (lv ns d n E s3 s4 s5 (.o (.im (.tup ((pre ++ [F]).map (webE n))))) s7 s8 s9 s10 s11 s12 s13 s14 s15 s16 s17 s18 s19)) := by
  obtain ⟨r, e⟩ := hr.head
  have al := atI_last ((pre ++ [F]).map (webE n)) (by simp)
  have a0 : L2.atI ((pre ++ [F]).map (webE n)) 0 = some (webE n E) := by rw [e]; simp
  have el : ((pre ++ [F]).map (webE n)).getLast (by simp) = webE n F := by simp
  rw [el] at al
  clear el
  have h2 := law_shown_ok n F hn
  have eS : shI n F = .tup [.str "parts", .tup ((partsL n F).map rwI)] := by unfold shI; rw [ht]
  rw [eS] at h2
  have l2 : Pl 60 (.str "parts") = true := Pl_str lay_pa
  have pw : Pl 60 (webE n E) = true := by simp
  generalize (pre ++ [F]).map (webE n) = L at *
  simp (disch := trivial) [fs_law_13, al, a0, h2, l2]
theorem t14 (pre : List EW) (F : EW) (hr : Rt n E pre F) : Tr (fs_law_14 (lv ns d n E s3 s4 s5 (.o (.im (.tup ((pre ++ [F]).map (webE n))))) s7 s8 s9 s10 s11 s12 s13 s14 s15 s16 s17 s18 s19)) fun u => ∃ s7, u = .nx (lv ns d n E s3 s4 s5 (.o (.im (.tup ((pre ++ [F]).map (webE n))))) s7 s8 s9 s10 s11 s12 s13 s14 s15 s16 s17 s18 s19) := by
  have nx := hr.next
  have hl := hr.len
  have tl := tsE_len n F
  have nn : n * n ≤ 7 * 7 := Nat.mul_le_mul hn hn
  have hlen : (pre ++ [F]).length ≤ 50 := by simp; omega
  generalize pre ++ [F] = L at *
  refine Tr.gen fun P0 hP0 => ?_
  simp (disch := trivial) [fs_law_14]
  refine (forL_tr (fun ys ρ => ∃ s7, ρ = lv ns d n E s3 s4 s5 (.o (.im (.tup (L.map (webE n))))) s7 s8 s9 s10 s11 s12 s13 s14 s15 s16 s17 s18 s19) ⟨_, rfl⟩ ?_).mono ?_
  · rintro ys k zs _ e ⟨s7, rfl⟩
    have hk : k < L.length - 1 := by
      have : k ∈ List.range (L.length - 1) := by rw [e]; simp
      have := List.mem_range.mp this
      omega
    have e1 : L2.atI (L.map (webE n)) (1 + (k : Int)) = some (webE n (L[k + 1]'(by omega))) := by
      rw [show (1 + (k : Int)) = ((k + 1 : Nat) : Int) by omega, atN _ _ (by simp; omega)]; simp
    have e2 : L2.atI (L.map (webE n)) (1 + (k : Int) - 1) = some (webE n (L[k]'(by omega))) := by
      rw [show (1 + (k : Int) - 1) = ((k : Nat) : Int) by omega, atN _ _ (by simp; omega)]; simp
    obtain ⟨n1, n2⟩ := nx k (L[k]'(by omega)) (L[k + 1]'(by omega)) (by simp) (by simp)
    have g1 := law_greatest_ok n (L[k]'(by omega)) hn
    have g2 := law_greatest_ok n (L[k + 1]'(by omega)) hn
    generalize L[k]'(by omega) = A at *
    generalize L[k + 1]'(by omega) = B at *
    have c1 : ¬ (tsE n B).length < (tsE n A).length := by omega
    have c2 : ¬ gr n A (n + 1) < gr n B (n + 1) := by omega
    refine Tr.gen fun P hP => ?_
    simp (disch := trivial) [e1, e2, g1, g2, c1, c2]
    exact ⟨_, rfl, hP _ ⟨_, rfl, _, rfl⟩⟩
  · rintro _ ⟨_, rfl, s7, rfl⟩
    exact hP0 _ ⟨s7, rfl⟩
end
end K58

set_option Elab.async false
set_option linter.all false
set_option maxRecDepth 100000
set_option maxHeartbeats 4000000
namespace K58
open Wv Wl K02 PySem
local macro_rules | `(tactic| trivial) => `(tactic| (simp only [List.length_map, List.length_append, List.length_cons, List.length_nil, List.length_range, List.length_reverse, List.length_set]; omega))
local macro_rules | `(tactic| trivial) => `(tactic| (simp [Function.comp_def]; done))
local macro_rules | `(tactic| trivial) => `(tactic| assumption)
local macro_rules | `(tactic| trivial) => `(tactic| omega)
abbrev rD (l : List (Nat × Nat)) : Dt := .im (tiesI l)
abbrev wbs (m : Nat) : List (List (Nat × Nat)) := subs (pairsN m) [[]]
theorem wbs_sub {m : Nat} {l : List (Nat × Nat)} (h : l ∈ wbs m) : l.Sublist (pairsN m) := by
  have := subs_sub (pairsN m) [] [[]] (by simp) l h
  simpa using this
theorem wbs_all {m : Nat} {l : List (Nat × Nat)} (h : l.Sublist (pairsN m)) : l ∈ wbs m := by
  have := subs_all (pairsN m) l [] [[]] h (by simp)
  simpa using this
theorem pw_clq {m p : Nat} (hp : 0 < p) {l : List Nat} (h : Clq m (PW p) l) : l.length ≤ p := by
  have nd : (l.map (· % p)).Nodup := by
    unfold List.Nodup
    rw [List.pairwise_map]
    refine h.2.2.imp fun {a b} hab e => ?_
    have : ∀ x y, x < y → y < m → PW p x y = true → x % p ≠ y % p := fun x y _ _ z => by simpa [PW] using z
    rw [ad_if] at hab
    split at hab
    · rename_i c; exact this a b c.1 c.2 hab e
    · split at hab
      · rename_i c; exact this b a c.1 c.2 hab e.symm
      · cases hab
  have := nodup_lt_len nd fun x hx => by
    obtain ⟨a, _, rfl⟩ := List.mem_map.mp hx
    exact Nat.mod_lt _ hp
  simpa using this
theorem ad_eof {m : Nat} {E : EW} : ad m (Eof (tsE m E)) = ad m E := by
  have e : tsE m (Eof (tsE m E)) = tsE m E := tsE_sub List.filter_sublist
  funext a b
  rw [Bool.eq_iff_iff, ad_mem, ad_mem, e]
def ws (m s : Nat) : List Nat := ((wbs m).filter fun l => decide (gr m (Eof l) (m + 1) < s)).map List.length
theorem ws_max (m s : Nat) (hm : m ≤ 7) (hs : 2 ≤ s) (hs2 : s ≤ 8) : Tn m (s - 1) ∈ ws m s ∧ ∀ x ∈ ws m s, x ≤ Tn m (s - 1) := by
  constructor
  · refine List.mem_map.mpr ⟨tsE m (PW (s - 1)), List.mem_filter.mpr ⟨wbs_all List.filter_sublist, ?_⟩, PW_len m _ (by omega)⟩
    rw [decide_eq_true_eq]
    obtain ⟨l, h1, h2⟩ := gr_clq m (Eof (tsE m (PW (s - 1))))
    have h3 : Clq m (PW (s - 1)) l := by unfold Clq at h1 ⊢; rw [ad_eof] at h1; exact h1
    have := pw_clq (by omega) h3
    omega
  · intro x hx
    obtain ⟨l, h1, rfl⟩ := List.mem_map.mp hx
    obtain ⟨h1, h2⟩ := List.mem_filter.mp h1
    rw [decide_eq_true_eq] at h2
    have := turan_web m (Eof l) (s - 1) hm (by omega) fun c hc => by have := gr_max hc; omega
    rw [tsE_sub (wbs_sub h1)] at this
    exact this
section
variable (ns : List Int) (d : Dr) (n : Nat) (E : EW) (s3 s4 s5 s6 s7 s8 s9 s10 s11 s12 s13 s14 s15 s16 s17 s18 s19 : Sl)
theorem t15 : Tr (fs_law_15 (lv ns d n E s3 s4 s5 s6 s7 s8 s9 s10 s11 s12 s13 s14 s15 s16 s17 s18 s19)) fun u => ∃ d m, m ≤ 4 ∧ u = .nx (lv ns d n E s3 s4 s5 s6 s7 (oI m) s9 s10 s11 s12 s13 s14 s15 s16 s17 s18 s19) := by
  have b := drw_lt d 4 (by omega)
  refine Tr.gen fun P hP => ?_
  simp (disch := trivial) [fs_law_15]
  exact ⟨_, rfl, hP _ ⟨(drw d 4).2, 1 + (drw d 4).1, by omega, by simp⟩⟩
theorem t16 : fs_law_16 (lv ns d n E s3 s4 s5 s6 s7 s8 s9 s10 s11 s12 s13 s14 s15 s16 s17 s18 s19) = .ok (.nx (lv ns d n E s3 s4 s5 s6 s7 s8 (.o (.lst [rD []])) s10 s11 s12 s13 s14 s15 s16 s17 s18 s19)) := by
  simp (disch := trivial) [fs_law_16]
theorem t17 (m : Nat) (hm : m ≤ 4) : Tr (fs_law_17 (lv ns d n E s3 s4 s5 s6 s7 (oI m) (.o (.lst [rD []])) s10 s11 s12 s13 s14 s15 s16 s17 s18 s19)) fun u => ∃ s10, u = .nx (lv ns d n E s3 s4 s5 s6 s7 (oI m) (.o (.lst ((wbs m).map rD))) s10 s11 s12 s13 s14 s15 s16 s17 s18 s19) := by
  have hp := pairs_ok m (by omega)
  have hl : (pairsN m).length ≤ 16 := by
    have := pairsN_len m
    have := Nat.mul_le_mul hm hm
    omega
  refine Tr.gen fun P0 hP0 => ?_
  simp (disch := trivial) [fs_law_17, hp]
  refine (forL_tr (fun ys ρ => ∃ s10, ρ = lv ns d n E s3 s4 s5 s6 s7 (oI m) (.o (.lst ((subs ys [[]]).map rD))) s10 s11 s12 s13 s14 s15 s16 s17 s18 s19) ⟨_, rfl⟩ ?_).mono ?_
  · rintro ys p zs _ e ⟨s10, rfl⟩
    have b1 := subs_len ys [[]]
    have hy : ys.length < 16 := by rw [e] at hl; simp at hl; omega
    have b2 : 2 ^ ys.length ≤ 2 ^ 16 := Nat.pow_le_pow_right (by omega) (by omega)
    have b3 : ∀ l ∈ subs ys [[]], l.length ≤ 100 := fun l h => by
      have := (subs_sub ys [] [[]] (by simp) l h).length_le
      simp at this; omega
    have es := subs_app ys [p] [[]]
    refine Tr.gen fun P hP => ?_
    have fin : P (.nx (lv ns d n E s3 s4 s5 s6 s7 (oI m) (.o (.lst ((subs (ys ++ [p]) [[]]).map rD))) (.o (tieD p)) s11 s12 s13 s14 s15 s16 s17 s18 s19)) := hP _ ⟨_, rfl, _, rfl⟩
    rw [es] at fin
    simp only [List.length_cons, List.length_nil, Nat.zero_add, Nat.one_mul] at b1
    generalize subs ys [[]] = L at *
    simp only [subs] at fin
    simp (disch := trivial)
    rw [lcL_map (fun l => rD (l ++ [p])) (by
      intro l hl
      have := b3 l hl
      simp (disch := trivial))]
    simp at fin
    simp (disch := trivial) [Function.comp_def] at fin ⊢
    exact ⟨_, rfl, fin⟩
  · rintro _ ⟨_, rfl, s10, rfl⟩
    exact hP0 _ ⟨s10, rfl⟩
theorem t18 : Tr (fs_law_18 (lv ns d n E s3 s4 s5 s6 s7 s8 s9 s10 s11 s12 s13 s14 s15 s16 s17 s18 s19)) fun u => ∃ d s, 2 ≤ s ∧ s ≤ 4 ∧ u = .nx (lv ns d n E (oI s) s4 s5 s6 s7 s8 s9 s10 s11 s12 s13 s14 s15 s16 s17 s18 s19) := by
  have b := drw_lt d 3 (by omega)
  refine Tr.gen fun P hP => ?_
  simp (disch := trivial) [fs_law_18]
  exact ⟨_, rfl, hP _ ⟨(drw d 3).2, 2 + (drw d 3).1, by omega, by omega, by simp⟩⟩
theorem t19 (m s : Nat) (hm : m ≤ 4) : fs_law_19 (lv ns d n E (oI s) s4 s5 s6 s7 (oI m) (.o (.lst ((wbs m).map rD))) s10 s11 s12 s13 s14 s15 s16 s17 s18 s19) = .ok (.nx (lv ns d n E (oI s) s4 s5 s6 s7 (oI m) (.o (.lst ((wbs m).map rD))) s10 (.o (.lst ((ws m s).map intD))) s12 s13 s14 s15 s16 s17 s18 s19)) := by
  simp (disch := trivial) [fs_law_19]
  rw [lcL_pure (fun l => decide (gr m (Eof l) (m + 1) < s)) (fun l => intD l.length) (by
    intro l hl
    have h1 := law_greatest_ok m (Eof l) (by omega)
    rw [show webE m (Eof l) = .tup [.int m, tiesI l] by simp only [webE]; rw [tsE_sub (wbs_sub hl)]] at h1
    have h2 : l.length ≤ 1000 := by
      have := (wbs_sub hl).length_le
      have := pairsN_len m
      have := Nat.mul_le_mul hm hm
      omega
    simp (disch := trivial) [h1])]
  simp (disch := trivial) [ws, Function.comp_def]
theorem t20 (m s : Nat) (hm : m ≤ 4) (hs : 2 ≤ s) (hs2 : s ≤ 4) : fs_law_20 (lv ns d n E (oI s) s4 s5 s6 s7 (oI m) s9 s10 (.o (.lst ((ws m s).map intD))) s12 s13 s14 s15 s16 s17 s18 s19) = .ok (.rt (.o (.im (.bl true))) (lv ns d n E (oI s) s4 s5 s6 s7 (oI m) s9 s10 (.o (.lst ((ws m s).map intD))) s12 s13 s14 s15 s16 s17 s18 s19)) := by
  have h1 := most_ties_ok m s (by omega) (by omega)
  rw [if_pos (by omega)] at h1
  obtain ⟨h2, h3⟩ := ws_max m s (by omega) hs (by omega)
  have q1 := same_ok 12 0 (.int (Tn m (s - 1) : Nat)) (.int (Tn m (s - 1) : Nat)) (by omega) (by simp) (by simp)
  generalize ws m s = W at *
  cases W with
  | nil => cases h2
  | cons a W =>
    have hb := bestI_max W a _ h2 h3
    have hok : okS (intI a :: W.map intI) = true := okS_ints (a :: W)
    simp (disch := trivial) [fs_law_20, h1, q1, hb, hok]
end
theorem law_true (ns : List Int) (h : ns.length ≤ 63) : φ_law [.s (.scr ns)] = .ok (.o (.im (.bl true)), []) := by
  unfold φ_law fs_law
  rw [defM_ap]
  rw [show List.map Vl.arg [Vl.s (Dt.scr ns)] ++ List.replicate 19 Sl.e = [.s (.scr ns), .e, .e, .e, .e, .e, .e, .e, .e, .e, .e, .e, .e, .e, .e, .e, .e, .e, .e, .e] from rfl]
  rw [seq_nx (t0 ns)]
  have sa : ∀ (f g h : Fs) (ρ : Ev), seqM f (seqM g h) ρ = seqM (seqM f g) h ρ := fun f g h ρ => by
    simp only [seqM_ap, bind_bind]
    cases f ρ with
    | ok u => cases u <;> simp
    | ex => rfl
    | no => rfl
  rw [sa fs_law_1]
  obtain ⟨_, h1, d, n0, p, hn, hp, hp4, rfl⟩ := t1 ns ⟨ns, 0, 0, 1⟩
  rw [seq_nx h1, seq_nx (t3 ns d n0 _ _ _ _ _ _ _ _ _ _ _ _ _ _ _ p hn hp hp4)]
  obtain ⟨_, h1, d, w, rfl⟩ := t4 ns d n0 (PW p) .e .e .e .e .e .e .e .e .e (oI p) .e .e .e .e .e .e hn
  rw [seq_nx h1]
  obtain ⟨_, h1, d, n, E, s10, hn, rfl⟩ := t5 ns d n0 (PW p) .e .e .e .e .e .e .e .e .e (oI p) .e .e .e .e w hn
  rw [seq_nx h1, seq_nx (t6 ns d n E _ _ _ _ _ _ _ _ _ _ _ _ _ _ _ _ _ hn)]
  obtain ⟨_, h1, d, s, hs, rfl⟩ := t7 ns d n E .e .e .e .e .e .e .e s10 .e (oI n0) (oI p) (.o (.lst ((pairsN n0).map tieD))) (oI w) .e .e .e .e hn
  rw [seq_nx h1, seq_nx (t8 ns d n E _ _ _ _ _ _ _ _ _ _ _ _ _ _ _ _ hn s hs), seq_nx (t9 ns d n E _ _ _ _ _ _ _ _ _ _ _ _ _ _ _ hn s hs)]
  rw [seq_nx (t10 ns d n E _ _ _ _ _ _ _ _ _ _ _ _ _ _ _ _ _ hn), seq_nx (t11 ns d n E _ _ _ _ _ _ _ _ _ _ _ _ _ _ _ _ hn)]
  obtain ⟨_, h1, pre, F, rfl, hr, ht⟩ := t12 ns d n E (oI s) (.o (.lst (((chs n s).filter (fullB n E)).map rwD))) (oI (gr n E (n + 1))) .e .e .e .e s10 .e (oI n0) (oI p) (.o (.lst ((pairsN n0).map tieD))) (oI w) .e .e .e .e hn
  rw [seq_nx h1, seq_nx (t13 ns d n E _ _ _ _ _ _ _ _ _ _ _ _ _ _ _ _ hn pre F hr ht)]
  obtain ⟨_, h1, s7, rfl⟩ := t14 ns d n E (oI s) (.o (.lst (((chs n s).filter (fullB n E)).map rwD))) (oI (gr n E (n + 1))) .e .e .e s10 .e (oI n0) (oI p) (.o (.lst ((pairsN n0).map tieD))) (oI w) .e .e .e .e hn pre F hr
  rw [seq_nx h1]
  obtain ⟨_, h1, d, m, hm, rfl⟩ := t15 ns d n E (oI s) (.o (.lst (((chs n s).filter (fullB n E)).map rwD))) (oI (gr n E (n + 1))) (.o (.im (.tup ((pre ++ [F]).map (webE n))))) s7 .e .e s10 .e (oI n0) (oI p) (.o (.lst ((pairsN n0).map tieD))) (oI w) .e .e .e .e
  rw [seq_nx h1, seq_nx (t16 ns d n E _ _ _ _ _ _ _ _ _ _ _ _ _ _ _ _ _)]
  obtain ⟨_, h1, s10, rfl⟩ := t17 ns d n E (oI s) (.o (.lst (((chs n s).filter (fullB n E)).map rwD))) (oI (gr n E (n + 1))) (.o (.im (.tup ((pre ++ [F]).map (webE n))))) s7 s10 .e (oI n0) (oI p) (.o (.lst ((pairsN n0).map tieD))) (oI w) .e .e .e .e m hm
  rw [seq_nx h1]
  obtain ⟨_, h1, d, s, hs, hs2, rfl⟩ := t18 ns d n E (oI s) (.o (.lst (((chs n s).filter (fullB n E)).map rwD))) (oI (gr n E (n + 1))) (.o (.im (.tup ((pre ++ [F]).map (webE n))))) s7 (oI m) (.o (.lst ((wbs m).map rD))) s10 .e (oI n0) (oI p) (.o (.lst ((pairsN n0).map tieD))) (oI w) .e .e .e .e
  rw [seq_nx h1, seq_nx (t19 ns d n E _ _ _ _ _ _ _ _ _ _ _ _ _ _ m s hm)]
  rw [seqM_ap, t20 ns d n E _ _ _ _ _ _ _ _ _ _ _ _ _ _ m s hm hs hs2]
  simp
end K58

open PySem PySem.W PyProof.Rows
set_option maxHeartbeats 0 in
theorem PySem.Challenge.cw_websbothways_k58_whole_most_ties_without_holds : PySem.Challenge.rw_websbothways_k58_whole_most_ties_without.Holds := by
  w_on; o_law; k_head; (case hw => w_witness2)
  k_fill
  refine L2.walk_of (l := PySem.Challenge.rw_websbothways_k58_whole_most_ties_without) (n := 63) (k := 28) (x := "script") (CX := fun _ => L2.CX0) (sp := fun w => Wv.spF _ [] 1 K58.φ_law) rfl (by decide) rfl ⟨rfl, by decide, by decide⟩ (fun w h Y => PySem.W.kIn_of Y) ?F (fun _ _ a ns hl hO hS => Wv.sp_law hO hS (K58.law_true ns hl)) (fun _ _ _ _ _ h => h)
  case F =>
    intro w mg fa h KX G hmg
    refine' K58.law_mk KX G hmg ?a__law_draws ?l__law_draws ?c__law_draws ?k__law_draws ?a__law_made ?l__law_made ?c__law_made ?k__law_made ?a__law_draw ?l__law_draw ?c__law_draw ?k__law_draw ?a__law_choices ?l__law_choices ?c__law_choices ?k__law_choices ?a__law_full ?l__law_full ?c__law_full ?k__law_full ?a__law_greatest ?l__law_greatest ?c__law_greatest ?k__law_greatest ?a_is_number ?l_is_number ?c_is_number ?k_is_number ?a_is_web ?l_is_web ?c_is_web ?k_is_web ?a_look_at ?l_look_at ?c_look_at ?k_look_at ?a_choices ?l_choices ?c_choices ?k_choices ?a_neighbours ?l_neighbours ?c_neighbours ?k_neighbours ?a_tied ?l_tied ?c_tied ?k_tied ?a_parts_shown ?l_parts_shown ?c_parts_shown ?k_parts_shown ?a_web_of ?l_web_of ?c_web_of ?k_web_of ?a_moved ?l_moved ?c_moved ?k_moved ?a_better ?l_better ?c_better ?k_better ?a_made_parted ?l_made_parted ?c_made_parted ?k_made_parted ?a__law_pairs ?l__law_pairs ?c__law_pairs ?k__law_pairs ?a__law_same ?l__law_same ?c__law_same ?k__law_same ?a__law_web ?l__law_web ?c__law_web ?k__law_web ?a_parted_web ?l_parted_web ?c_parted_web ?k_parted_web ?a_most_ties ?l_most_ties ?c_most_ties ?k_most_ties ?a__law_pick ?l__law_pick ?c__law_pick ?k__law_pick ?a__law_tied ?l__law_tied ?c__law_tied ?k__law_tied ?a__law_shown ?l__law_shown ?c__law_shown ?k__law_shown ?a_all_tied_part ?l_all_tied_part ?c_all_tied_part ?k_all_tied_part ?a_great_ones ?l_great_ones ?c_great_ones ?k_great_ones ?a_greatest_tied ?l_greatest_tied ?c_greatest_tied ?k_greatest_tied ?a_law ?l_law ?c_law ?k_law ?z_all ?z_bool ?z_enumerate ?z_int ?z_isinstance ?z_len ?z_list ?z_max ?z_min ?z_range ?z_sorted ?z_str ?z_tuple ?y_MOST_PLACES
    (case a__law_draws => k_is); (case l__law_draws => k_is); (case c__law_draws => k_is); (case k__law_draws => k_is); (case a__law_made => k_is); (case l__law_made => k_is); (case c__law_made => k_is); (case k__law_made => k_is); (case a__law_draw => k_is); (case l__law_draw => k_is); (case c__law_draw => k_is); (case k__law_draw => k_is); (case a__law_choices => k_is); (case l__law_choices => k_is); (case c__law_choices => k_is); (case k__law_choices => k_is); (case a__law_full => k_is); (case l__law_full => k_is); (case c__law_full => k_is); (case k__law_full => k_is); (case a__law_greatest => k_is); (case l__law_greatest => k_is); (case c__law_greatest => k_is); (case k__law_greatest => k_is); (case a_is_number => k_is); (case l_is_number => k_is); (case c_is_number => k_is); (case k_is_number => k_is); (case a_is_web => k_is); (case l_is_web => k_is); (case c_is_web => k_is); (case k_is_web => k_is); (case a_look_at => k_is); (case l_look_at => k_is); (case c_look_at => k_is); (case k_look_at => k_is); (case a_choices => k_is); (case l_choices => k_is); (case c_choices => k_is); (case k_choices => k_is); (case a_neighbours => k_is); (case l_neighbours => k_is); (case c_neighbours => k_is); (case k_neighbours => k_is); (case a_tied => k_is); (case l_tied => k_is); (case c_tied => k_is); (case k_tied => k_is); (case a_parts_shown => k_is); (case l_parts_shown => k_is); (case c_parts_shown => k_is); (case k_parts_shown => k_is); (case a_web_of => k_is); (case l_web_of => k_is); (case c_web_of => k_is); (case k_web_of => k_is); (case a_moved => k_is); (case l_moved => k_is); (case c_moved => k_is); (case k_moved => k_is); (case a_better => k_is); (case l_better => k_is); (case c_better => k_is); (case k_better => k_is); (case a_made_parted => k_is); (case l_made_parted => k_is); (case c_made_parted => k_is); (case k_made_parted => k_is); (case a__law_pairs => k_is); (case l__law_pairs => k_is); (case c__law_pairs => k_is); (case k__law_pairs => k_is); (case a__law_same => k_is); (case l__law_same => k_is); (case c__law_same => k_is); (case k__law_same => k_is); (case a__law_web => k_is); (case l__law_web => k_is); (case c__law_web => k_is); (case k__law_web => k_is); (case a_parted_web => k_is); (case l_parted_web => k_is); (case c_parted_web => k_is); (case k_parted_web => k_is); (case a_most_ties => k_is); (case l_most_ties => k_is); (case c_most_ties => k_is); (case k_most_ties => k_is); (case a__law_pick => k_is); (case l__law_pick => k_is); (case c__law_pick => k_is); (case k__law_pick => k_is); (case a__law_tied => k_is); (case l__law_tied => k_is); (case c__law_tied => k_is); (case k__law_tied => k_is); (case a__law_shown => k_is); (case l__law_shown => k_is); (case c__law_shown => k_is); (case k__law_shown => k_is); (case a_all_tied_part => k_is); (case l_all_tied_part => k_is); (case c_all_tied_part => k_is); (case k_all_tied_part => k_is); (case a_great_ones => k_is); (case l_great_ones => k_is); (case c_great_ones => k_is); (case k_great_ones => k_is); (case a_greatest_tied => k_is); (case l_greatest_tied => k_is); (case c_greatest_tied => k_is); (case k_greatest_tied => k_is); (case a_law => k_is); (case l_law => k_is); (case c_law => k_is); (case k_law => k_is); (case z_all => k_is); (case z_bool => k_is); (case z_enumerate => k_is); (case z_int => k_is); (case z_isinstance => k_is); (case z_len => k_is); (case z_list => k_is); (case z_max => k_is); (case z_min => k_is); (case z_range => k_is); (case z_sorted => k_is); (case z_str => k_is); (case z_tuple => k_is); (case y_MOST_PLACES => k_is)

